import PyProof.Rows.All
import Wide.All
import OpenK.AllK
import Wide.FinOn
import KE.KStateDown
import HandS.ForMost
import HandS.Exc
import HandS.WordsExc
import HandS.TryOnly
import HandS.Defaults
import HandS.Wide
import HandS.Flow
import HandS.NoneIn
import HandS.Slots
import KE.KDictKeyed
import HandS.CallSlots
import HandS.Evl
import HandS.Head0
import HandS.Head1
import HandS.Head2
import HandS.HeadEnd
import HandS.HeadHook1
import HandS.HeadHook2
import HandS.EndBits
import HandS.Steps
import HandS.IsInst
import HandS.New0
import KE.KSuper
import KE.KExcSuper
import HandS.Nested
import HandS.ClsMeth
import HandS.ExcInit
import HandS.ExcIs
import HandS.ExcField
import HandS.TryMany
import KE.KExcIs
import HandS.SortRule
import HandS.SlotsOwn
import KE.KOpsOwn
import HandS.FStr
import HandS.Text
import HandS.More
import KE.KCallOwn
import HandS.Star
import HandS.OwnIter
import HandS.IterNext
import HandS.DictSub
import PyProof.MeetsIn
import HandS.MakeKw
import HandS.MakeKwOnly
import KE.KStar
import HandS.RevRange
import HandS.Property
import HandS.Dict
import HandS.Style
import HandS.SetBool
import HandS.SetTxt0
import HandS.DictComp
import HandS.SortKw
import KE.KMinKey
import HandS.WordsDict
import HandS.SetFor
import HandS.SetIn
import HandS.Zip
import KE.KDictWalk
import KE.KRevIter
import KE.KDictList
import HandS.Rev
import HandS.TupAny
import HandS.StrMore
import HandS.ExcOwn
import PySem.Challenge.RW_stretchesread_k20_refused_known
set_option Elab.async false
set_option linter.all false
set_option maxRecDepth 100000
namespace DW
open PySem L2

inductive Dt where
  | v (x : V)
  | lst (xs : List Dt)
  | tup (xs : List Dt)
  | obj (C : Addr) (fs : List (Str × Dt))
  | slt (C : Addr) (d : Dt)
  | exc (a : Addr) (dd : Option Addr) (C : Addr) (fs : List (Str × Dt))
  | dct (kvs : List (Key × Dt))
  | dcn (w : World) (kvs : List (Dt × Dt))
  | drw
abbrev Dt.int (i : Int) : Dt := .v (.int i)
abbrev Dt.bl (b : Bool) : Dt := .v (.bl b)
abbrev Dt.str (x : Str) : Dt := .v (.str x)
abbrev Dt.non : Dt := .v .non

mutual
def nkOf : Dt → Option NestedKey
  | .v (.bl b) => some (.num (if b = true then 1 else 0))
  | .v (.int i) => some (.num i)
  | .v (.str x) => some (.text x)
  | .tup ds => (nkOfs ds).map NestedKey.tup
  | _ => none
def nkOfs : List Dt → Option (List NestedKey)
  | [] => some []
  | d :: r => match nkOf d, nkOfs r with
    | some k, some ks => some (k :: ks)
    | _, _ => none
end
structure NEnt where
  key : NestedKey
  ka : Addr
  va : Addr
def rawN (w : World) (a : Addr) (ep : Nat) (es : List NEnt) : Heap → Prop := fun h => ∃ o xs, h.get? a = some o ∧ o.ExactDict ∧ o.data = .dict xs ep ∧ xs.toList = es.map (fun e => (⟨e.key.hash w, .ref e.ka, .ref e.va⟩ : DictEntry)) ∧ (es.map (·.key)).Nodup ∧ es.length ≤ 100000 ∧ (a == sysModules) = false ∧ ∀ e ∈ es, e.key.depth ≤ 8
mutual
inductive Den (K : PySem.W.Frag) (l0 : Addr) (F : Hp) : V → Dt → Prop
  | v (x : V) : Den K l0 F x (.v x)
  | lst {a : Addr} {xs : List V} {ds : List Dt} (h : SqL K F a xs) (r : Dens K l0 F xs ds) : Den K l0 F (.ref a) (.lst ds)
  | tup {a : Addr} {xs : List V} {ds : List Dt} (h : SqT K F a xs) (r : Dens K l0 F xs ds) : Den K l0 F (.ref a) (.tup ds)
  | obj {a C dx : Addr} {fs : List (Str × V)} {gs : List (Str × Dt)} (h : F a = some (.ins C dx fs)) (r : DenF K l0 F fs gs) : Den K l0 F (.ref a) (.obj C gs)
  | slt {a C dx : Addr} {x : V} {d : Dt} (h : F a = some (SlX.SlO a C dx [some x])) (h2 : F dx = some (.xd [])) (ne : dx ≠ a) (r : Den K l0 F x d) : Den K l0 F (.ref a) (.slt C d)
  | exc {a dd C : Addr} {fs : List (Str × V)} {gs : List (Str × Dt)} (h : F dd = some (.xd fs)) (r : DenF K l0 F fs gs) : Den K l0 F (.ref a) (.exc a (some dd) C gs)
  | exc0 {a C : Addr} : Den K l0 F (.ref a) (.exc a none C [])
  | dct {a : Addr} {xs : List (Key × V)} {kvs : List (Key × Dt)} (h : F a = some (.dK xs)) (r : DenK K l0 F xs kvs) : Den K l0 F (.ref a) (.dct kvs)
  | dcn {a : Addr} {w : World} {ep : Nat} {es : List NEnt} {kvs : List (Dt × Dt)} (h : F a = some (.ext (rawN w a ep es))) (r : DenN K l0 F es kvs) : Den K l0 F (.ref a) (.dcn w kvs)
  | drw : Den K l0 F (.ref l0) .drw
inductive Dens (K : PySem.W.Frag) (l0 : Addr) (F : Hp) : List V → List Dt → Prop
  | nil : Dens K l0 F [] []
  | cons {x : V} {d : Dt} {xs : List V} {ds : List Dt} (h : Den K l0 F x d) (t : Dens K l0 F xs ds) : Dens K l0 F (x :: xs) (d :: ds)
inductive DenF (K : PySem.W.Frag) (l0 : Addr) (F : Hp) : List (Str × V) → List (Str × Dt) → Prop
  | nil : DenF K l0 F [] []
  | cons {f : Str} {x : V} {d : Dt} {xs : List (Str × V)} {ds : List (Str × Dt)} (h : Den K l0 F x d) (t : DenF K l0 F xs ds) : DenF K l0 F ((f, x) :: xs) ((f, d) :: ds)
inductive DenK (K : PySem.W.Frag) (l0 : Addr) (F : Hp) : List (Key × V) → List (Key × Dt) → Prop
  | nil : DenK K l0 F [] []
  | cons {f : Key} {x : V} {d : Dt} {xs : List (Key × V)} {ds : List (Key × Dt)} (h : Den K l0 F x d) (t : DenK K l0 F xs ds) : DenK K l0 F ((f, x) :: xs) ((f, d) :: ds)
inductive DenN (K : PySem.W.Frag) (l0 : Addr) (F : Hp) : List NEnt → List (Dt × Dt) → Prop
  | nil : DenN K l0 F [] []
  | cons {e : NEnt} {k d : Dt} {es : List NEnt} {ds : List (Dt × Dt)} (hk : nkOf k = some e.key) (hd : Den K l0 F (.ref e.ka) k) (h : Den K l0 F (.ref e.va) d) (t : DenN K l0 F es ds) : DenN K l0 F (e :: es) ((k, d) :: ds)
end
theorem sameT {K : PySem.W.Frag} {H H' : Hp} {a : Addr} {xs : List V} (e : Same H H') (h : SqT K H a xs) : SqT K H' a xs := by
  rcases h with (h | ⟨o, h⟩) | h
  · exact .inl (.inl (e _ _ h))
  · exact .inl (.inr ⟨o, e _ _ h⟩)
  · exact .inr h
section
variable {K : PySem.W.Frag} {l0 : Addr} {F F' : Hp}
mutual
theorem Den.mono (e : Same F F') : ∀ {v : V} {d : Dt}, Den K l0 F v d → Den K l0 F' v d
  | _, _, .v x => .v x
  | _, _, .lst h r => .lst (e.seq h) (Dens.mono e r)
  | _, _, .tup h r => .tup (sameT e h) (Dens.mono e r)
  | _, _, .obj h r => .obj (e _ _ h) (DenF.mono e r)
  | _, _, .slt h h2 ne r => .slt (e _ _ h) (e _ _ h2) ne (Den.mono e r)
  | _, _, .exc h r => .exc (e _ _ h) (DenF.mono e r)
  | _, _, .exc0 => .exc0
  | _, _, .dct h r => .dct (e _ _ h) (DenK.mono e r)
  | _, _, .dcn h r => .dcn (e _ _ h) (DenN.mono e r)
  | _, _, .drw => .drw
theorem Dens.mono (e : Same F F') : ∀ {v : List V} {d : List Dt}, Dens K l0 F v d → Dens K l0 F' v d
  | _, _, .nil => .nil
  | _, _, .cons h t => .cons (Den.mono e h) (Dens.mono e t)
theorem DenF.mono (e : Same F F') : ∀ {v : List (Str × V)} {d : List (Str × Dt)}, DenF K l0 F v d → DenF K l0 F' v d
  | _, _, .nil => .nil
  | _, _, .cons h t => .cons (Den.mono e h) (DenF.mono e t)
theorem DenK.mono (e : Same F F') : ∀ {v : List (Key × V)} {d : List (Key × Dt)}, DenK K l0 F v d → DenK K l0 F' v d
  | _, _, .nil => .nil
  | _, _, .cons h t => .cons (Den.mono e h) (DenK.mono e t)
theorem DenN.mono (e : Same F F') : ∀ {v : List NEnt} {d : List (Dt × Dt)}, DenN K l0 F v d → DenN K l0 F' v d
  | _, _, .nil => .nil
  | _, _, .cons hk hd h t => .cons hk (Den.mono e hd) (Den.mono e h) (DenN.mono e t)
end
theorem Dens.length : ∀ {xs : List V} {ds : List Dt}, Dens K l0 F xs ds → xs.length = ds.length
  | _, _, .nil => rfl
  | _, _, .cons _ t => congrArg (· + 1) (Dens.length t)
theorem Dens.get : ∀ {xs : List V} {ds : List Dt} {i : Nat} {d : Dt}, Dens K l0 F xs ds → ds[i]? = some d → ∃ x, xs[i]? = some x ∧ Den K l0 F x d
  | _, _, _, _, .nil, e => by simp at e
  | _, _, 0, _, .cons h _, e => by simp at e; subst e; exact ⟨_, rfl, h⟩
  | _, _, i + 1, d, .cons _ t, e => by
    obtain ⟨x, h1, h2⟩ := Dens.get (i := i) (d := d) t (by simpa using e)
    exact ⟨x, by simpa using h1, h2⟩
theorem Dens.getx : ∀ {xs : List V} {ds : List Dt} {i : Nat} {x : V}, Dens K l0 F xs ds → xs[i]? = some x → ∃ d, ds[i]? = some d ∧ Den K l0 F x d
  | _, _, _, _, .nil, e => by simp at e
  | _, _, 0, _, .cons h _, e => by simp at e; subst e; exact ⟨_, rfl, h⟩
  | _, _, i + 1, d, .cons _ t, e => by
    obtain ⟨x, h1, h2⟩ := Dens.getx (i := i) (x := d) t (by simpa using e)
    exact ⟨x, by simpa using h1, h2⟩
theorem Dens.append : ∀ {xs ys : List V} {ds es : List Dt}, Dens K l0 F xs ds → Dens K l0 F ys es → Dens K l0 F (xs ++ ys) (ds ++ es)
  | _, _, _, _, .nil, s => s
  | _, _, _, _, .cons h t, s => .cons h (Dens.append t s)
theorem Dens.one {x : V} {d : Dt} (h : Den K l0 F x d) : Dens K l0 F [x] [d] := .cons h .nil
theorem Dens.ints : ∀ {xs : List V} {ns : List Int}, Dens K l0 F xs (ns.map Dt.int) → xs = ns.map V.int
  | _, [], .nil => rfl
  | _, n :: ns, .cons (.v _) t => by rw [Dens.ints t]; rfl
theorem Dens.ofInts : ∀ ns : List Int, Dens K l0 F (ns.map V.int) (ns.map Dt.int)
  | [] => .nil
  | n :: ns => .cons (.v _) (Dens.ofInts ns)
theorem DenF.look : ∀ {xs : List (Str × V)} {ds : List (Str × Dt)} {f : Str} {d : Dt}, DenF K l0 F xs ds → ds.lookup f = some d → ∃ x, xs.lookup f = some x ∧ Den K l0 F x d
  | _, _, _, _, .nil, e => by simp at e
  | _, _, f, d, .cons (f := g) (x := y) (d := b) h t, e => by
    by_cases q : f = g
    · subst q
      simp at e
      subst e
      exact ⟨_, by simp, h⟩
    · have hb : (f == g) = false := beq_eq_false_iff_ne.mpr q
      rw [List.lookup_cons, hb] at e
      obtain ⟨x, h1, h2⟩ := DenF.look t e
      exact ⟨x, by rw [List.lookup_cons, hb]; exact h1, h2⟩
theorem DenF.none : ∀ {xs : List (Str × V)} {ds : List (Str × Dt)} {f : Str}, DenF K l0 F xs ds → ds.lookup f = Option.none → xs.lookup f = Option.none
  | _, _, _, .nil, _ => by simp
  | _, _, f, .cons (f := g) (x := y) (d := b) h t, e => by
    by_cases q : f = g
    · subst q
      simp at e
    · have hb : (f == g) = false := beq_eq_false_iff_ne.mpr q
      rw [List.lookup_cons, hb] at e ⊢
      exact DenF.none t e
end

structure Base (l0 : Addr) (F H : Hp) : Prop where
  sub : Same F H
  nf : F l0 = none
  dr : ∃ ns : List Int, H l0 = some (.lst (ns.map V.int)) ∧ (∀ n ∈ ns, 0 ≤ n) ∧ ns.length ≤ 100000
structure Go (l0 : Addr) (F H F' H' : Hp) : Prop where
  bs : Base l0 F' H'
  ex : Same F F'
  new : ∀ a, F a = none → F' a ≠ none → H a = none
  keep : ∀ a o, a ≠ l0 → H a = some o → H' a = some o
theorem Base.live {l0 : Addr} {F H : Hp} (b : Base l0 F H) : H l0 ≠ none := by
  obtain ⟨ns, h, _⟩ := b.dr
  rw [h]
  exact fun e => nomatch e
theorem Go.refl {l0 : Addr} {F H : Hp} (b : Base l0 F H) : Go l0 F H F H := ⟨b, fun _ _ h => h, fun _ h1 h2 => absurd h1 h2, fun _ _ _ h => h⟩
theorem Go.trans {l0 : Addr} {F H F1 H1 F2 H2 : Hp} (g : Go l0 F H F1 H1) (k : Go l0 F1 H1 F2 H2) : Go l0 F H F2 H2 where
  bs := k.bs
  ex := fun a o h => k.ex a o (g.ex a o h)
  new := fun a h1 h2 => by
    by_cases q : F1 a = none
    · have z := k.new a q h2
      cases e : H a with
      | none => rfl
      | some o =>
        by_cases w : a = l0
        · subst w
          exact absurd z g.bs.live
        · rw [g.keep a o w e] at z
          cases z
    · exact g.new a h1 q
  keep := fun a o n h => k.keep a o n (g.keep a o n h)
theorem Go.fresh {l0 : Addr} {F H : Hp} (b : Base l0 F H) {p : Addr} (o : HO) (h : H p = none) : Go l0 F H (upd F p o) (upd H p o) := by
  have n0 : p ≠ l0 := fun e => b.live (by rw [← e]; exact h)
  have nF : F p = none := by
    cases e : F p with
    | none => rfl
    | some u =>
      rw [b.sub p u e] at h
      cases h
  refine ⟨⟨fun a u e => ?_, by rw [upd_ne n0.symm]; exact b.nf, ?_⟩, fun a u e => ?_, fun a h1 h2 => ?_, fun a u _ e => ?_⟩
  · by_cases q : a = p
    · subst q
      rw [upd_same] at e ⊢
      exact e
    · rw [upd_ne q] at e ⊢
      exact b.sub a u e
  · obtain ⟨ns, h1, h2⟩ := b.dr
    exact ⟨ns, by rw [upd_ne n0.symm]; exact h1, h2⟩
  · rw [upd_ne (ne_of_none e nF)]
    exact e
  · by_cases q : a = p
    · subst q
      exact h
    · rw [upd_ne q] at h2
      exact absurd h1 h2
  · rw [upd_ne (ne_of_none e h)]
    exact e
theorem Go.loose {l0 : Addr} {F H : Hp} (b : Base l0 F H) {p : Addr} (o : HO) (h : H p = none) : Go l0 F H F (upd H p o) := by
  have n0 : p ≠ l0 := fun e => b.live (by rw [← e]; exact h)
  refine ⟨⟨fun a u e => ?_, b.nf, ?_⟩, fun a u e => e, fun a h1 h2 => absurd h1 h2, fun a u _ e => ?_⟩
  · rw [upd_ne (ne_of_none (b.sub a u e) h)]
    exact b.sub a u e
  · obtain ⟨ns, h1, h2⟩ := b.dr
    exact ⟨ns, by rw [upd_ne n0.symm]; exact h1, h2⟩
  · rw [upd_ne (ne_of_none e h)]
    exact e

inductive OT where
  | dat (d : Dt)
  | lst (a : Addr) (xs : List OT)
  | ins (a dx C : Addr) (fs : List (Str × OT))
  | dct (a : Addr) (w : World) (kvs : List (Dt × OT))
mutual
def OT.ads : OT → List Addr
  | .dat _ => []
  | .lst a xs => a :: adsL xs
  | .ins a dx _ fs => a :: dx :: adsF fs
  | .dct a _ kvs => a :: adsK kvs
def adsL : List OT → List Addr
  | [] => []
  | t :: r => t.ads ++ adsL r
def adsF : List (Str × OT) → List Addr
  | [] => []
  | (_, t) :: r => t.ads ++ adsF r
def adsK : List (Dt × OT) → List Addr
  | [] => []
  | (_, t) :: r => t.ads ++ adsK r
end
mutual
def OT.toD : OT → Dt
  | .dat d => d
  | .lst _ xs => .lst (toDL xs)
  | .ins _ _ C fs => .obj C (toDF fs)
  | .dct _ w kvs => .dcn w (toDK kvs)
def toDL : List OT → List Dt
  | [] => []
  | t :: r => t.toD :: toDL r
def toDF : List (Str × OT) → List (Str × Dt)
  | [] => []
  | (f, t) :: r => (f, t.toD) :: toDF r
def toDK : List (Dt × OT) → List (Dt × Dt)
  | [] => []
  | (k, t) :: r => (k, t.toD) :: toDK r
end
def OT.isDat : OT → Bool
  | .dat _ => true
  | _ => false
mutual
inductive TreV (K : PySem.W.Frag) (l0 : Addr) (F H : Hp) : V → OT → Prop
  | dat {v : V} {d : Dt} (r : Den K l0 F v d) : TreV K l0 F H v (.dat d)
  | lst {a : Addr} {vs : List V} {xs : List OT} (h1 : F a = none) (h2 : a ≠ l0) (h3 : H a = some (.lst vs)) (r : TreVs K l0 F H vs xs) : TreV K l0 F H (.ref a) (.lst a xs)
  | ins {a dx C : Addr} {gs : List (Str × V)} {fs : List (Str × OT)} (h1 : F a = none) (h2 : a ≠ l0) (h3 : H a = some (.ins C dx gs)) (k1 : F dx = none) (k2 : dx ≠ l0) (k3 : H dx = some (.own a)) (r : TreVf K l0 F H gs fs) : TreV K l0 F H (.ref a) (.ins a dx C fs)
  | dct {a : Addr} {w : World} {ep : Nat} {es : List NEnt} {kvs : List (Dt × OT)} (h1 : F a = none) (h2 : a ≠ l0) (h3 : H a = some (.ext (rawN w a ep es))) (r : TreVk K l0 F H es kvs) : TreV K l0 F H (.ref a) (.dct a w kvs)
inductive TreVs (K : PySem.W.Frag) (l0 : Addr) (F H : Hp) : List V → List OT → Prop
  | nil : TreVs K l0 F H [] []
  | cons {v : V} {t : OT} {vs : List V} {ts : List OT} (h : TreV K l0 F H v t) (r : TreVs K l0 F H vs ts) : TreVs K l0 F H (v :: vs) (t :: ts)
inductive TreVf (K : PySem.W.Frag) (l0 : Addr) (F H : Hp) : List (Str × V) → List (Str × OT) → Prop
  | nil : TreVf K l0 F H [] []
  | cons {f : Str} {v : V} {t : OT} {vs : List (Str × V)} {ts : List (Str × OT)} (h : TreV K l0 F H v t) (r : TreVf K l0 F H vs ts) : TreVf K l0 F H ((f, v) :: vs) ((f, t) :: ts)
inductive TreVk (K : PySem.W.Frag) (l0 : Addr) (F H : Hp) : List NEnt → List (Dt × OT) → Prop
  | nil : TreVk K l0 F H [] []
  | cons {e : NEnt} {d : Dt} {t : OT} {es : List NEnt} {ts : List (Dt × OT)} (hk : nkOf d = some e.key) (hd : Den K l0 F (.ref e.ka) d) (h : TreV K l0 F H (.ref e.va) t) (r : TreVk K l0 F H es ts) : TreVk K l0 F H (e :: es) ((d, t) :: ts)
end
inductive Sl where
  | emp
  | dat (d : Dt)
  | own (ds : List Dt)
  | oob (p : Addr × Addr) (C : Addr) (fs : List (Str × Dt))
  | odc (kvs : List (Key × Dt))
  | tre (t : OT)
abbrev Sl.int (i : Int) : Sl := .dat (.v (.int i))
abbrev Sl.bl (b : Bool) : Sl := .dat (.v (.bl b))
abbrev Sl.str (x : Str) : Sl := .dat (.v (.str x))
abbrev Sl.non : Sl := .dat (.v .non)
def Sl.isOwn : Sl → Bool
  | .own _ => true
  | .oob _ _ _ => true
  | .odc _ => true
  | .tre _ => true
  | _ => false
def Sl.inn : Sl → List Addr
  | .tre t => t.ads
  | _ => []
def Sl.owns (s : Sl) (x : Option (Option V)) (a : Addr) : Prop := s.isOwn = true ∧ (x = some (some (.ref a)) ∨ a ∈ s.inn)
def SlV (K : PySem.W.Frag) (l0 : Addr) (F H : Hp) (v : V) : Sl → Prop
  | .emp => False
  | .dat d => Den K l0 F v d
  | .own ds => ∃ l xs, v = .ref l ∧ F l = none ∧ l ≠ l0 ∧ H l = some (.lst xs) ∧ Dens K l0 F xs ds
  | .oob p0 C fs => ∃ a dx gs, v = .ref a ∧ F a = none ∧ a ≠ l0 ∧ H a = some (.ins C dx gs) ∧ DenF K l0 F gs fs ∧ a = p0.1 ∧ dx = p0.2 ∧ F dx = none ∧ dx ≠ l0 ∧ H dx = some (.own a)
  | .odc kvs => ∃ l xs, v = .ref l ∧ F l = none ∧ l ≠ l0 ∧ H l = some (.dK xs) ∧ DenK K l0 F xs kvs
  | .tre t => TreV K l0 F H v t ∧ t.ads.Nodup ∧ t.isDat = false
mutual
theorem TreV.liv {K : PySem.W.Frag} {l0 : Addr} {F H : Hp} : ∀ {v : V} {t : OT}, TreV K l0 F H v t → ∀ a ∈ t.ads, F a = none ∧ a ≠ l0 ∧ ∃ o, H a = some o
  | _, _, .dat _, a, m => nomatch m
  | _, _, .lst h1 h2 h3 r, a, m => (List.mem_cons.mp m).elim (fun e => by subst e; exact ⟨h1, h2, _, h3⟩) (TreVs.liv r a)
  | _, _, .ins h1 h2 h3 k1 k2 k3 r, a, m => (List.mem_cons.mp m).elim (fun e => by subst e; exact ⟨h1, h2, _, h3⟩) fun m => (List.mem_cons.mp m).elim (fun e => by subst e; exact ⟨k1, k2, _, k3⟩) (TreVf.liv r a)
  | _, _, .dct h1 h2 h3 r, a, m => (List.mem_cons.mp m).elim (fun e => by subst e; exact ⟨h1, h2, _, h3⟩) (TreVk.liv r a)
theorem TreVs.liv {K : PySem.W.Frag} {l0 : Addr} {F H : Hp} : ∀ {v : List V} {t : List OT}, TreVs K l0 F H v t → ∀ a ∈ adsL t, F a = none ∧ a ≠ l0 ∧ ∃ o, H a = some o
  | _, _, .nil, a, m => nomatch m
  | _, _, .cons h r, a, m => (List.mem_append.mp m).elim (TreV.liv h a) (TreVs.liv r a)
theorem TreVf.liv {K : PySem.W.Frag} {l0 : Addr} {F H : Hp} : ∀ {v : List (Str × V)} {t : List (Str × OT)}, TreVf K l0 F H v t → ∀ a ∈ adsF t, F a = none ∧ a ≠ l0 ∧ ∃ o, H a = some o
  | _, _, .nil, a, m => nomatch m
  | _, _, .cons h r, a, m => (List.mem_append.mp m).elim (TreV.liv h a) (TreVf.liv r a)
theorem TreVk.liv {K : PySem.W.Frag} {l0 : Addr} {F H : Hp} : ∀ {v : List NEnt} {t : List (Dt × OT)}, TreVk K l0 F H v t → ∀ a ∈ adsK t, F a = none ∧ a ≠ l0 ∧ ∃ o, H a = some o
  | _, _, .nil, a, m => nomatch m
  | _, _, .cons _ _ h r, a, m => (List.mem_append.mp m).elim (TreV.liv h a) (TreVk.liv r a)
end
mutual
theorem TreV.frm {K : PySem.W.Frag} {l0 : Addr} {F H F' H' : Hp} (e : Same F F') : ∀ {v : V} {t : OT}, TreV K l0 F H v t → (∀ a ∈ t.ads, F' a = none) → (∀ a ∈ t.ads, ∀ o, H a = some o → H' a = some o) → TreV K l0 F' H' v t
  | _, _, .dat r, _, _ => .dat (Den.mono e r)
  | _, _, .lst h1 h2 h3 r, q1, q2 => .lst (q1 _ List.mem_cons_self) h2 (q2 _ List.mem_cons_self _ h3) (TreVs.frm e r (fun a m => q1 a (List.mem_cons_of_mem _ m)) fun a m => q2 a (List.mem_cons_of_mem _ m))
  | _, _, .ins h1 h2 h3 k1 k2 k3 r, q1, q2 => .ins (q1 _ List.mem_cons_self) h2 (q2 _ List.mem_cons_self _ h3) (q1 _ (List.mem_cons_of_mem _ List.mem_cons_self)) k2 (q2 _ (List.mem_cons_of_mem _ List.mem_cons_self) _ k3) (TreVf.frm e r (fun a m => q1 a (List.mem_cons_of_mem _ (List.mem_cons_of_mem _ m))) fun a m => q2 a (List.mem_cons_of_mem _ (List.mem_cons_of_mem _ m)))
  | _, _, .dct h1 h2 h3 r, q1, q2 => .dct (q1 _ List.mem_cons_self) h2 (q2 _ List.mem_cons_self _ h3) (TreVk.frm e r (fun a m => q1 a (List.mem_cons_of_mem _ m)) fun a m => q2 a (List.mem_cons_of_mem _ m))
theorem TreVs.frm {K : PySem.W.Frag} {l0 : Addr} {F H F' H' : Hp} (e : Same F F') : ∀ {v : List V} {t : List OT}, TreVs K l0 F H v t → (∀ a ∈ adsL t, F' a = none) → (∀ a ∈ adsL t, ∀ o, H a = some o → H' a = some o) → TreVs K l0 F' H' v t
  | _, _, .nil, _, _ => .nil
  | _, _, .cons h r, q1, q2 => .cons (TreV.frm e h (fun a m => q1 a (List.mem_append_left _ m)) fun a m => q2 a (List.mem_append_left _ m)) (TreVs.frm e r (fun a m => q1 a (List.mem_append_right _ m)) fun a m => q2 a (List.mem_append_right _ m))
theorem TreVf.frm {K : PySem.W.Frag} {l0 : Addr} {F H F' H' : Hp} (e : Same F F') : ∀ {v : List (Str × V)} {t : List (Str × OT)}, TreVf K l0 F H v t → (∀ a ∈ adsF t, F' a = none) → (∀ a ∈ adsF t, ∀ o, H a = some o → H' a = some o) → TreVf K l0 F' H' v t
  | _, _, .nil, _, _ => .nil
  | _, _, .cons h r, q1, q2 => .cons (TreV.frm e h (fun a m => q1 a (List.mem_append_left _ m)) fun a m => q2 a (List.mem_append_left _ m)) (TreVf.frm e r (fun a m => q1 a (List.mem_append_right _ m)) fun a m => q2 a (List.mem_append_right _ m))
theorem TreVk.frm {K : PySem.W.Frag} {l0 : Addr} {F H F' H' : Hp} (e : Same F F') : ∀ {v : List NEnt} {t : List (Dt × OT)}, TreVk K l0 F H v t → (∀ a ∈ adsK t, F' a = none) → (∀ a ∈ adsK t, ∀ o, H a = some o → H' a = some o) → TreVk K l0 F' H' v t
  | _, _, .nil, _, _ => .nil
  | _, _, .cons hk hd h r, q1, q2 => .cons hk (Den.mono e hd) (TreV.frm e h (fun a m => q1 a (List.mem_append_left _ m)) fun a m => q2 a (List.mem_append_left _ m)) (TreVk.frm e r (fun a m => q1 a (List.mem_append_right _ m)) fun a m => q2 a (List.mem_append_right _ m))
end
mutual
theorem TreV.den {K : PySem.W.Frag} {l0 : Addr} {F H F' : Hp} (e : Same F F') : ∀ {v : V} {t : OT}, TreV K l0 F H v t → (∀ a ∈ t.ads, F' a = H a) → Den K l0 F' v t.toD
  | _, _, .dat r, _ => Den.mono e r
  | _, _, .lst h1 h2 h3 r, q => .lst (.inl (.inl ((q _ List.mem_cons_self).trans h3))) (TreVs.den e r fun a m => q a (List.mem_cons_of_mem _ m))
  | _, _, .ins h1 h2 h3 k1 k2 k3 r, q => .obj ((q _ List.mem_cons_self).trans h3) (TreVf.den e r fun a m => q a (List.mem_cons_of_mem _ (List.mem_cons_of_mem _ m)))
  | _, _, .dct h1 h2 h3 r, q => .dcn ((q _ List.mem_cons_self).trans h3) (TreVk.den e r fun a m => q a (List.mem_cons_of_mem _ m))
theorem TreVs.den {K : PySem.W.Frag} {l0 : Addr} {F H F' : Hp} (e : Same F F') : ∀ {v : List V} {t : List OT}, TreVs K l0 F H v t → (∀ a ∈ adsL t, F' a = H a) → Dens K l0 F' v (toDL t)
  | _, _, .nil, _ => .nil
  | _, _, .cons h r, q => .cons (TreV.den e h fun a m => q a (List.mem_append_left _ m)) (TreVs.den e r fun a m => q a (List.mem_append_right _ m))
theorem TreVf.den {K : PySem.W.Frag} {l0 : Addr} {F H F' : Hp} (e : Same F F') : ∀ {v : List (Str × V)} {t : List (Str × OT)}, TreVf K l0 F H v t → (∀ a ∈ adsF t, F' a = H a) → DenF K l0 F' v (toDF t)
  | _, _, .nil, _ => .nil
  | _, _, .cons h r, q => .cons (TreV.den e h fun a m => q a (List.mem_append_left _ m)) (TreVf.den e r fun a m => q a (List.mem_append_right _ m))
theorem TreVk.den {K : PySem.W.Frag} {l0 : Addr} {F H F' : Hp} (e : Same F F') : ∀ {v : List NEnt} {t : List (Dt × OT)}, TreVk K l0 F H v t → (∀ a ∈ adsK t, F' a = H a) → DenN K l0 F' v (toDK t)
  | _, _, .nil, _ => .nil
  | _, _, .cons hk hd h r, q => .cons hk (Den.mono e hd) (TreV.den e h fun a m => q a (List.mem_append_left _ m)) (TreVk.den e r fun a m => q a (List.mem_append_right _ m))
end
theorem TreV.root {K : PySem.W.Frag} {l0 : Addr} {F H : Hp} {v : V} {t : OT} (h : TreV K l0 F H v t) (n : t.isDat = false) : ∃ a, v = .ref a ∧ a ∈ t.ads := by
  cases h with
  | dat r => cases n
  | lst h1 h2 h3 r => exact ⟨_, rfl, List.mem_cons_self⟩
  | ins h1 h2 h3 k1 k2 k3 r => exact ⟨_, rfl, List.mem_cons_self⟩
  | dct h1 h2 h3 r => exact ⟨_, rfl, List.mem_cons_self⟩
theorem SlV.liv {K : PySem.W.Frag} {l0 : Addr} {F H : Hp} {v : V} {s : Sl} {a : Addr} (h : SlV K l0 F H v s) (w : s.owns (some (some v)) a) : F a = none ∧ a ≠ l0 ∧ ∃ o, H a = some o := by
  obtain ⟨o, w⟩ := w
  cases s with
  | emp => cases o
  | dat d => cases o
  | own ds =>
    obtain ⟨l, xs, e, h1, h2, h3, _⟩ := h
    rcases w with w | w
    · subst e; cases w; exact ⟨h1, h2, _, h3⟩
    · exact nomatch w
  | oob p0 C fs =>
    obtain ⟨l, dx, gs, e, h1, h2, h3, _⟩ := h
    rcases w with w | w
    · subst e; cases w; exact ⟨h1, h2, _, h3⟩
    · exact nomatch w
  | odc kvs =>
    obtain ⟨l, xs, e, h1, h2, h3, _⟩ := h
    rcases w with w | w
    · subst e; cases w; exact ⟨h1, h2, _, h3⟩
    · exact nomatch w
  | tre t =>
    obtain ⟨r, _, n⟩ := h
    rcases w with w | w
    · obtain ⟨b, e, m⟩ := r.root n
      subst e; cases w
      exact r.liv _ m
    · exact r.liv a w
theorem SlV.go {K : PySem.W.Frag} {l0 : Addr} {F H F' H' : Hp} {v : V} {s : Sl} (g : Go l0 F H F' H') (h : SlV K l0 F H v s) : SlV K l0 F' H' v s := by
  have stay : ∀ {l : Addr} {o : HO}, F l = none → H l = some o → F' l = none := fun {l o} h1 h2 => by
    cases e : F' l with
    | none => rfl
    | some u =>
      have z := g.new l h1 (by rw [e]; exact fun z => nomatch z)
      rw [h2] at z
      cases z
  cases s with
  | emp => exact h
  | dat d => exact Den.mono g.ex h
  | own ds =>
    obtain ⟨l, xs, e, h1, h2, h3, h4⟩ := h
    exact ⟨l, xs, e, stay h1 h3, h2, g.keep _ _ h2 h3, Dens.mono g.ex h4⟩
  | oob p0 C fs =>
    obtain ⟨a, dx, gs, e, h1, h2, h3, h4⟩ := h
    obtain ⟨h4, e1, e2, z1, z2, z3⟩ := h4
    exact ⟨a, dx, gs, e, stay h1 h3, h2, g.keep _ _ h2 h3, DenF.mono g.ex h4, e1, e2, stay z1 z3, z2, g.keep _ _ z2 z3⟩
  | odc kvs =>
    obtain ⟨l, xs, e, h1, h2, h3, h4⟩ := h
    exact ⟨l, xs, e, stay h1 h3, h2, g.keep _ _ h2 h3, DenK.mono g.ex h4⟩
  | tre t =>
    obtain ⟨r, nd, n⟩ := h
    exact ⟨r.frm g.ex (fun a m => by obtain ⟨h1, _, o, h3⟩ := r.liv a m; exact stay h1 h3) fun a m o e => g.keep a o (r.liv a m).2.1 e, nd, n⟩
abbrev En := List Sl
structure Stt (K : PySem.W.Frag) (l0 : Addr) (F H : Hp) (σ : L2.St) (ρ : En) : Prop where
  bs : Base l0 F H
  len : ρ.length = σ.length
  sl : ∀ (i : Nat) (s : Sl), ρ[i]? = some s → s = .emp ∨ ∃ v, σ[i]? = some (some v) ∧ SlV K l0 F H v s
  ap2 : ∀ (i j : Nat) (s t : Sl) (a : Addr), ρ[i]? = some s → ρ[j]? = some t → s.owns σ[i]? a → t.owns σ[j]? a → i = j
theorem Stt.ap {K : PySem.W.Frag} {l0 : Addr} {F H : Hp} {σ : L2.St} {ρ : En} (S : Stt K l0 F H σ ρ) (i j : Nat) (s t : Sl) (a : Addr) (h1 : ρ[i]? = some s) (h2 : ρ[j]? = some t) (o1 : s.isOwn = true) (o2 : t.isOwn = true) (e1 : σ[i]? = some (some (.ref a))) (e2 : σ[j]? = some (some (.ref a))) : i = j := S.ap2 i j s t a h1 h2 ⟨o1, .inl e1⟩ ⟨o2, .inl e2⟩
theorem Stt.go {K : PySem.W.Frag} {l0 : Addr} {F H F' H' : Hp} {σ : L2.St} {ρ : En} (S : Stt K l0 F H σ ρ) (g : Go l0 F H F' H') : Stt K l0 F' H' σ ρ :=
  ⟨g.bs, S.len, fun i s h => (S.sl i s h).imp id fun ⟨v, h1, h2⟩ => ⟨v, h1, h2.go g⟩, S.ap2⟩
def Ow (σ : L2.St) (ρ : En) (a : Addr) : Prop := ∃ (i : Nat) (s : Sl), ρ[i]? = some s ∧ s.owns σ[i]? a
structure GoS (l0 : Addr) (F H : Hp) (σ : L2.St) (ρ : En) (F' H' : Hp) : Prop where
  bs : Base l0 F' H'
  ex : Same F F'
  new : ∀ a, F a = none → F' a ≠ none → H a = none ∨ Ow σ ρ a
  keep : ∀ a o, a ≠ l0 → ¬ Ow σ ρ a → H a = some o → H' a = some o
def OwS (H : Hp) (σ : L2.St) (ρ : En) (σ' : L2.St) (ρ' : En) : Prop := ∀ a, Ow σ' ρ' a → Ow σ ρ a ∨ H a = none
theorem GoS.of {l0 : Addr} {F H F' H' : Hp} {σ : L2.St} {ρ : En} (g : Go l0 F H F' H') : GoS l0 F H σ ρ F' H' := ⟨g.bs, g.ex, fun a h1 h2 => .inl (g.new a h1 h2), fun a o h _ e => g.keep a o h e⟩
theorem OwS.refl {H : Hp} {σ : L2.St} {ρ : En} : OwS H σ ρ σ ρ := fun _ h => .inl h
theorem GoS.back {l0 : Addr} {F H F1 H1 : Hp} {σ : L2.St} {ρ : En} (g : GoS l0 F H σ ρ F1 H1) (b : Base l0 F H) {a : Addr} (h : H1 a = none) : H a = none ∨ Ow σ ρ a := by
  cases e : H a with
  | none => exact .inl rfl
  | some o =>
    by_cases w : a = l0
    · subst w
      exact absurd h g.bs.live
    · by_cases q : Ow σ ρ a
      · exact .inr q
      · rw [g.keep a o w q e] at h
        cases h
theorem GoS.trans {l0 : Addr} {F H F1 H1 F2 H2 : Hp} {σ σ1 : L2.St} {ρ ρ1 : En} (b : Base l0 F H) (g : GoS l0 F H σ ρ F1 H1) (w : OwS H σ ρ σ1 ρ1) (k : GoS l0 F1 H1 σ1 ρ1 F2 H2) : GoS l0 F H σ ρ F2 H2 where
  bs := k.bs
  ex := fun a o h => k.ex a o (g.ex a o h)
  new := fun a h1 h2 => by
    by_cases q : F1 a = none
    · rcases k.new a q h2 with z | z
      · exact g.back b z
      · exact (w a z).symm
    · exact g.new a h1 q
  keep := fun a o n h e => by
    refine k.keep a o n (fun z => ?_) (g.keep a o n h e)
    rcases w a z with z | z
    · exact h z
    · rw [e] at z
      cases z
theorem OwS.trans {l0 : Addr} {F H F1 H1 : Hp} {σ σ1 σ2 : L2.St} {ρ ρ1 ρ2 : En} (b : Base l0 F H) (g : GoS l0 F H σ ρ F1 H1) (w : OwS H σ ρ σ1 ρ1) (k : OwS H1 σ1 ρ1 σ2 ρ2) : OwS H σ ρ σ2 ρ2 := fun a h => by
  rcases k a h with z | z
  · exact w a z
  · exact (g.back b z).symm

structure Xn where
  cls : Addr
  fs : List (Str × Dt)
def XDen (K : PySem.W.Frag) (l0 : Addr) (F H : Hp) (cls : Value) (d : Option Addr) (x : Xn) : Prop :=
  cls = .ref x.cls ∧ ((d = none ∧ x.fs = []) ∨ ∃ dd gs, d = some dd ∧ F dd = some (.xd gs) ∧ DenF K l0 F gs x.fs)

abbrev DE := En → (Sl → Prop) → (Xn → Prop) → Prop
abbrev DA := En → (List Sl → Prop) → (Xn → Prop) → Prop
abbrev DTt := En → (Bool → Prop) → (Xn → Prop) → Prop
structure DEnds where
  nx : En → Prop
  rt : Dt → Prop
  bk : En → Prop := fun _ => False
  ct : En → Prop := fun _ => False
  ex : Xn → En → Prop := fun _ _ => False
  rs : Dt → En → Prop := fun _ _ => False
abbrev DS := DEnds → En → Prop
abbrev DG := Sl → En → (En → Prop) → Prop
abbrev D2 := Sl → Sl → (Sl → Prop) → Prop
abbrev D1 := Sl → (Sl → Prop) → Prop
abbrev DCl := List Sl → (Sl → Prop) → Prop

def KV1 (K : PySem.W.Frag) (l0 : Addr) (F H : Hp) (Q : Sl → Prop) (Qc : VK) : Prop := ∀ v s F' H', Go l0 F H F' H' → SlV K l0 F' H' v s → Q s → Qc v H'
def KX (K : PySem.W.Frag) (W : WX) (l0 : Addr) (F H : Hp) (σ : L2.St) (E : Xn → Prop) : Prop := ∀ cls d x F' H', Go l0 F H F' H' → XDen K l0 F' H' cls d x → E x → W cls d σ H'
def SndE (K : PySem.W.Frag) (W : WX) (te : TE) (de : DE) : Prop := ∀ ρ Q E, de ρ Q E → ∀ l0 F H σ, Stt K l0 F H σ ρ → ∀ Qc : VK, KV1 K l0 F H Q Qc → KX K W l0 F H σ E → te σ H Qc
def SndT (K : PySem.W.Frag) (W : WX) (tt : TT) (dt : DTt) : Prop := ∀ ρ Q E, dt ρ Q E → ∀ l0 F H σ, Stt K l0 F H σ ρ → ∀ Qc : Bool → Hp → Prop, (∀ b F' H', Go l0 F H F' H' → Q b → Qc b H') → KX K W l0 F H σ E → tt σ H Qc
def SndA (K : PySem.W.Frag) (W : WX) (ta : TA) (da : DA) : Prop := ∀ ρ Q E, da ρ Q E → ∀ l0 F H σ, Stt K l0 F H σ ρ → ∀ Qc : List V → Hp → Prop,
  (∀ vs ss F' H', Go l0 F H F' H' → Paired (SlV K l0 F' H') vs ss → Q ss → Qc vs H') → KX K W l0 F H σ E → ta σ H Qc
structure Lnk (K : PySem.W.Frag) (W : WX) (l0 : Addr) (F H : Hp) (σ : L2.St) (ρ : En) (D : DEnds) (C : Ends) : Prop where
  nx : ∀ F' H' σ' ρ', GoS l0 F H σ ρ F' H' → OwS H σ ρ σ' ρ' → Stt K l0 F' H' σ' ρ' → D.nx ρ' → C.nx σ' H'
  rt : ∀ F' H' v d, GoS l0 F H σ ρ F' H' → Den K l0 F' v d → D.rt d → C.rt v H'
  bk : ∀ F' H' σ' ρ', GoS l0 F H σ ρ F' H' → OwS H σ ρ σ' ρ' → Stt K l0 F' H' σ' ρ' → D.bk ρ' → C.bk σ' H'
  ct : ∀ F' H' σ' ρ', GoS l0 F H σ ρ F' H' → OwS H σ ρ σ' ρ' → Stt K l0 F' H' σ' ρ' → D.ct ρ' → C.ct σ' H'
  ex : ∀ cls d x F' H' σ' ρ', GoS l0 F H σ ρ F' H' → OwS H σ ρ σ' ρ' → Stt K l0 F' H' σ' ρ' → XDen K l0 F' H' cls d x → D.ex x ρ' → W cls d σ' H'
  rs : ∀ F' H' σ' ρ' v d, GoS l0 F H σ ρ F' H' → OwS H σ ρ σ' ρ' → Stt K l0 F' H' σ' ρ' → Den K l0 F' v d → D.rs d ρ' → C.rt v H'
theorem Lnk.trans {K : PySem.W.Frag} {W : WX} {l0 : Addr} {F H F1 H1 : Hp} {σ σ1 : L2.St} {ρ ρ1 : En} {D : DEnds} {C : Ends} (L : Lnk K W l0 F H σ ρ D C) (b : Base l0 F H) (g : GoS l0 F H σ ρ F1 H1) (w : OwS H σ ρ σ1 ρ1) : Lnk K W l0 F1 H1 σ1 ρ1 D C where
  nx := fun F' H' σ' ρ' g' w' S q => L.nx F' H' σ' ρ' (g.trans b w g') (OwS.trans b g w w') S q
  rt := fun F' H' v d g' r q => L.rt F' H' v d (g.trans b w g') r q
  bk := fun F' H' σ' ρ' g' w' S q => L.bk F' H' σ' ρ' (g.trans b w g') (OwS.trans b g w w') S q
  ct := fun F' H' σ' ρ' g' w' S q => L.ct F' H' σ' ρ' (g.trans b w g') (OwS.trans b g w w') S q
  ex := fun cls d x F' H' σ' ρ' g' w' S r q => L.ex cls d x F' H' σ' ρ' (g.trans b w g') (OwS.trans b g w w') S r q
  rs := fun F' H' σ' ρ' v d g' w' S r q => L.rs F' H' σ' ρ' v d (g.trans b w g') (OwS.trans b g w w') S r q
theorem Lnk.kx {K : PySem.W.Frag} {W : WX} {l0 : Addr} {F H : Hp} {σ : L2.St} {ρ : En} {D : DEnds} {C : Ends} (L : Lnk K W l0 F H σ ρ D C) (S : Stt K l0 F H σ ρ) : KX K W l0 F H σ (fun x => D.ex x ρ) :=
  fun cls d x F' H' g r q => L.ex cls d x F' H' σ ρ (.of g) .refl (S.go g) r q
def SndS (K : PySem.W.Frag) (W : WX) (ts : TS) (ds : DS) : Prop := ∀ D ρ, ds D ρ → ∀ l0 F H σ, Stt K l0 F H σ ρ → ∀ C, Lnk K W l0 F H σ ρ D C → ts C σ H
def SndG (K : PySem.W.Frag) (ts : List Nat) (g : TG) (dg : DG) : Prop := ∀ s ρ R, dg s ρ R → ∀ l0 F H σ v, Stt K l0 F H σ ρ → SlV K l0 F H v s → ∀ Rc : L2.St → Hp → Prop,
  (∀ F' H' σ' ρ', Go l0 F H F' H' → OwS H σ ρ σ' ρ' → Stt K l0 F' H' σ' ρ' → (∀ vs : List Nat, (∀ j ∈ ts, j ∈ vs) → wipe σ' vs = wipe σ vs) → R ρ' → Rc σ' H') → g v σ H Rc
def SndR (K : PySem.W.Frag) (r : R2) (rd : D2) : Prop := ∀ x y s t Q, rd s t Q → ∀ l0 F H, Base l0 F H → SlV K l0 F H x s → SlV K l0 F H y t → ∀ Qc : VK, KV1 K l0 F H Q Qc → r x y H Qc
def SndU (K : PySem.W.Frag) (r : V → Hp → VK → Prop) (rd : D1) : Prop := ∀ x s Q, rd s Q → ∀ l0 F H, Base l0 F H → SlV K l0 F H x s → ∀ Qc : VK, KV1 K l0 F H Q Qc → r x H Qc
def SndC (K : PySem.W.Frag) (r : List V → Hp → VK → Prop) (rd : DCl) : Prop := ∀ vs ss Q, rd ss Q → ∀ l0 F H, Base l0 F H → Paired (SlV K l0 F H) vs ss → ∀ Qc : VK, KV1 K l0 F H Q Qc → r vs H Qc

def DEX (X : Cx) (W : WX) (e : Expr) (te : TE) (de : DE) : Prop := PE X e te ∧ SndE X.K W te de
def DTX (X : Cx) (W : WX) (e : Expr) (tt : TT) (dt : DTt) : Prop := PT X e tt ∧ SndT X.K W tt dt
def DWX (X : Cx) (W : WX) (e : Expr) (tt : TT) (dt : DTt) : Prop := PW X e tt ∧ SndT X.K W tt dt
def DAX (X : Cx) (W : WX) (es : List Expr) (ta : TA) (da : DA) : Prop := PA X es ta ∧ SndA X.K W ta da
def DSX (X : Cx) (W : WX) (st : Stmt) (ts : TS) (ds : DS) : Prop := PS X st ts ∧ SndS X.K W ts ds
def DSSX (X : Cx) (W : WX) (st : List Stmt) (ts : TS) (ds : DS) : Prop := PSs X st ts ∧ SndS X.K W ts ds
def DGX (X : Cx) (tg : Expr) (ts : List Nat) (g : TG) (dg : DG) : Prop := PG X tg g ∧ SndG X.K ts g dg
end DW

set_option Elab.async false
set_option linter.all false
set_option maxRecDepth 100000
namespace DW
open PySem L2
def useS : Sl → (Sl → Prop) → Prop
  | .emp, _ => False
  | s, Q => Q s
def dVar (i : Nat) : DE := fun ρ Q _ => useS (ρ.getD i .emp) Q
def dC (x : V) : DE := fun _ Q _ => Q (.dat (.v x))
def dOp (rd : D2) (da db : DE) : DE := fun ρ Q E => da ρ (fun x => db ρ (fun y => rd x y Q) E) E
def dUn (rd : D1) (da : DE) : DE := fun ρ Q E => da ρ (fun x => rd x Q) E
def blS : Sl → (Bool → Prop) → Prop
  | .dat (.v (.bl b)), Q => Q b
  | _, _ => False
def dTest (de : DE) : DTt := fun ρ Q E => de ρ (fun s => blS s Q) E
def dChain (r r' : D2) (da db dc : DE) : DE := fun ρ Q E => da ρ (fun x => db ρ (fun y => r x y fun z => blS z fun b => if b = true then dc ρ (fun w => r' y w Q) E else Q (.dat (.v (.bl false)))) E) E
def dAnd (a b : DTt) : DTt := fun ρ Q E => a ρ (fun c => if c = true then b ρ Q E else Q false) E
def dOr (a b : DTt) : DTt := fun ρ Q E => a ρ (fun c => if c = true then Q true else b ρ Q E) E
def dNot (a : DTt) : DTt := fun ρ Q E => a ρ (fun c => Q (!c)) E
def dAndV (a b : DE) : DE := fun ρ Q E => a ρ (fun s => blS s fun c => if c = true then b ρ Q E else Q (.dat (.v (.bl false)))) E
def dOrV (a b : DE) : DE := fun ρ Q E => a ρ (fun s => blS s fun c => if c = true then Q (.dat (.v (.bl true))) else b ρ Q E) E
def dIf (t : DTt) (a b : DE) : DE := fun ρ Q E => t ρ (fun c => if c = true then a ρ Q E else b ρ Q E) E
def dNil : DA := fun _ Q _ => Q []
def dCons (a : DE) (r : DA) : DA := fun ρ Q E => a ρ (fun x => r ρ (fun xs => Q (x :: xs)) E) E
def plain : List Sl → (List Dt → Prop) → Prop
  | [], Q => Q []
  | .dat d :: r, Q => plain r fun ds => Q (d :: ds)
  | _ :: _, _ => False
def dTup (a : DA) : DE := fun ρ Q E => a ρ (fun ss => ss.length ≤ 100000 ∧ plain ss fun ds => Q (.dat (.tup ds))) E
def dLst (a : DA) : DE := fun ρ Q E => a ρ (fun ss => ss.length ≤ 100000 ∧ plain ss fun ds => Q (.dat (.lst ds))) E
def dCB (r : DCl) (a : DA) : DE := fun ρ Q E => a ρ (fun ss => r ss Q) E
def truS : Sl → (Bool → Prop) → Prop
  | .dat (.v .non), Q => Q false
  | .dat (.v (.bl b)), Q => Q b
  | .dat (.v (.int i)), Q => Q (i != 0)
  | .dat (.v (.str x)), Q => x.length ≤ 100000 ∧ Q ((x.length : Int) != 0)
  | .dat (.lst ds), Q => Q (!ds.isEmpty)
  | .dat (.tup ds), Q => Q (!ds.isEmpty)
  | .own ds, Q => Q (!ds.isEmpty)
  | _, _ => False
def dTru (a : DE) : DTt := fun ρ Q E => a ρ (fun s => truS s Q) E
def dOrT (a b : DE) : DE := fun ρ Q E => a ρ (fun s => truS s fun c => if c = true then Q s else b ρ Q E) E
def d2I (C : Int → Int → Prop) (g : Int → Int → V) : D2
  | .dat (.v (.int i)), .dat (.v (.int j)), Q => C i j ∧ Q (.dat (.v (g i j)))
  | _, _, _ => False
def d2I0 (g : Int → Int → V) : D2
  | .dat (.v (.int i)), .dat (.v (.int j)), Q => Q (.dat (.v (g i j)))
  | _, _, _ => False
def d1I (g : Int → V) : D1
  | .dat (.v (.int i)), Q => Q (.dat (.v (g i)))
  | _, _ => False
def dSub : D2 := d2I0 fun i j => .int (i - j)
def dMul : D2 := d2I (fun i j => (-(2 ^ 64) < i ∧ i < 2 ^ 64) ∨ (-(2 ^ 64) < j ∧ j < 2 ^ 64) ∨ (i.natAbs < 2 ^ 250 ∧ j.natAbs < 2 ^ 250)) fun i j => .int (i * j)
def dFdiv : D2 := d2I (fun _ j => 0 < j ∧ j < 2 ^ 250) fun i j => .int (i / j)
def dMod : D2 := d2I (fun _ j => 0 < j) fun i j => .int (i % j)
def dPow : D2 := d2I CPow fun i j => .int (i ^ j.toNat)
def dLt : D2 := d2I0 fun i j => .bl (decide (i < j))
def dLe : D2 := d2I0 fun i j => .bl (decide (i ≤ j))
def dGt : D2 := d2I0 fun i j => .bl (decide (j < i))
def dGe : D2 := d2I0 fun i j => .bl (decide (j ≤ i))
def dNeg : D1 := d1I fun i => .int (-i)
def dIx : D2
  | .dat (.lst ds), .dat (.v (.int i)), Q => ∃ d, atI ds i = some d ∧ Q (.dat d)
  | .dat (.tup ds), .dat (.v (.int i)), Q => ∃ d, atI ds i = some d ∧ Q (.dat d)
  | .own ds, .dat (.v (.int i)), Q => ∃ d, atI ds i = some d ∧ Q (.dat d)
  | _, _, _ => False
def dAbs : DCl
  | [.dat (.v (.int i))], Q => Q (.dat (.v (.int (if i < 0 then -i else i))))
  | _, _ => False
def dMax2 : DCl
  | [.dat (.v (.int i)), .dat (.v (.int j))], Q => Q (.dat (.v (.int (if j > i then j else i))))
  | _, _ => False
def dMin2 : DCl
  | [.dat (.v (.int i)), .dat (.v (.int j))], Q => Q (.dat (.v (.int (if j < i then j else i))))
  | _, _ => False
def dLen : DCl
  | [.dat (.lst ds)], Q => Q (.dat (.v (.int ds.length)))
  | [.dat (.tup ds)], Q => Q (.dat (.v (.int ds.length)))
  | [.own ds], Q => Q (.dat (.v (.int ds.length)))
  | [.dat (.v (.str x))], Q => x.length ≤ 100000 ∧ Q (.dat (.v (.int x.length)))
  | _, _ => False
def dInt1 : DCl
  | [.dat (.v (.int i))], Q => Q (.dat (.v (.int i)))
  | [.dat (.v (.bl b))], Q => Q (.dat (.v (.int (if b then 1 else 0))))
  | _, _ => False
def dMaxL : DCl
  | [.dat (.lst ds)], Q => ∃ ns : List Int, ds = ns.map Dt.int ∧ 0 < ns.length ∧ ∀ m, m ∈ ns → (∀ y, y ∈ ns → y ≤ m) → Q (.dat (.v (.int m)))
  | _, _ => False
def dMinL : DCl
  | [.dat (.lst ds)], Q => ∃ ns : List Int, ds = ns.map Dt.int ∧ 0 < ns.length ∧ ∀ m, m ∈ ns → (∀ y, y ∈ ns → m ≤ y) → Q (.dat (.v (.int m)))
  | _, _ => False
section
variable {K : PySem.W.Frag} {W : WX} {l0 : Addr} {F H F' H' : Hp} {σ : L2.St} {ρ : En} {v : V} {s : Sl}
theorem KX.go {E : Xn → Prop} (k : KX K W l0 F H σ E) (g : Go l0 F H F' H') : KX K W l0 F' H' σ E := fun cls d x F2 H2 g2 r q => k cls d x F2 H2 (g.trans g2) r q
theorem KV1.go {Q : Sl → Prop} {Qc : VK} (k : KV1 K l0 F H Q Qc) (g : Go l0 F H F' H') : KV1 K l0 F' H' Q Qc := fun v s F2 H2 g2 r q => k v s F2 H2 (g.trans g2) r q
theorem KV1.here {Q : Sl → Prop} {Qc : VK} (k : KV1 K l0 F H Q Qc) (b : Base l0 F H) {x : V} (q : Q (.dat (.v x))) : Qc x H := k x (.dat (.v x)) F H (.refl b) (.v x) q
theorem KV1.dat {Q : Sl → Prop} {Qc : VK} (k : KV1 K l0 F H Q Qc) (b : Base l0 F H) {x : V} {d : Dt} (r : Den K l0 F x d) (q : Q (.dat d)) : Qc x H := k x (.dat d) F H (.refl b) r q
theorem SlV.int {i : Int} (h : SlV K l0 F H v (.dat (.v (.int i)))) : v = .int i := by cases h; rfl
theorem SlV.val {x : V} (h : SlV K l0 F H v (.dat (.v x))) : v = x := by cases h; rfl
theorem SlV.lst {ds : List Dt} (h : SlV K l0 F H v (.dat (.lst ds))) : ∃ a xs, v = .ref a ∧ SqL K F a xs ∧ Dens K l0 F xs ds := by
  cases h with
  | lst h r => exact ⟨_, _, rfl, h, r⟩
theorem SlV.tup {ds : List Dt} (h : SlV K l0 F H v (.dat (.tup ds))) : ∃ a xs, v = .ref a ∧ SqT K F a xs ∧ Dens K l0 F xs ds := by
  cases h with
  | tup h r => exact ⟨_, _, rfl, h, r⟩
def IsL (s : Sl) (ds : List Dt) : Prop := s = .dat (.lst ds) ∨ s = .own ds
theorem SlV.list {ds : List Dt} (b : Base l0 F H) (h : SlV K l0 F H v s) (e : IsL s ds) : ∃ a xs, v = .ref a ∧ SqL K H a xs ∧ Dens K l0 F xs ds := by
  rcases e with e | e
  · subst e
    obtain ⟨a, xs, e, h1, h2⟩ := h.lst
    exact ⟨a, xs, e, b.sub.seq h1, h2⟩
  · subst e
    obtain ⟨l, xs, e, _, _, h1, h2⟩ := h
    exact ⟨l, xs, e, SqL.of h1, h2⟩
theorem SlV.tuple {ds : List Dt} (b : Base l0 F H) (h : SlV K l0 F H v (.dat (.tup ds))) : ∃ a xs, v = .ref a ∧ SqT K H a xs ∧ Dens K l0 F xs ds := by
  obtain ⟨a, xs, e, h1, h2⟩ := h.tup
  exact ⟨a, xs, e, sameT b.sub h1, h2⟩
theorem Stt.use {i : Nat} {Q : Sl → Prop} (S : Stt K l0 F H σ ρ) (h : useS (ρ.getD i .emp) Q) : ∃ s v, ρ[i]? = some s ∧ σ[i]? = some (some v) ∧ SlV K l0 F H v s ∧ Q s := by
  cases e : ρ[i]? with
  | none =>
    rw [List.getD_eq_getElem?_getD, e] at h
    exact h.elim
  | some s =>
    rw [List.getD_eq_getElem?_getD, e] at h
    have h : useS s Q := h
    rcases S.sl i s e with q | ⟨v, h1, h2⟩
    · subst q
      exact h.elim
    · refine ⟨s, v, rfl, h1, h2, ?_⟩
      cases s with
      | emp => exact h.elim
      | _ => exact h
theorem blS_of {Q : Bool → Prop} (h : blS s Q) : ∃ b, s = .dat (.v (.bl b)) ∧ Q b := by
  unfold blS at h
  split at h
  · exact ⟨_, rfl, h⟩
  · exact h.elim
theorem d2I_of {C : Int → Int → Prop} {g : Int → Int → V} {x y : Sl} {Q : Sl → Prop} (h : d2I C g x y Q) : ∃ i j, x = .dat (.v (.int i)) ∧ y = .dat (.v (.int j)) ∧ C i j ∧ Q (.dat (.v (g i j))) := by
  unfold d2I at h
  split at h
  · exact ⟨_, _, rfl, rfl, h⟩
  · exact h.elim
theorem d2I0_of {g : Int → Int → V} {x y : Sl} {Q : Sl → Prop} (h : d2I0 g x y Q) : ∃ i j, x = .dat (.v (.int i)) ∧ y = .dat (.v (.int j)) ∧ Q (.dat (.v (g i j))) := by
  unfold d2I0 at h
  split at h
  · exact ⟨_, _, rfl, rfl, h⟩
  · exact h.elim
theorem d1I_of {g : Int → V} {x : Sl} {Q : Sl → Prop} (h : d1I g x Q) : ∃ i, x = .dat (.v (.int i)) ∧ Q (.dat (.v (g i))) := by
  unfold d1I at h
  split at h
  · exact ⟨_, rfl, h⟩
  · exact h.elim
theorem plain_of : ∀ {ss : List Sl} {Q : List Dt → Prop}, plain ss Q → ∃ ds, ss = ds.map Sl.dat ∧ Q ds
  | [], _, h => ⟨[], rfl, h⟩
  | .dat d :: r, _, h => by
    obtain ⟨ds, e, q⟩ := plain_of (ss := r) h
    exact ⟨d :: ds, by rw [e]; rfl, q⟩
  | .emp :: _, _, h => h.elim
  | .own _ :: _, _, h => h.elim
  | .oob _ _ _ :: _, _, h => h.elim
  | .odc _ :: _, _, h => h.elim
theorem dens_of : ∀ {vs : List V} {ds : List Dt}, Paired (SlV K l0 F H) vs (ds.map Sl.dat) → Dens K l0 F vs ds
  | [], [], .nil => .nil
  | _ :: _, _ :: _, .cons h t => .cons h (dens_of t)
theorem of_dens : ∀ {vs : List V} {ds : List Dt}, Dens K l0 F vs ds → Paired (SlV K l0 F H) vs (ds.map Sl.dat)
  | [], [], .nil => .nil
  | _ :: _, _ :: _, .cons h t => .cons h (of_dens t)
theorem pairs_len : ∀ {vs : List V} {ss : List Sl}, Paired (SlV K l0 F H) vs ss → vs.length = ss.length
  | [], [], .nil => rfl
  | _ :: _, _ :: _, .cons _ t => congrArg (· + 1) (pairs_len t)
theorem truS_of {Q : Bool → Prop} (b : Base l0 F H) (h : truS s Q) (r : SlV K l0 F H v s) : ∃ k, TruV K v H k ∧ Q k := by
  unfold truS at h
  split at h
  · cases r; exact ⟨_, rfl, h⟩
  · cases r; exact ⟨_, rfl, h⟩
  · cases r; exact ⟨_, rfl, h⟩
  · cases r; exact ⟨_, ⟨Evl.sz_of h.1, rfl⟩, h.2⟩
  · obtain ⟨a, xs, e, h1, h2⟩ := r.list b (.inl rfl)
    subst e
    refine ⟨_, .inl ⟨xs, h1, rfl⟩, ?_⟩
    cases h2 <;> exact h
  · obtain ⟨a, xs, e, h1, h2⟩ := r.tuple b
    subst e
    refine ⟨_, .inr (.inl ⟨xs, h1, rfl⟩), ?_⟩
    cases h2 <;> exact h
  · obtain ⟨a, xs, e, h1, h2⟩ := r.list b (.inr rfl)
    subst e
    refine ⟨_, .inl ⟨xs, h1, rfl⟩, ?_⟩
    cases h2 <;> exact h
  · exact h.elim
end

section
variable {X : Cx} {W : WX} {a b c e : Expr} {xa xb xc xe : TE} {ya yb : TT} {da db dc de : DE} {pos : Pos} {ta tb : DTt}
theorem de_var (i : Nat) {x : Str} {pos : Pos} (hN : X.N[i]? = some x := by rfl) (hv : Vis X.env.scope x := by first | exact Or.inl rfl | exact Or.inr (Or.inl rfl) | exact Or.inr (Or.inr rfl)) (hd : (x == ("__debug__" : Str)) = false := by decide)
    (hcd : (x == ("__classdict__" : Str)) = false := by decide) : DEX X W (.Name x pos) (tVar i) (dVar i) :=
  ⟨pe_var hN hv hd hcd, fun ρ Q E h l0 F H σ S Qc k _ => by
    obtain ⟨s, v, _, h1, h2, q⟩ := S.use h
    exact ⟨v, h1, k v s F H (.refl S.bs) h2 q⟩⟩
theorem de_pe {v : V} (h : PE X e (tC v)) : DEX X W e (tC v) (dC v) := ⟨h, fun ρ Q E h l0 F H σ S Qc k _ => k.here S.bs h⟩
theorem de_int {i j pos} : DEX X W (.Constant (.int i) j pos) (tC (.int i)) (dC (.int i)) := de_pe pe_int
theorem de_bl {b j pos} : DEX X W (.Constant (.bool b) j pos) (tC (.bl b)) (dC (.bl b)) := de_pe pe_bl
theorem de_non {j pos} : DEX X W (.Constant .none j pos) (tC .non) (dC .non) := de_pe pe_non
theorem de_str {x j pos} : DEX X W (.Constant (.str x) j pos) (tC (.str x)) (dC (.str x)) := de_pe pe_str
theorem de_glob {x : Str} {v : V} {u : Value} (hg : Gl X x) (hm : X.mg x = some u) (r : RelV v u) (hd : (x == ("__debug__" : Str)) = false := by decide) : DEX X W (.Name x pos) (tC v) (dC v) := de_pe (pe_glob hg hm r hd)
theorem de_op {op : Operator} {r : R2} {rd : D2} (ho : OpR X (binaryOp op) r) (hs : SndR X.K r rd) (ha : DEX X W a xa da) (hb : DEX X W b xb db) : DEX X W (.BinOp a op b pos) (tOp r xa xb) (dOp rd da db) := by
  obtain ⟨pa, sa⟩ := ha
  obtain ⟨pb, sb⟩ := hb
  refine ⟨pe_op ho pa pb, fun ρ Q E h l0 F H σ S Qc k kx => ?_⟩
  refine sa ρ _ E h l0 F H σ S _ (fun x s F1 H1 g1 r1 q1 => ?_) kx
  refine sb ρ _ E q1 l0 F1 H1 σ (S.go g1) _ (fun y t F2 H2 g2 r2 q2 => ?_) (kx.go g1)
  exact hs x y s t Q q2 l0 F2 H2 g2.bs (r1.go g2) r2 Qc (k.go (g1.trans g2))
theorem snd_op {r : R2} {rd : D2} {ta tb : TE} (hs : SndR X.K r rd) (sa : SndE X.K W ta da) (sb : SndE X.K W tb db) : SndE X.K W (tOp r ta tb) (dOp rd da db) := fun ρ Q E h l0 F H σ S Qc k kx => by
  refine sa ρ _ E h l0 F H σ S _ (fun x s F1 H1 g1 r1 q1 => ?_) kx
  refine sb ρ _ E q1 l0 F1 H1 σ (S.go g1) _ (fun y t F2 H2 g2 r2 q2 => ?_) (kx.go g1)
  exact hs x y s t Q q2 l0 F2 H2 g2.bs (r1.go g2) r2 Qc (k.go (g1.trans g2))
theorem de_cmp {op : CmpOp} {r : R2} {rd : D2} (ho : OpR X (compareOp op) r) (hs : SndR X.K r rd) (ha : DEX X W a xa da) (hb : DEX X W b xb db) (hm : behindInMarks op b = false) : DEX X W (.Compare a [op] [b] pos) (tOp r xa xb) (dOp rd da db) := by
  obtain ⟨pa, sa⟩ := ha
  obtain ⟨pb, sb⟩ := hb
  exact ⟨pe_cmpR ho pa pb hm, snd_op hs sa sb⟩
theorem de_ix {r : R2} {rd : D2} (ho : IxR X r) (hs : SndR X.K r rd) (ha : DEX X W a xa da) (hb : DEX X W b xb db) (hp : PlainIx b) : DEX X W (.Subscript a b pos) (tOp r xa xb) (dOp rd da db) := by
  obtain ⟨pa, sa⟩ := ha
  obtain ⟨pb, sb⟩ := hb
  exact ⟨pe_ix ho pa pb hp, snd_op hs sa sb⟩
theorem de_un {op : UnaryOp} {r : V → Hp → VK → Prop} {rd : D1} (ho : UnR X (unaryOp op) r) (hs : SndU X.K r rd) (ha : DEX X W a xa da) : DEX X W (.UnaryOp op a pos) (tUn r xa) (dUn rd da) := by
  obtain ⟨pa, sa⟩ := ha
  refine ⟨pe_un ho pa, fun ρ Q E h l0 F H σ S Qc k kx => ?_⟩
  refine sa ρ _ E h l0 F H σ S _ (fun x s F1 H1 g1 r1 q1 => ?_) kx
  exact hs x s Q q1 l0 F1 H1 g1.bs r1 Qc (k.go g1)
theorem snd_test {te : TE} (sa : SndE X.K W te de) : SndT X.K W (tTest te) (dTest de) := fun ρ Q E h l0 F H σ S Qc k kx => by
  refine sa ρ _ E h l0 F H σ S _ (fun x s F1 H1 g1 r1 q1 => ?_) kx
  obtain ⟨b, e, q⟩ := blS_of q1
  subst e
  cases r1
  exact ⟨b, rfl, k b F1 H1 g1 q⟩
theorem dt_cmp {op : CmpOp} {r : R2} {rd : D2} (ho : OpR X (compareOp op) r) (hs : SndR X.K r rd) (ha : DEX X W a xa da) (hb : DEX X W b xb db) (hm : behindInMarks op b = false) : DTX X W (.Compare a [op] [b] pos) (tTest (tOp r xa xb)) (dTest (dOp rd da db)) := by
  obtain ⟨pa, sa⟩ := ha
  obtain ⟨pb, sb⟩ := hb
  exact ⟨pt_cmpR ho pa pb hm, snd_test (snd_op hs sa sb)⟩
theorem snd_chain {r r' : R2} {rd rd' : D2} {ta tb tc : TE} (hs : SndR X.K r rd) (hs' : SndR X.K r' rd') (sa : SndE X.K W ta da) (sb : SndE X.K W tb db) (sc : SndE X.K W tc dc) : SndE X.K W (tChain r r' ta tb tc) (dChain rd rd' da db dc) := fun ρ Q E h l0 F H σ S Qc k kx => by
  refine sa ρ _ E h l0 F H σ S _ (fun x s F1 H1 g1 r1 q1 => ?_) kx
  refine sb ρ _ E q1 l0 F1 H1 σ (S.go g1) _ (fun y t F2 H2 g2 r2 q2 => ?_) (kx.go g1)
  refine hs x y s t _ q2 l0 F2 H2 g2.bs (r1.go g2) r2 _ fun z u F3 H3 g3 r3 q3 => ?_
  obtain ⟨b, e, q⟩ := blS_of q3
  subst e
  cases r3
  refine ⟨b, rfl, ?_⟩
  have g : Go l0 F H F3 H3 := (g1.trans g2).trans g3
  cases b with
  | true =>
    rw [if_pos rfl] at q ⊢
    refine sc ρ _ E q l0 F3 H3 σ (S.go g) _ (fun w' u F4 H4 g4 r4 q4 => ?_) (kx.go g)
    exact hs' y w' t u Q q4 l0 F4 H4 g4.bs ((r2.go g3).go g4) r4 Qc (k.go (g.trans g4))
  | false =>
    rw [if_neg Bool.false_ne_true] at q ⊢
    exact (k.go g).here g.bs q
theorem dt_chain {op op' : CmpOp} {r r' : R2} {rd rd' : D2} (ho : OpR X (compareOp op) r) (ho' : OpR X (compareOp op') r') (hs : SndR X.K r rd) (hs' : SndR X.K r' rd') (ha : DEX X W a xa da) (hb : DEX X W b xb db) (hc : DEX X W c xc dc)
    (hm : lastMarks [op, op'] [b, c] = false := by with_unfolding_all rfl) : DTX X W (.Compare a [op, op'] [b, c] pos) (tTest (tChain r r' xa xb xc)) (dTest (dChain rd rd' da db dc)) := by
  obtain ⟨pa, sa⟩ := ha
  obtain ⟨pb, sb⟩ := hb
  obtain ⟨pc, sc⟩ := hc
  exact ⟨pt_chain ho ho' pa pb pc hm, snd_test (snd_chain hs hs' sa sb sc)⟩
theorem dt_tru (ha : DEX X W a xa da) (he : ∀ whole, isTrue a X.env whole = (do let v ← whole; standAt a.pos; holding [v] (truthy v)) := by intro _; rfl) : DTX X W a (fun σ H Q => xa σ H fun x H' => ∃ k, TruV X.K x H' k ∧ Q k H') (dTru da) := by
  obtain ⟨pa, sa⟩ := ha
  refine ⟨pt_truth pa he, fun ρ Q E h l0 F H σ S Qc k kx => ?_⟩
  refine sa ρ _ E h l0 F H σ S _ (fun x s F1 H1 g1 r1 q1 => ?_) kx
  obtain ⟨b, t, q⟩ := truS_of g1.bs q1 r1
  exact ⟨b, t, k b F1 H1 g1 q⟩
theorem dt_w (h : DWX X W e ya ta) : DTX X W e ya ta := by
  obtain ⟨p, s⟩ := h
  exact ⟨p.pt, s⟩
theorem snd_and {t u : TT} (sa : SndT X.K W t ta) (sb : SndT X.K W u tb) : SndT X.K W (tAnd t u) (dAnd ta tb) := fun ρ Q E h l0 F H σ S Qc k kx => by
  refine sa ρ _ E h l0 F H σ S _ (fun c F1 H1 g1 q1 => ?_) kx
  cases c with
  | true =>
    rw [if_pos rfl] at q1 ⊢
    exact sb ρ Q E q1 l0 F1 H1 σ (S.go g1) Qc (fun b F2 H2 g2 q2 => k b F2 H2 (g1.trans g2) q2) (kx.go g1)
  | false =>
    rw [if_neg Bool.false_ne_true] at q1 ⊢
    exact k false F1 H1 g1 q1
theorem snd_or {t u : TT} (sa : SndT X.K W t ta) (sb : SndT X.K W u tb) : SndT X.K W (tOr t u) (dOr ta tb) := fun ρ Q E h l0 F H σ S Qc k kx => by
  refine sa ρ _ E h l0 F H σ S _ (fun c F1 H1 g1 q1 => ?_) kx
  cases c with
  | true =>
    rw [if_pos rfl] at q1 ⊢
    exact k true F1 H1 g1 q1
  | false =>
    rw [if_neg Bool.false_ne_true] at q1 ⊢
    exact sb ρ Q E q1 l0 F1 H1 σ (S.go g1) Qc (fun b F2 H2 g2 q2 => k b F2 H2 (g1.trans g2) q2) (kx.go g1)
theorem dt_not (h : DTX X W a ya ta) : DTX X W (.UnaryOp .Not a pos) (tNot ya) (dNot ta) := by
  obtain ⟨p, sa⟩ := h
  refine ⟨pt_not p, fun ρ Q E h l0 F H σ S Qc k kx => ?_⟩
  exact sa ρ _ E h l0 F H σ S _ (fun c F1 H1 g1 q1 => k (!c) F1 H1 g1 q1) kx
theorem de_if (hc : DTX X W c ya ta) (ha : DEX X W a xa da) (hb : DEX X W b xb db) : DEX X W (.IfExp c a b pos) (tIf ya xa xb) (dIf ta da db) := by
  obtain ⟨p, st⟩ := hc
  obtain ⟨pa, sa⟩ := ha
  obtain ⟨pb, sb⟩ := hb
  refine ⟨pe_ifExp p pa pb, fun ρ Q E h l0 F H σ S Qc k kx => ?_⟩
  refine st ρ _ E h l0 F H σ S _ (fun c F1 H1 g1 q1 => ?_) kx
  cases c with
  | true =>
    rw [if_pos rfl] at q1 ⊢
    exact sa ρ Q E q1 l0 F1 H1 σ (S.go g1) Qc (k.go g1) (kx.go g1)
  | false =>
    rw [if_neg Bool.false_ne_true] at q1 ⊢
    exact sb ρ Q E q1 l0 F1 H1 σ (S.go g1) Qc (k.go g1) (kx.go g1)
theorem da_nil : DAX X W [] tNil dNil := ⟨pa_nil, fun ρ Q E h l0 F H σ S Qc k _ => k [] [] F H (.refl S.bs) .nil h⟩
theorem da_cons {es : List Expr} {zr : TA} {dr : DA} (ha : DEX X W a xa da) (hr : DAX X W es zr dr) (hs : starEach (a :: es) X.env = (false, eval a X.env) :: starEach es X.env := by rfl) : DAX X W (a :: es) (tCons xa zr) (dCons da dr) := by
  obtain ⟨pa, sa⟩ := ha
  obtain ⟨pr, sr⟩ := hr
  refine ⟨pa_cons pa pr hs, fun ρ Q E h l0 F H σ S Qc k kx => ?_⟩
  refine sa ρ _ E h l0 F H σ S _ (fun x s F1 H1 g1 r1 q1 => ?_) kx
  refine sr ρ _ E q1 l0 F1 H1 σ (S.go g1) _ (fun xs ss F2 H2 g2 r2 q2 => ?_) (kx.go g1)
  exact k (x :: xs) (s :: ss) F2 H2 (g1.trans g2) (.cons (r1.go g2) r2) q2
theorem de_tup {es : List Expr} {zr : TA} {dr : DA} {x1} (h : DAX X W es zr dr) : DEX X W (.Tuple es x1 pos) (tTup zr) (dTup dr) := by
  obtain ⟨p, st⟩ := h
  refine ⟨pe_tup p, fun ρ Q E h l0 F H σ S Qc k kx => ?_⟩
  refine st ρ _ E h l0 F H σ S _ (fun xs ss F1 H1 g1 r1 q1 => ?_) kx
  obtain ⟨z, q1⟩ := q1
  obtain ⟨ds, e, q⟩ := plain_of q1
  subst e
  have r := dens_of r1
  refine ⟨by rw [pairs_len r1]; exact Evl.sz_of z, fun p hp => ?_⟩
  have g := Go.fresh (p := p) g1.bs (.tup xs) hp
  exact k (.ref p) (.dat (.tup ds)) _ _ (g1.trans g) (Den.tup (SqT.of upd_same) (Dens.mono g.ex r)) q
theorem de_lst {es : List Expr} {zr : TA} {dr : DA} (h : DAX X W es zr dr) : DEX X W (.List es pos) (tLst zr) (dLst dr) := by
  obtain ⟨p, st⟩ := h
  refine ⟨pe_lst p, fun ρ Q E h l0 F H σ S Qc k kx => ?_⟩
  refine st ρ _ E h l0 F H σ S _ (fun xs ss F1 H1 g1 r1 q1 => ?_) kx
  obtain ⟨z, q1⟩ := q1
  obtain ⟨ds, e, q⟩ := plain_of q1
  subst e
  have r := dens_of r1
  refine ⟨by rw [pairs_len r1]; exact Evl.sz_of z, fun p hp => ?_⟩
  have g := Go.fresh (p := p) g1.bs (.lst xs) hp
  exact k (.ref p) (.dat (.lst ds)) _ _ (g1.trans g) (Den.lst (SqL.of upd_same) (Dens.mono g.ex r)) q
theorem de_cb {id : String} {x : Str} {p : Pos} {es : List Expr} {zr : TA} {dr : DA} {r : List V → Hp → VK → Prop} {rd : DCl} (hc : CallR X (.builtin id) r) (hs : SndC X.K r rd) (hg : Gl X x) (hm : X.mg x = none) (hv : bootBuiltins x = some (.builtin id)) (ha : DAX X W (e :: es) zr dr) (hn : x ≠ "__name__" := by decide)
    (hdb : (x == ("__debug__" : Str)) = false := by decide) (he : starEach (e :: es) X.env = (false, eval e X.env) :: starEach es X.env := by rfl) (hpl : (backTo pos (starEach es X.env)).any (·.1) = false := by rfl) : DEX X W (.Call (.Name x p) (e :: es) [] pos) (tCB r zr) (dCB rd dr) := by
  obtain ⟨pa, st⟩ := ha
  refine ⟨pe_callB hc hg hm hv pa hn hdb he hpl, fun ρ Q E h l0 F H σ S Qc k kx => ?_⟩
  refine st ρ _ E h l0 F H σ S _ (fun xs ss F1 H1 g1 r1 q1 => ?_) kx
  exact hs xs ss Q q1 l0 F1 H1 g1.bs r1 Qc (k.go g1)
theorem de_ct {T : String} {x : Str} {p : Pos} {es : List Expr} {zr : TA} {dr : DA} {r : List V → Hp → VK → Prop} {rd : DCl} (hc : CallR X (.type T) r) (hs : SndC X.K r rd) (hg : Gl X x) (hm : X.mg x = none) (hv : bootBuiltins x = some (.type T)) (ha : DAX X W (e :: es) zr dr) (hn : x ≠ "__name__" := by decide)
    (hdb : (x == ("__debug__" : Str)) = false := by decide) (he : starEach (e :: es) X.env = (false, eval e X.env) :: starEach es X.env := by rfl) (hpl : (backTo pos (starEach es X.env)).any (·.1) = false := by rfl) : DEX X W (.Call (.Name x p) (e :: es) [] pos) (tCB r zr) (dCB rd dr) := by
  obtain ⟨pa, st⟩ := ha
  refine ⟨pe_callTy hc hg hm hv pa hn hdb he hpl, fun ρ Q E h l0 F H σ S Qc k kx => ?_⟩
  refine st ρ _ E h l0 F H σ S _ (fun xs ss F1 H1 g1 r1 q1 => ?_) kx
  exact hs xs ss Q q1 l0 F1 H1 g1.bs r1 Qc (k.go g1)
end

section
variable {K : PySem.W.Frag} {X : Cx}
theorem sr_I0 {g : Int → Int → V} : SndR K (rI0 g) (d2I0 g) := fun x y s t Q h l0 F H b r1 r2 Qc k => by
  obtain ⟨i, j, e1, e2, q⟩ := d2I0_of h
  subst e1 e2
  cases r1
  cases r2
  exact ⟨i, j, rfl, rfl, k.here b q⟩
theorem sr_I {C C' : Int → Int → Prop} {g : Int → Int → V} (hc : ∀ i j, C' i j → C i j) : SndR K (rI C g) (d2I C' g) := fun x y s t Q h l0 F H b r1 r2 Qc k => by
  obtain ⟨i, j, e1, e2, c, q⟩ := d2I_of h
  subst e1 e2
  cases r1
  cases r2
  exact ⟨i, j, rfl, rfl, hc i j c, k.here b q⟩
theorem su_I {g : Int → V} : SndU K (rU g) (d1I g) := fun x s Q h l0 F H b r1 Qc k => by
  obtain ⟨i, e1, q⟩ := d1I_of h
  subst e1
  cases r1
  exact ⟨i, rfl, k.here b q⟩
theorem OpR.or {f : Value → Value → Sem Value} {r r' : R2} (h : OpR X f r) (h' : OpR X f r') : OpR X f (fun x y H Q => r x y H Q ∨ r' x y H Q) := fun pins s σ H x y v u Q I rx ry q => by
  rcases q with q | q
  · exact h pins s σ H x y v u Q I rx ry q
  · exact h' pins s σ H x y v u Q I rx ry q
def CMulX (i j : Int) : Prop := CMul i j ∨ CMulW i j
theorem op_mulX : OpR X (binaryOp .Mult) (rI CMulX fun i j => .int (i * j)) := opI fun _ _ _ _ _ _ _ hc q => PyProof.Rows.mul_int q (hc.elim CMul.ok CMulW.ok)
theorem sr_mul : SndR K (rI CMulX fun i j => .int (i * j)) dMul := sr_I fun i j h => by
  rcases h with h | h | ⟨h1, h2⟩
  · exact .inl (.inl h)
  · exact .inl (.inr h)
  · exact .inr (wide_mul h1 h2 (by decide) (by decide) (by decide))
theorem sr_fdiv : SndR K (rI CDivW fun i j => .int (i / j)) dFdiv := sr_I fun i j h => wide_div (b := 250) h.1 (by
  obtain ⟨h1, h2⟩ := h
  have e : ((j.natAbs : Nat) : Int) < ((2 ^ 250 : Nat) : Int) := by
    rw [Int.natAbs_of_nonneg (Int.le_of_lt h1)]
    exact_mod_cast h2
  exact_mod_cast e) (by decide) (by decide)
theorem sr_mod : SndR K (rI (fun _ j => 0 < j) fun i j => .int (i % j)) dMod := sr_I fun _ _ h => h
theorem sr_pow : SndR K (rI CPow fun i j => .int (i ^ j.toNat)) dPow := sr_I fun _ _ h => h
theorem de_sub {W : WX} {a b : Expr} {xa xb : TE} {da db : DE} {pos : Pos} (ha : DEX X W a xa da) (hb : DEX X W b xb db) : DEX X W (.BinOp a .Sub b pos) (tOp (rI0 fun i j => .int (i - j)) xa xb) (dOp dSub da db) := de_op op_sub sr_I0 ha hb
theorem de_mul {W : WX} {a b : Expr} {xa xb : TE} {da db : DE} {pos : Pos} (ha : DEX X W a xa da) (hb : DEX X W b xb db) : DEX X W (.BinOp a .Mult b pos) (tOp (rI CMulX fun i j => .int (i * j)) xa xb) (dOp dMul da db) := de_op op_mulX sr_mul ha hb
theorem de_fdiv {W : WX} {a b : Expr} {xa xb : TE} {da db : DE} {pos : Pos} (ha : DEX X W a xa da) (hb : DEX X W b xb db) : DEX X W (.BinOp a .FloorDiv b pos) (tOp (rI CDivW fun i j => .int (i / j)) xa xb) (dOp dFdiv da db) := de_op op_fdivW sr_fdiv ha hb
theorem de_mod {W : WX} {a b : Expr} {xa xb : TE} {da db : DE} {pos : Pos} (ha : DEX X W a xa da) (hb : DEX X W b xb db) : DEX X W (.BinOp a .Mod b pos) (tOp (rI (fun _ j => 0 < j) fun i j => .int (i % j)) xa xb) (dOp dMod da db) := de_op op_mod sr_mod ha hb
theorem de_pow {W : WX} {a b : Expr} {xa xb : TE} {da db : DE} {pos : Pos} (ha : DEX X W a xa da) (hb : DEX X W b xb db) : DEX X W (.BinOp a .Pow b pos) (tOp (rI CPow fun i j => .int (i ^ j.toNat)) xa xb) (dOp dPow da db) := de_op op_pow sr_pow ha hb
theorem de_neg {W : WX} {a : Expr} {xa : TE} {da : DE} {pos : Pos} (ha : DEX X W a xa da) : DEX X W (.UnaryOp .USub a pos) (tUn (rU fun i => .int (-i)) xa) (dUn dNeg da) := de_un un_neg su_I ha
def rIxS2 (K : PySem.W.Frag) : R2 := fun x y H Q => rIxL K x y H Q ∨ rIxT K x y H Q
theorem ix_S : IxR X (rIxS2 X.K) := ix_list.or ix_tup
theorem atI_len {α β : Type} {xs : List α} {ys : List β} {i : Int} {v : α} (e : xs.length = ys.length) (h : atI xs i = some v) : ∃ j : Nat, xs[j]? = some v ∧ ∀ w, ys[j]? = some w → atI ys i = some w := by
  unfold atI at h ⊢
  rw [e] at h
  cases q : ixN ys.length i with
  | none =>
    rw [q] at h
    cases h
  | some j =>
    rw [q] at h
    exact ⟨j, h, fun w hw => hw⟩
theorem Dens.atI {l0 : Addr} {F : Hp} {xs : List V} {ds : List Dt} {i : Int} {d : Dt} (r : Dens K l0 F xs ds) (h : L2.atI ds i = some d) : ∃ x, L2.atI xs i = some x ∧ Den K l0 F x d := by
  obtain ⟨j, h1, h2⟩ := atI_len r.length.symm h
  obtain ⟨x, h3, h4⟩ := r.get h1
  exact ⟨x, h2 x h3, h4⟩
theorem sr_ix : SndR K (rIxS2 K) dIx := fun x y s t Q h l0 F H b r1 r2 Qc k => by
  unfold dIx at h
  split at h
  · obtain ⟨d, h1, q⟩ := h
    obtain ⟨a, xs, e, z1, z2⟩ := r1.list b (.inl rfl)
    subst e
    cases r2
    obtain ⟨u, w1, w2⟩ := z2.atI h1
    exact .inl ⟨a, xs, _, u, rfl, rfl, z1, w1, k.dat b w2 q⟩
  · obtain ⟨d, h1, q⟩ := h
    obtain ⟨a, xs, e, z1, z2⟩ := r1.tuple b
    subst e
    cases r2
    obtain ⟨u, w1, w2⟩ := z2.atI h1
    exact .inr ⟨a, xs, _, u, rfl, rfl, z1, w1, k.dat b w2 q⟩
  · obtain ⟨d, h1, q⟩ := h
    obtain ⟨a, xs, e, z1, z2⟩ := r1.list b (.inr rfl)
    subst e
    cases r2
    obtain ⟨u, w1, w2⟩ := z2.atI h1
    exact .inl ⟨a, xs, _, u, rfl, rfl, z1, w1, k.dat b w2 q⟩
  · exact h.elim
theorem sc_abs : SndC K (fun xs H Q => ∃ i, xs = [.int i] ∧ Q (.int (if i < 0 then -i else i)) H) dAbs := fun vs ss Q h l0 F H b r Qc k => by
  unfold dAbs at h
  split at h
  · obtain ⟨⟩ | ⟨r1, ⟨⟩⟩ := r
    cases r1
    exact ⟨_, rfl, k.here b h⟩
  · exact h.elim
theorem sc_max2 : SndC K (fun xs H Q => ∃ i j, xs = [.int i, .int j] ∧ Q (.int (if j > i then j else i)) H) dMax2 := fun vs ss Q h l0 F H b r Qc k => by
  unfold dMax2 at h
  split at h
  · obtain ⟨⟩ | ⟨r1, ⟨⟩ | ⟨r2, ⟨⟩⟩⟩ := r
    cases r1
    cases r2
    exact ⟨_, _, rfl, k.here b h⟩
  · exact h.elim
theorem sc_min2 : SndC K (fun xs H Q => ∃ i j, xs = [.int i, .int j] ∧ Q (.int (if j < i then j else i)) H) dMin2 := fun vs ss Q h l0 F H b r Qc k => by
  unfold dMin2 at h
  split at h
  · obtain ⟨⟩ | ⟨r1, ⟨⟩ | ⟨r2, ⟨⟩⟩⟩ := r
    cases r1
    cases r2
    exact ⟨_, _, rfl, k.here b h⟩
  · exact h.elim
theorem sc_int1 : SndC K (fun xs H Q => (∃ i, xs = [.int i] ∧ Q (.int i) H) ∨ ∃ k, xs = [.bl k] ∧ Q (.int (if k then 1 else 0)) H) dInt1 := fun vs ss Q h l0 F H b r Qc k => by
  unfold dInt1 at h
  split at h
  · obtain ⟨⟩ | ⟨r1, ⟨⟩⟩ := r
    cases r1
    exact .inl ⟨_, rfl, k.here b h⟩
  · obtain ⟨⟩ | ⟨r1, ⟨⟩⟩ := r
    cases r1
    exact .inr ⟨_, rfl, k.here b h⟩
  · exact h.elim
def rLenA (K : PySem.W.Frag) : List V → Hp → VK → Prop := fun xs H Q => (∃ p ys, xs = [.ref p] ∧ (SqL K H p ys ∨ SqT K H p ys) ∧ Q (.int ys.length) H) ∨ ∃ z, xs = [.str z] ∧ z.length ≤ sizeLine ∧ Q (.int z.length) H
theorem call_lenA : CallR X (.builtin "len") (rLenA X.K) := call_len_seq.or call_len_str
theorem sc_len : SndC K (rLenA K) dLen := fun vs ss Q h l0 F H b r Qc k => by
  unfold dLen at h
  split at h
  · obtain ⟨⟩ | ⟨r1, ⟨⟩⟩ := r
    obtain ⟨a, xs, e, z1, z2⟩ := r1.list b (.inl rfl)
    subst e
    refine .inl ⟨a, xs, rfl, .inl z1, ?_⟩
    rw [z2.length]
    exact k.here b h
  · obtain ⟨⟩ | ⟨r1, ⟨⟩⟩ := r
    obtain ⟨a, xs, e, z1, z2⟩ := r1.tuple b
    subst e
    refine .inl ⟨a, xs, rfl, .inr z1, ?_⟩
    rw [z2.length]
    exact k.here b h
  · obtain ⟨⟩ | ⟨r1, ⟨⟩⟩ := r
    obtain ⟨a, xs, e, z1, z2⟩ := r1.list b (.inr rfl)
    subst e
    refine .inl ⟨a, xs, rfl, .inl z1, ?_⟩
    rw [z2.length]
    exact k.here b h
  · obtain ⟨⟩ | ⟨r1, ⟨⟩⟩ := r
    cases r1
    exact .inr ⟨_, rfl, Evl.sz_of h.1, k.here b h.2⟩
  · exact h.elim
theorem sc_maxL : SndC K (rMax K) dMaxL := fun vs ss Q h l0 F H b r Qc k => by
  unfold dMaxL at h
  split at h
  · obtain ⟨ns, e, h1, h2⟩ := h
    subst e
    obtain ⟨⟩ | ⟨r1, ⟨⟩⟩ := r
    obtain ⟨a, xs, e, z1, z2⟩ := r1.list b (.inl rfl)
    subst e
    rw [z2.ints] at z1
    exact ⟨a, ns, rfl, z1, h1, fun m hm hy => k.here b (h2 m hm hy)⟩
  · exact h.elim
theorem sc_minL : SndC K (rMin K) dMinL := fun vs ss Q h l0 F H b r Qc k => by
  unfold dMinL at h
  split at h
  · obtain ⟨ns, e, h1, h2⟩ := h
    subst e
    obtain ⟨⟩ | ⟨r1, ⟨⟩⟩ := r
    obtain ⟨a, xs, e, z1, z2⟩ := r1.list b (.inl rfl)
    subst e
    rw [z2.ints] at z1
    exact ⟨a, ns, rfl, z1, h1, fun m hm hy => k.here b (h2 m hm hy)⟩
  · exact h.elim
end
end DW

set_option Elab.async false
set_option linter.all false
set_option maxRecDepth 100000
namespace DW
open PySem L2
section
variable {K : PySem.W.Frag} {W : WX} {l0 : Addr} {F H F' H' : Hp} {σ : L2.St} {ρ : En} {v : V} {s : Sl} {i : Nat}
theorem wipe_at {i : Nat} : ∀ {vs : List Nat} {σ : L2.St}, i ∈ vs → (wipe σ vs)[i]? = if i < σ.length then some none else none
  | v :: vs, σ, h => by
    unfold wipe
    by_cases q : v = i
    · subst q
      by_cases z : v < σ.length
      · rw [List.getElem?_set_self (by rw [wipe_length]; exact z), if_pos z]
      · rw [List.getElem?_eq_none (by rw [List.length_set, wipe_length]; omega), if_neg z]
    · rw [List.getElem?_set_ne q]
      rcases List.mem_cons.mp h with e | h
      · exact absurd e.symm q
      · exact wipe_at h
theorem wipe_set {σ : L2.St} {i : Nat} {x : Option V} {vs : List Nat} (h : i ∈ vs) : wipe (σ.set i x) vs = wipe σ vs := by
  apply List.ext_getElem?
  intro j
  by_cases q : j ∈ vs
  · rw [wipe_at q, wipe_at q, List.length_set]
  · rw [wipe_out q, wipe_out q, List.getElem?_set_ne (fun e => q (by rw [← e]; exact h))]
theorem wipe_twice {σ : L2.St} {vs : List Nat} : wipe (wipe σ vs) vs = wipe σ vs := by
  apply List.ext_getElem?
  intro j
  by_cases q : j ∈ vs
  · rw [wipe_at q, wipe_at q, wipe_length]
  · rw [wipe_out q]
theorem lt_of_get {ρ : En} {i : Nat} {s : Sl} (h : ρ[i]? = some s) : i < ρ.length := (List.getElem?_eq_some_iff.mp h).1
theorem Stt.ownL {s : Sl} {j : Nat} {a : Addr} (S : Stt K l0 F H σ ρ) (h : ρ[j]? = some s) (w : s.owns σ[j]? a) : F a = none ∧ a ≠ l0 ∧ ∃ o, H a = some o := by
  rcases S.sl j s h with z | ⟨v, h1, h2⟩
  · subst z
    cases w.1
  · rw [h1] at w
    exact h2.liv w
theorem Stt.put {d : Dt} (S : Stt K l0 F H σ ρ) (i : Nat) (r : Den K l0 F v d) : Stt K l0 F H (σ.set i (some v)) (ρ.set i (.dat d)) := by
  refine ⟨S.bs, by rw [List.length_set, List.length_set]; exact S.len, fun j s h => ?_, fun j k s t a h1 h2 ⟨o1, e1⟩ ⟨o2, e2⟩ => ?_⟩
  · by_cases q : i = j
    · subst q
      have hl : i < ρ.length := by
        have := lt_of_get h
        rwa [List.length_set] at this
      rw [List.getElem?_set_self hl] at h
      cases h
      exact .inr ⟨v, by rw [List.getElem?_set_self (by rw [← S.len]; exact hl)], r⟩
    · rw [List.getElem?_set_ne q] at h
      rw [List.getElem?_set_ne q]
      exact S.sl j s h
  · have nj : i ≠ j := fun q => by
      subst q
      have hl : i < ρ.length := by
        have := lt_of_get h1
        rwa [List.length_set] at this
      rw [List.getElem?_set_self hl] at h1
      cases h1
      cases o1
    have nk : i ≠ k := fun q => by
      subst q
      have hl : i < ρ.length := by
        have := lt_of_get h2
        rwa [List.length_set] at this
      rw [List.getElem?_set_self hl] at h2
      cases h2
      cases o2
    rw [List.getElem?_set_ne nj] at h1 e1
    rw [List.getElem?_set_ne nk] at h2 e2
    exact S.ap2 j k s t a h1 h2 ⟨o1, e1⟩ ⟨o2, e2⟩
theorem OwS.put {d : Dt} {x : Option V} (i : Nat) : OwS H σ ρ (σ.set i x) (ρ.set i (.dat d)) := fun a ⟨j, s, h1, h2, h3⟩ => by
  by_cases q : i = j
  · subst q
    have hl : i < ρ.length := by
      have := lt_of_get h1
      rwa [List.length_set] at this
    rw [List.getElem?_set_self hl] at h1
    cases h1
    cases h2
  · rw [List.getElem?_set_ne q] at h1 h3
    exact .inl ⟨j, s, h1, h2, h3⟩
theorem Stt.putOwn {l : Addr} {xs : List V} {ds : List Dt} (S : Stt K l0 F H σ ρ) (i : Nat) (hl : H l = none) (r : Dens K l0 F xs ds) : Stt K l0 F (upd H l (.lst xs)) (σ.set i (some (.ref l))) (ρ.set i (.own ds)) := by
  have g := Go.loose S.bs (.lst xs) hl
  have n0 : l ≠ l0 := fun e => S.bs.live (by rw [← e]; exact hl)
  have nF : F l = none := by
    cases e : F l with
    | none => rfl
    | some u =>
      rw [S.bs.sub l u e] at hl
      cases hl
  have S1 := S.go g
  -- no owned slot stands at l
  have far : ∀ (j : Nat) (s : Sl), ρ[j]? = some s → ¬ s.owns σ[j]? l := fun j s h w => by
    obtain ⟨_, _, o, ho⟩ := S.ownL h w
    rw [hl] at ho
    cases ho
  refine ⟨g.bs, by rw [List.length_set, List.length_set]; exact S.len, fun j s h => ?_, fun j k s t a h1 h2 ⟨o1, e1⟩ ⟨o2, e2⟩ => ?_⟩
  · by_cases q : i = j
    · subst q
      have hl : i < ρ.length := by
        have := lt_of_get h
        rwa [List.length_set] at this
      rw [List.getElem?_set_self hl] at h
      cases h
      exact .inr ⟨.ref l, by rw [List.getElem?_set_self (by rw [← S.len]; exact hl)], l, xs, rfl, nF, n0, upd_same, r⟩
    · rw [List.getElem?_set_ne q] at h
      rw [List.getElem?_set_ne q]
      exact S1.sl j s h
  · by_cases qj : i = j
    · by_cases qk : i = k
      · exact qj.symm.trans qk
      · subst qj
        have hl : i < σ.length := by
          have := lt_of_get h1
          rw [List.length_set] at this
          rwa [← S.len]
        rw [List.getElem?_set_self (by rw [S.len]; exact hl)] at h1
        rw [List.getElem?_set_self hl] at e1
        cases h1
        rcases e1 with e1 | e1
        · cases e1
          rw [List.getElem?_set_ne qk] at h2 e2
          exact absurd ⟨o2, e2⟩ (far k t h2)
        · exact nomatch e1
    · by_cases qk : i = k
      · subst qk
        have hl : i < σ.length := by
          have := lt_of_get h2
          rw [List.length_set] at this
          rwa [← S.len]
        rw [List.getElem?_set_self (by rw [S.len]; exact hl)] at h2
        rw [List.getElem?_set_self hl] at e2
        cases h2
        rcases e2 with e2 | e2
        · cases e2
          rw [List.getElem?_set_ne qj] at h1 e1
          exact absurd ⟨o1, e1⟩ (far j s h1)
        · exact nomatch e2
      · rw [List.getElem?_set_ne qj] at h1 e1
        rw [List.getElem?_set_ne qk] at h2 e2
        exact S.ap2 j k s t a h1 h2 ⟨o1, e1⟩ ⟨o2, e2⟩
theorem OwS.putOwn {l : Addr} {ds : List Dt} (i : Nat) (hl : H l = none) : OwS H σ ρ (σ.set i (some (.ref l))) (ρ.set i (.own ds)) := fun a ⟨j, s, h1, h2, h3⟩ => by
  by_cases q : i = j
  · subst q
    rw [List.getElem?_set_self (by have := lt_of_get h1; rwa [List.length_set] at this)] at h1
    cases h1
    rcases h3 with h3 | h3
    · by_cases hz : i < σ.length
      · rw [List.getElem?_set_self hz] at h3
        cases h3
        exact .inr hl
      · rw [List.getElem?_eq_none (by rw [List.length_set]; omega)] at h3
        cases h3
    · exact nomatch h3
  · rw [List.getElem?_set_ne q] at h1 h3
    exact .inl ⟨j, s, h1, h2, h3⟩
theorem Stt.own {ds : List Dt} (S : Stt K l0 F H σ ρ) (h : ρ[i]? = some (.own ds)) : ∃ l xs, σ[i]? = some (some (.ref l)) ∧ F l = none ∧ l ≠ l0 ∧ H l = some (.lst xs) ∧ Dens K l0 F xs ds := by
  rcases S.sl i _ h with z | ⟨v, h1, l, xs, e, h2, h3, h4, h5⟩
  · cases z
  · subst e
    exact ⟨l, xs, h1, h2, h3, h4, h5⟩
theorem Stt.mut {l : Addr} {xs ys : List V} {ds es : List Dt} (S : Stt K l0 F H σ ρ) (hρ : ρ[i]? = some (.own ds)) (hσ : σ[i]? = some (some (.ref l))) (hF : F l = none) (n0 : l ≠ l0) (r : Dens K l0 F ys es) :
    Stt K l0 F (upd H l (.lst ys)) σ (ρ.set i (.own es)) ∧ GoS l0 F H σ ρ F (upd H l (.lst ys)) ∧ OwS H σ ρ σ (ρ.set i (.own es)) := by
  have ow : Ow σ ρ l := ⟨i, _, hρ, rfl, .inl hσ⟩
  have nF : ∀ a o, F a = some o → a ≠ l := fun a o h e => by
    rw [e, hF] at h
    cases h
  have bs : Base l0 F (upd H l (.lst ys)) := by
    refine ⟨fun a o h => ?_, S.bs.nf, ?_⟩
    · rw [upd_ne (nF a o h)]
      exact S.bs.sub a o h
    · obtain ⟨ns, h1, h2⟩ := S.bs.dr
      exact ⟨ns, by rw [upd_ne n0.symm]; exact h1, h2⟩
  refine ⟨⟨bs, by rw [List.length_set]; exact S.len, fun j s h => ?_, fun j k s t a h1 h2 ⟨o1, e1⟩ ⟨o2, e2⟩ => ?_⟩, ⟨bs, fun _ _ h => h, fun a h1 h2 => absurd h1 h2, fun a o _ h e => ?_⟩, fun a ⟨j, s, h1, h2, h3⟩ => ?_⟩
  · by_cases q : i = j
    · subst q
      rw [List.getElem?_set_self (lt_of_get hρ)] at h
      cases h
      exact .inr ⟨.ref l, hσ, l, ys, rfl, hF, n0, upd_same, r⟩
    · rw [List.getElem?_set_ne q] at h
      rcases S.sl j s h with z | ⟨v, h1, h2⟩
      · exact .inl z
      · refine .inr ⟨v, h1, ?_⟩
        cases s with
        | emp => exact h2
        | dat d => exact h2
        | own ds' =>
          obtain ⟨l', xs', e', a1, a2, h3, a3⟩ := h2
          subst e'
          have ne : l' ≠ l := fun e => q (S.ap i j _ _ l hρ h rfl rfl hσ (by rw [h1, e]))
          exact ⟨l', xs', rfl, a1, a2, by rw [upd_ne ne]; exact h3, a3⟩
        | oob p0 C fs =>
          obtain ⟨l', dx, gs, e', a1, a2, h3, a3⟩ := h2
          subst e'
          have ne : l' ≠ l := fun e => q (S.ap i j _ _ l hρ h rfl rfl hσ (by rw [h1, e]))
          obtain ⟨l2, xs2, y1, _, _, y2, _⟩ := S.own hρ
          rw [hσ] at y1
          cases y1
          obtain ⟨a3, e1, e2, z1, z2, z3⟩ := a3
          have nd : dx ≠ l := fun z => by rw [z, y2] at z3; cases z3
          exact ⟨l', dx, gs, rfl, a1, a2, by rw [upd_ne ne]; exact h3, a3, e1, e2, z1, z2, by rw [upd_ne nd]; exact z3⟩
        | odc kvs =>
          obtain ⟨l', xs', e', a1, a2, h3, a3⟩ := h2
          subst e'
          have ne : l' ≠ l := fun e => q (S.ap i j _ _ l hρ h rfl rfl hσ (by rw [h1, e]))
          exact ⟨l', xs', rfl, a1, a2, by rw [upd_ne ne]; exact h3, a3⟩
        | tre t =>
          obtain ⟨r, nd, n⟩ := h2
          have ne : ∀ a ∈ t.ads, a ≠ l := fun a m e => q (S.ap2 i j _ _ l hρ h ⟨rfl, .inl hσ⟩ ⟨rfl, .inr (by rw [← e]; exact m)⟩)
          exact ⟨r.frm (fun _ _ e => e) (fun a m => (r.liv a m).1) fun a m o e => by rw [upd_ne (ne a m)]; exact e, nd, n⟩
  · have back : ∀ {j : Nat} {s : Sl}, (ρ.set i (.own es))[j]? = some s → s.owns σ[j]? a → ∃ s', ρ[j]? = some s' ∧ s'.owns σ[j]? a := fun {j s} h o => by
      by_cases q : i = j
      · subst q
        rw [List.getElem?_set_self (lt_of_get hρ)] at h
        cases h
        exact ⟨_, hρ, rfl, o.2⟩
      · rw [List.getElem?_set_ne q] at h
        exact ⟨s, h, o⟩
    obtain ⟨s', z1, z2⟩ := back h1 ⟨o1, e1⟩
    obtain ⟨t', z3, z4⟩ := back h2 ⟨o2, e2⟩
    exact S.ap2 j k s' t' a z1 z3 z2 z4
  · rw [upd_ne (fun z => h (by rw [z]; exact ow))]
    exact e
  · by_cases q : i = j
    · subst q
      rw [List.getElem?_set_self (lt_of_get hρ)] at h1
      cases h1
      exact .inl ⟨i, _, hρ, rfl, h3⟩
    · rw [List.getElem?_set_ne q] at h1
      exact .inl ⟨j, s, h1, h2, h3⟩
theorem Stt.freeze {ds : List Dt} (S : Stt K l0 F H σ ρ) (h : ρ[i]? = some (.own ds)) : ∃ F', Stt K l0 F' H σ (ρ.set i (.dat (.lst ds))) ∧ GoS l0 F H σ ρ F' H ∧ OwS H σ ρ σ (ρ.set i (.dat (.lst ds))) := by
  obtain ⟨l, xs, hσ, hF, n0, hl, r⟩ := S.own h
  have ow : Ow σ ρ l := ⟨i, _, h, rfl, .inl hσ⟩
  have ex : Same F (upd F l (.lst xs)) := fun a o e => by
    rw [upd_ne (ne_of_none e hF)]
    exact e
  have bs : Base l0 (upd F l (.lst xs)) H := by
    refine ⟨fun a o e => ?_, by rw [upd_ne n0.symm]; exact S.bs.nf, S.bs.dr⟩
    by_cases q : a = l
    · subst q
      rw [upd_same] at e
      cases e
      exact hl
    · rw [upd_ne q] at e
      exact S.bs.sub a o e
  refine ⟨upd F l (.lst xs), ⟨bs, by rw [List.length_set]; exact S.len, fun j s e => ?_, fun j k s t a h1 h2 ⟨o1, e1⟩ ⟨o2, e2⟩ => ?_⟩, ⟨bs, ex, fun a h1 h2 => ?_, fun a o _ _ e => e⟩, fun a ⟨j, s, h1, h2, h3⟩ => ?_⟩
  · by_cases q : i = j
    · subst q
      rw [List.getElem?_set_self (lt_of_get h)] at e
      cases e
      exact .inr ⟨.ref l, hσ, Den.lst (SqL.of upd_same) (Dens.mono ex r)⟩
    · rw [List.getElem?_set_ne q] at e
      rcases S.sl j s e with z | ⟨v, h1, h2⟩
      · exact .inl z
      · refine .inr ⟨v, h1, ?_⟩
        cases s with
        | emp => exact h2
        | dat d => exact Den.mono ex h2
        | own ds' =>
          obtain ⟨l', xs', e', a1, a2, h3, a3⟩ := h2
          subst e'
          have ne : l' ≠ l := fun z => q (S.ap i j _ _ l h e rfl rfl hσ (by rw [h1, z]))
          exact ⟨l', xs', rfl, by rw [upd_ne ne]; exact a1, a2, h3, Dens.mono ex a3⟩
        | oob p0 C fs =>
          obtain ⟨l', dx, gs, e', a1, a2, h3, a3⟩ := h2
          subst e'
          have ne : l' ≠ l := fun z => q (S.ap i j _ _ l h e rfl rfl hσ (by rw [h1, z]))
          obtain ⟨a3, e1, e2, z1, z2, z3⟩ := a3
          have nd : dx ≠ l := fun z => by rw [z, hl] at z3; cases z3
          exact ⟨l', dx, gs, rfl, by rw [upd_ne ne]; exact a1, a2, h3, DenF.mono ex a3, e1, e2, by rw [upd_ne nd]; exact z1, z2, z3⟩
        | odc kvs =>
          obtain ⟨l', xs', e', a1, a2, h3, a3⟩ := h2
          subst e'
          have ne : l' ≠ l := fun z => q (S.ap i j _ _ l h e rfl rfl hσ (by rw [h1, z]))
          exact ⟨l', xs', rfl, by rw [upd_ne ne]; exact a1, a2, h3, DenK.mono ex a3⟩
        | tre t =>
          obtain ⟨r, nd, n⟩ := h2
          have ne : ∀ a ∈ t.ads, a ≠ l := fun a m z => q (S.ap2 i j _ _ l h e ⟨rfl, .inl hσ⟩ ⟨rfl, .inr (by rw [← z]; exact m)⟩)
          exact ⟨r.frm ex (fun a m => by rw [upd_ne (ne a m)]; exact (r.liv a m).1) fun a m o e => e, nd, n⟩
  · have back : ∀ {j : Nat} {s : Sl}, (ρ.set i (.dat (.lst ds)))[j]? = some s → s.isOwn = true → ρ[j]? = some s := fun {j s} e o => by
      by_cases q : i = j
      · subst q
        rw [List.getElem?_set_self (lt_of_get h)] at e
        cases e
        cases o
      · rw [List.getElem?_set_ne q] at e
        exact e
    exact S.ap2 j k s t a (back h1 o1) (back h2 o2) ⟨o1, e1⟩ ⟨o2, e2⟩
  · by_cases q : a = l
    · subst q
      exact .inr ow
    · rw [upd_ne q] at h2
      exact absurd h1 h2
  · by_cases q : i = j
    · subst q
      rw [List.getElem?_set_self (lt_of_get h)] at h1
      cases h1
      cases h2
    · rw [List.getElem?_set_ne q] at h1
      exact .inl ⟨j, s, h1, h2, h3⟩
end

def dNext : DS := fun D ρ => D.nx ρ
def dSeq (t u : DS) : DS := fun D ρ => t { D with nx := u D } ρ
def retS (D : DEnds) : Sl → Prop
  | .dat d => D.rt d
  | .own ds => D.rt (.lst ds)
  | _ => False
def dRet (de : DE) : DS := fun D ρ => de ρ (retS D) fun x => D.ex x ρ
def dIfS (c : DTt) (t u : DS) : DS := fun D ρ => c ρ (fun b => if b = true then t D ρ else u D ρ) fun x => D.ex x ρ
def dDrop (de : DE) : DS := fun D ρ => de ρ (fun _ => D.nx ρ) fun x => D.ex x ρ
def datS (R : Dt → Prop) : Sl → Prop
  | .dat d => R d
  | _ => False
theorem datS_of {R : Dt → Prop} {s : Sl} (h : datS R s) : ∃ d, s = .dat d ∧ R d := by
  cases s with
  | dat d => exact ⟨d, rfl, h⟩
  | _ => exact h.elim
def dAsg (de : DE) (g : DG) : DS := fun D ρ => de ρ (fun s => g s ρ D.nx) fun x => D.ex x ρ
def gdName (i : Nat) : DG
  | .dat d, ρ, R => R (ρ.set i (.dat d))
  | _, _, _ => False
abbrev DGs := List Dt → En → (En → Prop) → Prop
def gdNil : DGs := fun ds ρ R => ds = [] ∧ R ρ
def gdCons (t : DG) (u : DGs) : DGs
  | d :: r, ρ, R => t (.dat d) ρ fun ρ' => u r ρ' R
  | [], _, _ => False
def dOwn (i : Nat) (a : DA) : DS := fun D ρ => a ρ (fun ss => ss.length ≤ 100000 ∧ plain ss fun ds => D.nx (ρ.set i (.own ds))) fun x => D.ex x ρ
def dApp (i : Nat) (de : DE) : DS := fun D ρ => match ρ.getD i .emp with
  | .own ds => de ρ (datS fun d => ds.length ≤ 100000 ∧ D.nx (ρ.set i (.own (ds ++ [d])))) fun x => D.ex x ρ
  | _ => False
def dPop (i j : Nat) : DS := fun D ρ => match ρ.getD i .emp with
  | .own ds => ∃ es d, ds = es ++ [d] ∧ D.nx ((ρ.set i (.own es)).set j (.dat d))
  | _ => False
def dFrz (i : Nat) (t : DS) : DS := fun D ρ => match ρ.getD i .emp with
  | .own ds => t D (ρ.set i (.dat (.lst ds)))
  | _ => False
def dWhile (c : DTt) (b : DS) : DS := fun D ρ => ∃ (P : En → Prop) (μ : En → Nat), P ρ ∧ ∀ ρ', P ρ' → c ρ' (fun k => if k = true then b { D with nx := fun ρ2 => P ρ2 ∧ μ ρ2 < μ ρ', ct := fun ρ2 => P ρ2 ∧ μ ρ2 < μ ρ', bk := D.nx } ρ' else D.nx ρ') fun x => D.ex x ρ'
abbrev DI := En → (List Dt → Prop) → (Xn → Prop) → Prop
def ForI (g : DG) (b : DS) (D : DEnds) (ds : List Dt) (ρ : En) : Prop := ∃ P : Nat → En → Prop, P 0 ρ ∧ (∀ (i : Nat) (x : Dt) (ρ' : En), ds[i]? = some x → P i ρ' → g (.dat x) ρ' fun ρ2 => b { D with nx := P (i + 1), ct := P (i + 1), bk := D.nx } ρ2) ∧ ∀ ρ', P ds.length ρ' → D.nx ρ'
def dFor (it : DI) (g : DG) (b : DS) : DS := fun D ρ => it ρ (fun ds => ForI g b D ds ρ) fun x => D.ex x ρ
def intsR (lo : Int) (n : Nat) : List Dt := (List.range n).map fun i => .v (.int (lo + (i : Nat)))
def iR1 (a : DA) : DI := fun ρ Q E => a ρ (fun ss => match ss with
  | [.dat (.v (.int j))] => -(2 ^ 62) ≤ j ∧ j < 2 ^ 62 ∧ Q (intsR 0 j.toNat)
  | _ => False) E
def iSeq (a : DE) : DI := fun ρ Q E => a ρ (fun s => match s with
  | .dat (.lst ds) => Q ds
  | .dat (.tup ds) => Q ds
  | _ => False) E
def wipeD (ρ : En) : List Nat → En
  | [] => ρ
  | v :: vs => (wipeD ρ vs).set v .emp
def LcI (g : DG) (t : DTt) (e : DE) (ρ : En) (ds : List Dt) (Q : List Dt → Prop) : Prop := ∃ P : Nat → List Dt → Prop, P 0 [] ∧ (∀ (i : Nat) (x : Dt) (acc : List Dt), ds[i]? = some x → P i acc → g (.dat x) ρ fun ρ2 => t ρ2 (fun b => if b = true then e ρ2 (datS fun d => acc.length ≤ 100000 ∧ P (i + 1) (acc ++ [d])) fun _ => False else P (i + 1) acc) fun _ => False) ∧ ∀ acc, P ds.length acc → Q acc
def dLc (it : DI) (g : DG) (t : DTt) (e : DE) (vs : List Nat) : DE := fun ρ Q E => it ρ (fun ds => LcI g t e (wipeD ρ vs) ds fun rs => Q (.dat (.lst rs))) E
def dYes : DTt := fun _ Q _ => Q true

structure Wlk (K : PySem.W.Frag) (l0 : Addr) (J : It) (F : Hp) (ds : List Dt) : Prop where
  go : ∀ i F' H', Same F F' → Base l0 F' H' → i < ds.length → J.go i H'
  yld : ∀ i F' H' x H2, Same F F' → Base l0 F' H' → i < ds.length → J.yld i H' x H2 → ∃ F2 d, Go l0 F' H' F2 H2 ∧ ds[i]? = some d ∧ Den K l0 F2 x d
  stop : ∀ F' H', Same F F' → Base l0 F' H' → J.stop ds.length H'
theorem Wlk.list {K : PySem.W.Frag} {l0 a : Addr} {F : Hp} {xs : List V} {ds : List Dt} (h : SqL K F a xs) (r : Dens K l0 F xs ds) : Wlk K l0 (Itl K a) F ds where
  go := fun i F' H' e b hi => by
    have hx : i < xs.length := by rw [r.length]; exact hi
    exact ⟨xs, xs[i], b.sub.seq (e.seq h), by simp [hx]⟩
  yld := fun i F' H' x H2 e b hi y => by
    obtain ⟨e2, y⟩ := y
    subst e2
    obtain ⟨d, h1, h2⟩ := r.getx (y xs (b.sub.seq (e.seq h)))
    exact ⟨F', d, .refl b, h1, Den.mono e h2⟩
  stop := fun F' H' e b => ⟨xs, b.sub.seq (e.seq h), by rw [r.length]; exact Nat.le_refl _⟩
theorem Wlk.tuple {K : PySem.W.Frag} {l0 a : Addr} {F : Hp} {xs : List V} {ds : List Dt} (h : SqT K F a xs) (r : Dens K l0 F xs ds) : Wlk K l0 (Itt K a) F ds where
  go := fun i F' H' e b hi => by
    have hx : i < xs.length := by rw [r.length]; exact hi
    exact ⟨xs, xs[i], sameT b.sub (sameT e h), by simp [hx]⟩
  yld := fun i F' H' x H2 e b hi y => by
    obtain ⟨e2, y⟩ := y
    subst e2
    obtain ⟨d, h1, h2⟩ := r.getx (y xs (sameT b.sub (sameT e h)))
    exact ⟨F', d, .refl b, h1, Den.mono e h2⟩
  stop := fun F' H' e b => ⟨xs, sameT b.sub (sameT e h), by rw [r.length]; exact Nat.le_refl _⟩
theorem intsR_len (lo : Int) (n : Nat) : (intsR lo n).length = n := by unfold intsR; rw [List.length_map, List.length_range]
theorem intsR_get {lo : Int} {n i : Nat} (h : i < n) : (intsR lo n)[i]? = some (.v (.int (lo + (i : Nat)))) := by
  unfold intsR
  rw [List.getElem?_map, List.getElem?_range h]
  rfl
theorem Wlk.range {K : PySem.W.Frag} {l0 : Addr} {F : Hp} {lo : Int} {n : Nat} : Wlk K l0 (Itr lo n) F (intsR lo n) where
  go := fun i F' H' e b hi => by
    rw [intsR_len] at hi
    exact hi
  yld := fun i F' H' x H2 e b hi y => by
    rw [intsR_len] at hi
    obtain ⟨e1, e2⟩ := y
    subst e1 e2
    exact ⟨F', _, .refl b, intsR_get hi, .v _⟩
  stop := fun F' H' e b => by
    show n ≤ (intsR lo n).length
    rw [intsR_len]
    exact Nat.le_refl _
def SndI (K : PySem.W.Frag) (W : WX) (wi : TI) (di : DI) : Prop := ∀ ρ Q E, di ρ Q E → ∀ l0 F H σ, Stt K l0 F H σ ρ → ∀ R : It → Hp → Prop, (∀ J ds F' H', Go l0 F H F' H' → Wlk K l0 J F' ds → Q ds → R J H') → KX K W l0 F H σ E → wi σ H R
def DIX (X : Cx) (W : WX) (tg it : Expr) (wi : TI) (di : DI) : Prop := PI X tg it wi ∧ SndI X.K W wi di

section
variable {X : Cx} {W : WX} {a b c e tg : Expr} {xa xb xc xe : TE} {ya yb : TT} {va vb : TS} {da db dc de : DE} {pos : Pos} {ta tb : DTt} {st : Stmt} {rest : List Stmt} {t u : DS}
theorem di_range1 {p : Pos} {zr : TA} {dr : DA} (hg : Gl X "range") (hm : X.mg "range" = none) (ha : DAX X W [a] zr dr) (hs : starEach [a] X.env = [(false, eval a X.env)] := by rfl) : DIX X W tg (.Call (.Name "range" p) [a] [] pos) (iRng1 zr) (iR1 dr) := by
  obtain ⟨pa, st⟩ := ha
  refine ⟨pi_range1 hg hm pa hs, fun ρ Q E h l0 F H σ S R k kx => ?_⟩
  have h : dr ρ _ E := h
  refine st ρ _ E h l0 F H σ S _ (fun xs ss F1 H1 g1 r1 q1 => ?_) kx
  split at q1
  · obtain ⟨h1, h2, q⟩ := q1
    obtain ⟨⟩ | ⟨r1, ⟨⟩⟩ := r1
    cases r1
    exact ⟨_, rfl, h1, h2, k _ _ F1 H1 g1 .range q⟩
  · exact q1.elim
def iBoth (K : PySem.W.Frag) (tl : TE) : TI := fun σ H R => tl σ H fun x H1 => ∃ a, x = .ref a ∧ (((∃ xs, SqL K H1 a xs) ∧ R (Itl K a) H1) ∨ ((∃ xs, SqT K H1 a xs) ∧ R (Itt K a) H1))
theorem pi_both {l : Expr} {tl : TE} (hl : PE X l tl) : PI X tg l (iBoth X.K tl) := by
  refine ⟨fun pins s σ H R I h => ?_⟩
  refine thn (hl.run pins s σ H _ I h) fun v s1 ⟨x, H1, I1, r1, q1⟩ => ?_
  obtain ⟨a, e, q1⟩ := q1
  subst e
  cases r1
  rcases q1 with ⟨⟨xs, hq⟩, q⟩ | ⟨⟨xs, hq⟩, q⟩
  · obtain ⟨its, rv, p, hz⟩ := I1.list hq
    refine wpAny_pyIter_list p.isList ?_
    refine ⟨s1.heap.objs.size, [s1.heap.objs.size], _, _, H1, rfl, I1.kept (t' := s1.toks) fun b o e => Heap.get?_push_of_some _ e, turn_list a _, ⟨_, Heap.get?_push_size _ rfl, rfl, rfl⟩, fun b hb => ?_, q⟩
    have e : b = s1.heap.objs.size := by simpa using hb
    subst e
    exact I1.fpOk (Nat.le_refl _) (I1.hok.fresh (Nat.le_refl _))
  · obtain ⟨its, rv, p, hz⟩ := I1.tuple hq
    refine wpAny_pyIter_tuple (show s1.heap.IsTuple a its.toArray from p) ?_
    refine ⟨s1.heap.objs.size, [s1.heap.objs.size], _, _, H1, rfl, I1.kept (t' := s1.toks) fun b o e => Heap.get?_push_of_some _ e, turn_tuple a _, ⟨_, Heap.get?_push_size _ rfl, rfl, rfl⟩, fun b hb => ?_, q⟩
    have e : b = s1.heap.objs.size := by simpa using hb
    subst e
    exact I1.fpOk (Nat.le_refl _) (I1.hok.fresh (Nat.le_refl _))
theorem di_seq (ha : DEX X W a xa da) : DIX X W tg a (iBoth X.K xa) (iSeq da) := by
  obtain ⟨pa, st⟩ := ha
  refine ⟨pi_both pa, fun ρ Q E h l0 F H σ S R k kx => ?_⟩
  have h : da ρ _ E := h
  refine st ρ _ E h l0 F H σ S _ (fun x s F1 H1 g1 r1 q1 => ?_) kx
  dsimp only at q1
  split at q1
  · obtain ⟨a, xs, e, h1, h2⟩ := SlV.lst r1
    exact ⟨a, e, .inl ⟨⟨xs, g1.bs.sub.seq h1⟩, k _ _ F1 H1 g1 (.list h1 h2) q1⟩⟩
  · obtain ⟨a, xs, e, h1, h2⟩ := SlV.tup r1
    exact ⟨a, e, .inr ⟨⟨xs, sameT g1.bs.sub h1⟩, k _ _ F1 H1 g1 (.tuple h1 h2) q1⟩⟩
  · exact q1.elim

theorem dg_name (i : Nat) {x : Str} (hN : X.N.Nodup) (hi : X.N[i]? = some x := by rfl) (hx : Loc X.env.scope x := by first | exact .inl rfl | exact .inr rfl) (hf : X.fn x = true ∨ X.env.scope.names.lookup x = some .local := by first | exact .inl rfl | exact .inr rfl | assumption) :
    DGX X (.Name x pos) [i] (gName i) (gdName i) := by
  refine ⟨pg_name hN hi hx hf, fun s ρ R h l0 F H σ v S r Rc k => ?_⟩
  unfold gdName at h
  split at h
  · exact k F H _ _ (.refl S.bs) (.put i) (S.put i r) (fun vs hv => wipe_set (hv i (List.mem_singleton.mpr rfl))) h
  · exact h.elim
def SndGs (K : PySem.W.Frag) (ts : List Nat) (g : TGs) (dg : DGs) : Prop := ∀ ds ρ R, dg ds ρ R → ∀ l0 F H σ vs, Stt K l0 F H σ ρ → Dens K l0 F vs ds → ∀ Rc : L2.St → Hp → Prop,
  (∀ F' H' σ' ρ', Go l0 F H F' H' → OwS H σ ρ σ' ρ' → Stt K l0 F' H' σ' ρ' → (∀ vs : List Nat, (∀ j ∈ ts, j ∈ vs) → wipe σ' vs = wipe σ vs) → R ρ' → Rc σ' H') → g vs σ H Rc
def DGsX (X : Cx) (es : List Expr) (ts : List Nat) (g : TGs) (dg : DGs) : Prop := PGs X es g ∧ SndGs X.K ts g dg
theorem dgs_nil : DGsX X [] [] gNil gdNil := by
  refine ⟨pgs_nil, fun ds ρ R h l0 F H σ vs S r Rc k => ?_⟩
  obtain ⟨e, q⟩ := h
  subst e
  cases r
  exact ⟨rfl, k F H σ ρ (.refl S.bs) .refl S (fun _ _ => rfl) q⟩
theorem dgs_cons {es : List Expr} {g : TG} {gs : TGs} {t : DG} {u : DGs} {n1 n2 : List Nat} (h1 : DGX X e n1 g t) (h2 : DGsX X es n2 gs u) (hs : (assignEach (e :: es) X.env).map (·.2) = assign e X.env :: (assignEach es X.env).map (·.2) := by rfl) : DGsX X (e :: es) (n1 ++ n2) (gCons g gs) (gdCons t u) := by
  obtain ⟨p, sg⟩ := h1
  obtain ⟨ps, sgs⟩ := h2
  refine ⟨pgs_cons p ps hs, fun ds ρ R h l0 F H σ vs S r Rc k => ?_⟩
  cases ds with
  | nil => exact h.elim
  | cons d r' =>
    cases r with
    | cons r1 r2 =>
      refine ⟨_, _, rfl, sg _ ρ _ h l0 F H σ _ S r1 _ fun F1 H1 σ1 ρ1 g1 w1 S1 z1 q1 => ?_⟩
      exact sgs _ ρ1 R q1 l0 F1 H1 σ1 _ S1 (Dens.mono g1.ex r2) _ fun F2 H2 σ2 ρ2 g2 w2 S2 z2 q2 => k F2 H2 σ2 ρ2 (g1.trans g2) (OwS.trans S.bs (.of g1) w1 w2) S2 (fun vs hv => (z2 vs fun j hj => hv j (List.mem_append_right _ hj)).trans (z1 vs fun j hj => hv j (List.mem_append_left _ hj))) q2
theorem dss_nil : DSSX X W [] tNext dNext := ⟨pss_nil, fun D ρ h l0 F H σ S C L => L.nx F H σ ρ (.of (.refl S.bs)) .refl S h⟩
theorem dss_cons (h1 : DSX X W st va t) (h2 : DSSX X W rest vb u) : DSSX X W (st :: rest) (tSeq va vb) (dSeq t u) := by
  obtain ⟨p1, s1⟩ := h1
  obtain ⟨p2, s2⟩ := h2
  refine ⟨pss_cons p1 p2, fun D ρ h l0 F H σ S C L => ?_⟩
  refine s1 { D with nx := u D } ρ h l0 F H σ S { C with nx := vb C } ⟨fun F' H' σ' ρ' g w S' q => ?_, L.rt, L.bk, L.ct, L.ex, L.rs⟩
  exact s2 D ρ' q l0 F' H' σ' S' C (L.trans S.bs g w)
theorem dss_one (h1 : DSX X W st va t) : DSSX X W [st] va t := by
  obtain ⟨p1, s1⟩ := h1
  exact ⟨pss_one p1, s1⟩
theorem dss_frz (i : Nat) (h : DSSX X W rest va t) : DSSX X W rest va (dFrz i t) := by
  obtain ⟨p1, s1⟩ := h
  refine ⟨p1, fun D ρ h l0 F H σ S C L => ?_⟩
  unfold dFrz at h
  split at h
  · rename_i ds e
    have e2 : ρ[i]? = some (.own ds) := by
      rw [List.getD_eq_getElem?_getD] at e
      cases q : ρ[i]? with
      | none => rw [q] at e; cases e
      | some s => rw [q] at e; exact congrArg some e
    obtain ⟨F', S', g, w⟩ := S.freeze e2
    exact s1 D _ h l0 F' H σ S' C (L.trans S.bs g w)
  · exact h.elim
theorem getD_own {ρ : En} {i : Nat} {ds : List Dt} (e : ρ.getD i .emp = .own ds) : ρ[i]? = some (.own ds) := by
  rw [List.getD_eq_getElem?_getD] at e
  cases q : ρ[i]? with
  | none => rw [q] at e; cases e
  | some s => rw [q] at e; exact congrArg some e
theorem hand {K : PySem.W.Frag} {l0 : Addr} {F H F1 H1 : Hp} {σ : L2.St} {ρ : En} {D : DEnds} {C : Ends} {v : V} {s : Sl} (L : Lnk K W l0 F H σ ρ D C) (S : Stt K l0 F H σ ρ) (g : Go l0 F H F1 H1) (r : SlV K l0 F1 H1 v s) (ow : ∀ ds, s = .own ds → ∃ a : Addr, v = .ref a ∧ (Ow σ ρ a ∨ H a = none)) (q : retS D s) : C.rt v H1 := by
  unfold retS at q
  split at q
  · exact L.rt F1 H1 v _ (.of g) r q
  · rename_i ds
    obtain ⟨l, xs, e, hF, n0, hl, hd⟩ := r
    subst e
    obtain ⟨a, e, ha⟩ := ow ds rfl
    cases e
    have ex : Same F1 (upd F1 l (.lst xs)) := fun a o e => by
      rw [upd_ne (ne_of_none e hF)]
      exact e
    refine L.rt (upd F1 l (.lst xs)) H1 (.ref l) (.lst ds) ⟨⟨fun a o e => ?_, by rw [upd_ne n0.symm]; exact g.bs.nf, g.bs.dr⟩, fun a o e => ex a o (g.ex a o e), fun a h1 h2 => ?_, fun a o n _ e => g.keep a o n e⟩ (Den.lst (SqL.of upd_same) (Dens.mono ex hd)) q
    · by_cases z : a = l
      · subst z
        rw [upd_same] at e
        cases e
        exact hl
      · rw [upd_ne z] at e
        exact g.bs.sub a o e
    · by_cases z : a = l
      · subst z
        exact ha.symm
      · rw [upd_ne z] at h2
        exact .inl (g.new a h1 h2)
  · exact q.elim
theorem ds_retv (i : Nat) {x : Str} {p : Pos} (hN : X.N[i]? = some x := by rfl) (hv : Vis X.env.scope x := by first | exact Or.inl rfl | exact Or.inr (Or.inl rfl) | exact Or.inr (Or.inr rfl)) (hd : (x == ("__debug__" : Str)) = false := by decide)
    (hcd : (x == ("__classdict__" : Str)) = false := by decide) : DSX X W (.Return (some (.Name x p)) pos) (tRet (tVar i)) (dRet (dVar i)) := by
  refine ⟨ps_ret (pe_var hN hv hd hcd), fun D ρ h l0 F H σ S C L => ?_⟩
  obtain ⟨s, v, h0, h1, h2, q⟩ := S.use h
  refine ⟨v, h1, hand L S (.refl S.bs) h2 (fun ds e => ?_) q⟩
  subst e
  obtain ⟨l, xs, e, _⟩ := h2
  subst e
  exact ⟨l, rfl, .inl ⟨i, _, h0, rfl, .inl h1⟩⟩
def dRetE (de : DE) : DS := fun D ρ => de ρ (datS D.rt) fun x => D.ex x ρ
theorem ds_ret (ha : DEX X W e xe de) : DSX X W (.Return (some e) pos) (tRet xe) (dRetE de) := by
  obtain ⟨p, se⟩ := ha
  refine ⟨ps_ret p, fun D ρ h l0 F H σ S C L => ?_⟩
  refine se ρ _ _ h l0 F H σ S _ (fun v s F1 H1 g1 r1 q1 => ?_) (L.kx S)
  obtain ⟨d, e, q1⟩ := datS_of q1
  subst e
  exact L.rt F1 H1 v _ (.of g1) r1 q1
theorem ds_if {p q : List Stmt} (hc : DTX X W c ya ta) (ha : DSSX X W p va t) (hb : DSSX X W q vb u) : DSX X W (.If c p q pos) (tIfS ya va vb) (dIfS ta t u) := by
  obtain ⟨pc, sc⟩ := hc
  obtain ⟨p1, s1⟩ := ha
  obtain ⟨p2, s2⟩ := hb
  refine ⟨ps_if pc p1 p2, fun D ρ h l0 F H σ S C L => ?_⟩
  refine sc ρ _ _ h l0 F H σ S _ (fun b F1 H1 g1 q1 => ?_) (L.kx S)
  have L1 := L.trans S.bs (.of g1) .refl
  cases b with
  | true =>
    rw [if_pos rfl] at q1 ⊢
    exact s1 D ρ q1 l0 F1 H1 σ (S.go g1) C L1
  | false =>
    rw [if_neg Bool.false_ne_true] at q1 ⊢
    exact s2 D ρ q1 l0 F1 H1 σ (S.go g1) C L1
theorem ds_expr (ha : DEX X W e xe de) (hs : swapsWith e none pos.line X.env = pure false := by rfl) : DSX X W (.Expr e pos) (tDrop xe) (dDrop de) := by
  obtain ⟨p, se⟩ := ha
  refine ⟨ps_expr p hs, fun D ρ h l0 F H σ S C L => ?_⟩
  exact se ρ _ _ h l0 F H σ S _ (fun v s F1 H1 g1 r1 q1 => L.nx F1 H1 σ ρ (.of g1) .refl (S.go g1) q1) (L.kx S)
theorem ds_asg {g' : TG} {g : DG} {ns : List Nat} (ha : DEX X W e xe de) (hg : DGX X tg ns g' g) (hs : swapsWithSole [tg] e pos.line X.env = pure false := by rfl) (hw : swappedStores [tg] e X.env = pure none := by rfl) (h1 : (assignEach [tg] X.env).map (·.2) = [assign tg X.env] := by rfl) : DSX X W (.Assign [tg] e pos) (tAsg xe g') (dAsg de g) := by
  obtain ⟨p, se⟩ := ha
  obtain ⟨pg, sg⟩ := hg
  refine ⟨ps_asg p pg hs hw h1, fun D ρ h l0 F H σ S C L => ?_⟩
  refine se ρ _ _ h l0 F H σ S _ (fun v s F1 H1 g1 r1 q1 => ?_) (L.kx S)
  exact sg s ρ _ q1 l0 F1 H1 σ v (S.go g1) r1 _ fun F2 H2 σ2 ρ2 g2 w2 S2 _ q2 => (L.trans S.bs (.of g1) .refl).nx F2 H2 σ2 ρ2 (.of g2) w2 S2 q2
theorem ds_own (i : Nat) {x : Str} {p : Pos} {es : List Expr} {pl : Pos} {zr : TA} {dr : DA} (hN : X.N.Nodup) (ha : DAX X W es zr dr) (hi : X.N[i]? = some x := by rfl) (hx : Loc X.env.scope x := by first | exact .inl rfl | exact .inr rfl)
    (hf : X.fn x = true ∨ X.env.scope.names.lookup x = some .local := by first | exact .inl rfl | exact .inr rfl | assumption) (hs : swapsWithSole [.Name x p] (.List es pl) pos.line X.env = pure false := by rfl) (hw : swappedStores [.Name x p] (.List es pl) X.env = pure none := by rfl) :
    DSX X W (.Assign [.Name x p] (.List es pl) pos) (tAsg (tLst zr) (gName i)) (dOwn i dr) := by
  obtain ⟨pa, sa⟩ := ha
  refine ⟨ps_asg (pe_lst pa) (pg_name hN hi hx hf) hs hw, fun D ρ h l0 F H σ S C L => ?_⟩
  refine sa ρ _ _ h l0 F H σ S _ (fun xs ss F1 H1 g1 r1 q1 => ?_) (L.kx S)
  obtain ⟨z, q1⟩ := q1
  obtain ⟨ds, e, q⟩ := plain_of q1
  subst e
  refine ⟨by rw [pairs_len r1]; exact Evl.sz_of z, fun l hl => ?_⟩
  have S1 := S.go g1
  exact (L.trans S.bs (.of g1) .refl).nx F1 _ _ _ (.of (Go.loose g1.bs (.lst xs) hl)) (.putOwn i hl) (S1.putOwn i hl (dens_of r1)) q
theorem ds_app (i : Nat) {x : Str} {p pa pc : Pos} (he : DEX X W e xe de) (hN : X.N[i]? = some x := by rfl) (hv : Vis X.env.scope x := by first | exact Or.inl rfl | exact Or.inr (Or.inl rfl) | exact Or.inr (Or.inr rfl)) (hd : (x == ("__debug__" : Str)) = false := by decide)
    (hcd : (x == ("__classdict__" : Str)) = false := by decide) (hst : starEach (e :: []) X.env = (false, eval e X.env) :: starEach [] X.env := by rfl) (hpl : (backTo pc (starEach [] X.env)).any (·.1) = false := by rfl)
    (hbase : attributeBase (.Name x p) "append" X.env (eval (.Name x p) X.env) = eval (.Name x p) X.env := by rfl)
    (hfew : ((backTo pc (starEach (e :: []) X.env)).all (fun x => !x.1) && (backToKw pc (keywordEach [] X.env)).all (fun x => x.1.isSome)
      && decide ((e :: []).length + ([] : List Keyword).length + (if ([] : List Keyword).isEmpty then 0 else 1) < 30)) = true := by rfl) (hline : (pa.endLine == pc.line) = true := by rfl)
    (hs : swapsWith (.Call (.Attribute (.Name x p) "append" pa) [e] [] pc) none pos.line X.env = pure false := by rfl) : DSX X W (.Expr (.Call (.Attribute (.Name x p) "append" pa) [e] [] pc) pos) (tDrop (tBM X.K "list" rAppend (tVar i) (tCons xe tNil))) (dApp i de) := by
  obtain ⟨pe, se⟩ := he
  refine ⟨ps_expr (pe_bm PySem.F.plainAttrs_list PySem.F.slot_list_append PySem.F.type_list_append mt_append (pe_var hN hv hd hcd) (pa_cons pe pa_nil hst) hbase hfew hline hst hpl) hs, fun D ρ h l0 F H σ S C L => ?_⟩
  unfold dApp at h
  split at h
  · rename_i ds e0
    have e1 := getD_own e0
    obtain ⟨l, xs, hσ, hF, n0, hl, r⟩ := S.own e1
    refine ⟨_, hσ, .inl ⟨rfl, xs, SqL.of hl⟩, ?_⟩
    refine se ρ _ _ h l0 F H σ S _ (fun v s F1 H1 g1 r1 q1 => ?_) (L.kx S)
    obtain ⟨d, e, z, q⟩ := datS_of q1
    subst e
    have S1 := S.go g1
    obtain ⟨l1, xs1, hσ1, hF1, n1, hl1, rr⟩ := S1.own e1
    rw [hσ] at hσ1
    cases hσ1
    obtain ⟨S2, g2, w2⟩ := S1.mut (xs := xs1) e1 hσ hF1 n1 (rr.append (Dens.one r1))
    exact ⟨l, xs1, v, rfl, rfl, hl1, by rw [rr.length]; exact Nat.lt_of_le_of_lt z (by decide), (L.trans S.bs (.of g1) .refl).nx F1 _ σ _ g2 w2 S2 q⟩
  · exact h.elim
theorem ds_while {body : List Stmt} (hp : PassesOwn (model X.prog X.w) X.A X.env X.xe) (hc : DTX X W c ya ta) (hb : DSSX X W body va t) : DSX X W (.While c body [] pos) (tWhile ya va) (dWhile ta t) := by
  obtain ⟨pc, sc⟩ := hc
  obtain ⟨p1, s1⟩ := hb
  refine ⟨ps_while hp pc p1, fun D ρ h l0 F H σ S C L => ?_⟩
  obtain ⟨P, μ, hP, hs⟩ := h
  refine ⟨fun m σ' H' => ∃ F' ρ', m = μ ρ' ∧ P ρ' ∧ Stt X.K l0 F' H' σ' ρ' ∧ GoS l0 F H σ ρ F' H' ∧ OwS H σ ρ σ' ρ', ⟨_, F, ρ, rfl, hP, S, .of (.refl S.bs), .refl⟩, ?_⟩
  rintro m σ1 H1 ⟨F1, ρ1, rfl, hP1, S1, g1, w1⟩
  have L1 := L.trans S.bs g1 w1
  refine sc ρ1 _ _ (hs ρ1 hP1) l0 F1 H1 σ1 S1 _ (fun b F2 H2 g2 q2 => ?_) (L1.kx S1)
  have L2 := L1.trans S1.bs (.of g2) .refl
  cases b with
  | true =>
    rw [if_pos rfl] at q2 ⊢
    have g12 := g1.trans S.bs w1 (.of g2)
    refine ⟨fun σ' H' => ∃ F' ρ', (P ρ' ∧ μ ρ' < μ ρ1) ∧ Stt X.K l0 F' H' σ' ρ' ∧ GoS l0 F H σ ρ F' H' ∧ OwS H σ ρ σ' ρ', fun σ' H' ⟨F', ρ', ⟨z1, z2⟩, S', g', w'⟩ => ⟨μ ρ', z2, F', ρ', rfl, z1, S', g', w'⟩, ?_⟩
    have S2 := S1.go g2
    have w12 : OwS H σ ρ σ1 ρ1 := w1
    have nx : ∀ F' H' σ' ρ', GoS l0 F2 H2 σ1 ρ1 F' H' → OwS H2 σ1 ρ1 σ' ρ' → Stt X.K l0 F' H' σ' ρ' → (P ρ' ∧ μ ρ' < μ ρ1) → ∃ F' ρ', (P ρ' ∧ μ ρ' < μ ρ1) ∧ Stt X.K l0 F' H' σ' ρ' ∧ GoS l0 F H σ ρ F' H' ∧ OwS H σ ρ σ' ρ' := fun F' H' σ' ρ' g' w' S' q' =>
      ⟨F', ρ', q', S', g12.trans S.bs w12 g', OwS.trans S.bs g12 w12 w'⟩
    exact s1 _ ρ1 q2 l0 F2 H2 σ1 S2 _ ⟨nx, L2.rt, L2.nx, nx, L2.ex, L2.rs⟩
  | false =>
    rw [if_neg Bool.false_ne_true] at q2 ⊢
    exact L2.nx F2 H2 σ1 ρ1 (.of (.refl g2.bs)) .refl (S1.go g2) q2
theorem ds_for {it : Expr} {body : List Stmt} {wi : TI} {g' : TG} {di : DI} {g : DG} {ns : List Nat} (hp : PassesOwn (model X.prog X.w) X.A X.env X.xe) (hc : X.calm = true) (hi : DIX X W tg it wi di) (hg : DGX X tg ns g' g) (hb : DSSX X W body va t) (hs : ∀ x, foldedSetIterable it X.env x = pure x := by intro _; rfl) :
    DSX X W (.For tg it body [] pos) (tFor wi g' va) (dFor di g t) := by
  obtain ⟨pi, si⟩ := hi
  obtain ⟨pg, sg⟩ := hg
  obtain ⟨p1, s1⟩ := hb
  refine ⟨ps_for hp hc pi pg p1 hs, fun D ρ h l0 F H σ S C L => ?_⟩
  refine si ρ _ _ h l0 F H σ S _ (fun J ds F1 H1 g1 wl q1 => ?_) (L.kx S)
  obtain ⟨P, q0, qt, qe⟩ := q1
  refine ⟨fun i m σ' H' => m = ds.length - i ∧ i ≤ ds.length ∧ ∃ F' ρ', Same F1 F' ∧ P i ρ' ∧ Stt X.K l0 F' H' σ' ρ' ∧ GoS l0 F H σ ρ F' H' ∧ OwS H σ ρ σ' ρ', ⟨ds.length, by simp, Nat.zero_le _, F1, ρ, fun _ _ h => h, q0, S.go g1, .of g1, .refl⟩, ?_⟩
  rintro i m σ2 H2 ⟨rfl, hi, F2, ρ2, ex2, q2, S2, g2, w2⟩
  by_cases hlt : i < ds.length
  · refine .inr ⟨wl.go i F2 H2 ex2 S2.bs hlt, fun σ' H' => ∃ F' ρ', Same F1 F' ∧ P (i + 1) ρ' ∧ Stt X.K l0 F' H' σ' ρ' ∧ GoS l0 F H σ ρ F' H' ∧ OwS H σ ρ σ' ρ', fun σ' H' z => ⟨ds.length - (i + 1), by omega, rfl, hlt, z⟩, fun x H3 y => ?_⟩
    obtain ⟨F3, d, g3, hd, r3⟩ := wl.yld i F2 H2 x H3 ex2 S2.bs hlt y
    have q2 := qt i d ρ2 hd q2
    have g23 := g2.trans S.bs w2 (.of g3)
    have L3 := L.trans S.bs g23 w2
    refine sg (.dat d) ρ2 _ q2 l0 F3 H3 σ2 x (S2.go g3) r3 _ fun F4 H4 σ4 ρ4 g4 w4 S4 _ q4 => ?_
    have g24 := g23.trans S.bs w2 (.of g4)
    have w24 := OwS.trans S.bs g23 w2 w4
    have L4 := L.trans S.bs g24 w24
    have nx : ∀ F' H' σ' ρ', GoS l0 F4 H4 σ4 ρ4 F' H' → OwS H4 σ4 ρ4 σ' ρ' → Stt X.K l0 F' H' σ' ρ' → P (i + 1) ρ' → ∃ F' ρ', Same F1 F' ∧ P (i + 1) ρ' ∧ Stt X.K l0 F' H' σ' ρ' ∧ GoS l0 F H σ ρ F' H' ∧ OwS H σ ρ σ' ρ' := fun F' H' σ' ρ' g' w' S' q' =>
      ⟨F', ρ', fun a o z => g'.ex a o (g4.ex a o (g3.ex a o (ex2 a o z))), q', S', g24.trans S.bs w24 g', OwS.trans S.bs g24 w24 w'⟩
    exact s1 _ ρ4 q4 l0 F4 H4 σ4 S4 _ ⟨nx, L4.rt, L4.nx, nx, L4.ex, L4.rs⟩
  · have e : i = ds.length := by omega
    subst e
    have q2 := qe ρ2 q2
    exact .inl ⟨wl.stop F2 H2 ex2 S2.bs, (L.trans S.bs g2 w2).nx F2 H2 σ2 ρ2 (.of (.refl S2.bs)) .refl S2 q2⟩
end
end DW

set_option Elab.async false
set_option linter.all false
set_option maxRecDepth 100000
namespace DW
open PySem PySem.Spec PyProof.Rows L2
abbrev W0 : WX := fun _ _ _ _ => False
abbrev Sd := List Dt → (Dt → Prop) → (Xn → Prop) → Prop
def spOf (K : PySem.W.Frag) (sd : Sd) : Sp := fun vs H Q E => ∃ l0 F ds Qd Ed, Base l0 F H ∧ Dens K l0 F vs ds ∧ sd ds Qd Ed ∧
  (∀ v d F' H', Go l0 F H F' H' → Den K l0 F' v d → Qd d → Q v H') ∧ (∀ cls dct x F' H', Go l0 F H F' H' → XDen K l0 F' H' cls dct x → Ed x → E cls dct H')
def viewS : List Sl → Option (List Dt)
  | [] => some []
  | .dat d :: r => (viewS r).map (d :: ·)
  | .own ds :: r => (viewS r).map (.lst ds :: ·)
  | _ :: _ => none
def anyOwn : List Sl → Bool
  | [] => false
  | .dat _ :: r => anyOwn r
  | _ :: _ => true
def callD (sd : Sd) (ss : List Sl) (Q : Sl → Prop) (E : Xn → Prop) : Prop := match viewS ss, anyOwn ss with
  | some ds, false => sd ds (fun d => Q (.dat d)) E
  | some ds, true => sd ds (fun d => ∃ x, d = .v x ∧ Q (.dat d)) (fun _ => False)
  | none, _ => False
def dCall (sd : Sd) (dd : List Dt) (da : DA) : DE := fun ρ Q E => da ρ (fun ss => callD sd (ss ++ dd.map Sl.dat) Q E) E
def viewEn (ρ : En) : En := ρ.map fun s => match s with
  | .own ds => .dat (.lst ds)
  | .oob p0 C fs => .emp
  | .odc kvs => .emp
  | .tre t => .emp
  | s => s
section
variable {K : PySem.W.Frag} {W : WX} {l0 : Addr} {F H F' H' : Hp} {σ : L2.St} {ρ : En}
theorem pairs_app {α β : Type} {R : α → β → Prop} : ∀ {xs ys : List α} {us ws : List β}, Paired R xs us → Paired R ys ws → Paired R (xs ++ ys) (us ++ ws)
  | [], _, [], _, .nil, s => s
  | _ :: _, _, _ :: _, _, .cons r t, s => .cons r (pairs_app t s)
def allOf (l0 : Addr) (H : Hp) : Hp := fun a => if a = l0 then none else H a
theorem allOf_same (b : Base l0 F H) : Same F (allOf l0 H) := fun a o e => by
  unfold allOf
  by_cases q : a = l0
  · subst q
    rw [b.nf] at e
    cases e
  · rw [if_neg q]
    exact b.sub a o e
theorem allOf_base (b : Base l0 F H) : Base l0 (allOf l0 H) H := by
  refine ⟨fun a o e => ?_, if_pos rfl, b.dr⟩
  unfold allOf at e
  by_cases q : a = l0
  · rw [if_pos q] at e
    cases e
  · rw [if_neg q] at e
    exact e
theorem Go.back (b : Base l0 F H) (g : Go l0 (allOf l0 H) H F' H') : Go l0 F H F H' := by
  refine ⟨⟨fun a o e => ?_, b.nf, g.bs.dr⟩, fun _ _ h => h, fun a h1 h2 => absurd h1 h2, g.keep⟩
  exact g.bs.sub a o (g.ex a o (allOf_same b a o e))
theorem view_dens (b : Base l0 F H) : ∀ {vs : List V} {ss : List Sl} {ds : List Dt}, Paired (SlV K l0 F H) vs ss → viewS ss = some ds → Dens K l0 (allOf l0 H) vs ds
  | [], [], _, .nil, e => by cases e; exact .nil
  | v :: vs, .dat d :: ss, ds, .cons r t, e => by
    have e : (viewS ss).map (d :: ·) = some ds := e
    cases q : viewS ss with
    | none => rw [q] at e; cases e
    | some es =>
      rw [q] at e
      cases e
      exact .cons (Den.mono (allOf_same b) r) (view_dens b t q)
  | v :: vs, .own xs :: ss, ds, .cons r t, e => by
    have e : (viewS ss).map (.lst xs :: ·) = some ds := e
    cases q : viewS ss with
    | none => rw [q] at e; cases e
    | some es =>
      rw [q] at e
      cases e
      obtain ⟨l, ys, e1, _, n0, hl, r2⟩ := r
      subst e1
      refine .cons (.lst (.inl (.inl ?_)) (Dens.mono (allOf_same b) r2)) (view_dens b t q)
      unfold allOf
      rw [if_neg n0]
      exact hl
  | v :: vs, .emp :: ss, ds, .cons r t, e => r.elim
  | v :: vs, .oob _ _ _ :: ss, ds, .cons r t, e => by cases e
  | v :: vs, .odc _ :: ss, ds, .cons r t, e => by cases e
theorem no_own : ∀ {vs : List V} {ss : List Sl} {ds : List Dt}, Paired (SlV K l0 F H) vs ss → anyOwn ss = false → viewS ss = some ds → Dens K l0 F vs ds
  | [], [], _, .nil, _, e => by cases e; exact .nil
  | v :: vs, .dat d :: ss, ds, .cons r t, n, e => by
    have e : (viewS ss).map (d :: ·) = some ds := e
    cases q : viewS ss with
    | none => rw [q] at e; cases e
    | some es =>
      rw [q] at e
      cases e
      exact .cons r (no_own t n q)
  | v :: vs, .own xs :: ss, ds, .cons r t, n, e => by cases n
  | v :: vs, .emp :: ss, ds, .cons r t, n, e => by cases n
  | v :: vs, .oob _ _ _ :: ss, ds, .cons r t, n, e => by cases n
  | v :: vs, .odc _ :: ss, ds, .cons r t, n, e => by cases n
theorem snd_call {sd : Sd} {dvs : List V} {dd : List Dt} {ta : TA} {da : DA} (hd : ∀ l0 F, Dens K l0 F dvs dd) (sa : SndA K W ta da) : SndE K W (tCallSD (spOf K sd) dvs (WE W) ta) (dCall sd dd da) := fun ρ Q E h l0 F H σ S Qc k kx => by
  refine sa ρ _ E h l0 F H σ S _ (fun vs ss F1 H1 g1 r1 q1 => ?_) kx
  have r2 : Paired (SlV K l0 F1 H1) (vs ++ dvs) (ss ++ dd.map Sl.dat) := pairs_app r1 (of_dens (hd l0 F1))
  unfold callD at q1
  split at q1
  · rename_i ds e1 e2
    refine ⟨l0, F1, ds, _, E, g1.bs, no_own r2 e2 e1, q1, fun v d F' H' g r q => ?_, fun cls dct x F' H' g r q => ?_⟩
    · exact k v (.dat d) F' H' (g1.trans g) r q
    · exact kx cls dct x F' H' (g1.trans g) r q
  · rename_i ds e1 e2
    refine ⟨l0, allOf l0 H1, ds, _, _, allOf_base g1.bs, view_dens g1.bs r2 e1, q1, fun v d F' H' g r q => ?_, fun cls dct x F' H' g r q => q.elim⟩
    obtain ⟨x, e, q⟩ := q
    subst e
    exact k v (.dat (.v x)) F1 H' (g1.trans (g.back g1.bs)) (by cases r; exact Den.v _) q
  · exact q1.elim
theorem Stt.view (S : Stt K l0 F H σ ρ) : Stt K l0 (allOf l0 H) H σ (viewEn ρ) := by
  refine ⟨allOf_base S.bs, by unfold viewEn; rw [List.length_map]; exact S.len, fun i s e => ?_, fun i j s t a h1 h2 ⟨o1, e1⟩ ⟨o2, e2⟩ => ?_⟩
  · unfold viewEn at e
    rw [List.getElem?_map] at e
    cases q : ρ[i]? with
    | none => rw [q] at e; cases e
    | some u =>
      rw [q] at e
      have e := Option.some.inj e
      rcases S.sl i u q with z | ⟨v, h1, h2⟩
      · subst z
        subst e
        exact .inl rfl
      · cases u with
        | emp => exact h2.elim
        | dat d =>
          subst e
          exact .inr ⟨v, h1, Den.mono (allOf_same S.bs) h2⟩
        | oob p0 C fs =>
          subst e
          exact .inl rfl
        | odc kvs =>
          subst e
          exact .inl rfl
        | tre t =>
          subst e
          exact .inl rfl
        | own ds =>
          subst e
          obtain ⟨l, xs, e1, _, n0, hl, r⟩ := h2
          subst e1
          refine .inr ⟨.ref l, h1, Den.lst (.inl (.inl ?_)) (Dens.mono (allOf_same S.bs) r)⟩
          unfold allOf
          rw [if_neg n0]
          exact hl
  · unfold viewEn at h1
    rw [List.getElem?_map] at h1
    cases q : ρ[i]? with
    | none => rw [q] at h1; cases h1
    | some u =>
      rw [q] at h1
      have h1 := Option.some.inj h1
      cases u <;> subst h1 <;> cases o1
end

section
variable {X : Cx} {W : WX} {a b c e tg : Expr} {xa xb xc xe : TE} {ya yb : TT} {va vb : TS} {da db dc de : DE} {pos : Pos} {ta tb : DTt} {st : Stmt} {rest : List Stmt} {t u : DS}
theorem de_call {k : Nat} {f : Addr} {fd : FuncData} {ps : List Str} {sd : Sd} {dvs : List V} {ds : List Value} {dd : List Dt} {x : Str} {p : Pos} {es : List Expr} {zr : TA} {dr : DA} (F : FnOk X.prog X.w X.K X.mg X.base (L2.CX X.prog X.w) k f fd ps (spOf X.K sd)) (tk : Takes X W) (hr : Room k X.A) (hg : Gl X x) (hm : X.mg x = some (.ref f))
    (hk : PySem.W.keepIn X.K (.ref f) = true) (hb : Binds X.K fd ps ds) (hd : Vals dvs ds) (hdd : ∀ l0 F, Dens X.K l0 F dvs dd) (ha : DAX X W (e :: es) zr dr) (hdb : (x == ("__debug__" : Str)) = false := by decide)
    (he : starEach (e :: es) X.env = (false, eval e X.env) :: starEach es X.env := by rfl) (hpl : (backTo pos (starEach es X.env)).any (·.1) = false := by rfl) :
    DEX X W (.Call (.Name x p) (e :: es) [] pos) (tCallSD (spOf X.K sd) dvs (WE W) zr) (dCall sd dd dr) :=
  ⟨pe_callSD F hr hg hm hk hb hd (fun σ => passAt tk σ) ha.1 hdb he hpl, snd_call hdd ha.2⟩
theorem dd_nil {K : PySem.W.Frag} : ∀ l0 F, Dens K l0 F [] [] := fun _ _ => .nil
def DTsX (X : Cx) (W : WX) (ifs : List Expr) (tt : TT) (dt : DTt) : Prop := PTs X ifs tt ∧ SndT X.K W tt dt
theorem dts_nil : DTsX X W [] tYes dYes := ⟨pts_nil, fun ρ Q E h l0 F H σ S Qc k _ => k true F H (.refl S.bs) h⟩
theorem Stt.forget {K : PySem.W.Frag} {l0 : Addr} {F H : Hp} {σ : L2.St} {ρ : En} (S : Stt K l0 F H σ ρ) (i : Nat) : Stt K l0 F H (σ.set i none) (ρ.set i .emp) := by
  have back : ∀ {j : Nat} {s : Sl}, (ρ.set i .emp)[j]? = some s → s.isOwn = true → ρ[j]? = some s ∧ i ≠ j := fun {j s} h o => by
    by_cases q : i = j
    · subst q
      by_cases z : i < ρ.length
      · rw [List.getElem?_set_self z] at h
        cases h
        cases o
      · rw [List.getElem?_eq_none (by rw [List.length_set]; omega)] at h
        cases h
    · rw [List.getElem?_set_ne q] at h
      exact ⟨h, q⟩
  refine ⟨S.bs, by rw [List.length_set, List.length_set]; exact S.len, fun j s h => ?_, fun j k s t a h1 h2 ⟨o1, e1⟩ ⟨o2, e2⟩ => ?_⟩
  · by_cases q : i = j
    · subst q
      by_cases z : i < ρ.length
      · rw [List.getElem?_set_self z] at h
        cases h
        exact .inl rfl
      · rw [List.getElem?_eq_none (by rw [List.length_set]; omega)] at h
        cases h
    · rw [List.getElem?_set_ne q] at h
      rw [List.getElem?_set_ne q]
      exact S.sl j s h
  · obtain ⟨z1, n1⟩ := back h1 o1
    obtain ⟨z2, n2⟩ := back h2 o2
    rw [List.getElem?_set_ne n1] at e1
    rw [List.getElem?_set_ne n2] at e2
    exact S.ap2 j k s t a z1 z2 ⟨o1, e1⟩ ⟨o2, e2⟩
theorem Stt.wipe {K : PySem.W.Frag} {l0 : Addr} {F H : Hp} {σ : L2.St} {ρ : En} (S : Stt K l0 F H σ ρ) : ∀ vs : List Nat, Stt K l0 F H (L2.wipe σ vs) (wipeD ρ vs)
  | [] => S
  | v :: vs => (S.wipe vs).forget v
theorem Go.modNew {l0 D : Addr} {F1 H1 F H : Hp} {o : HO} (g : Go l0 F1 H1 F H) (hD : H1 D = none) (hF : F D = none) (n0 : D ≠ l0) : Go l0 F1 H1 F (upd H D o) := by
  refine ⟨⟨fun a u e => ?_, g.bs.nf, ?_⟩, g.ex, g.new, fun a u n e => ?_⟩
  · rw [upd_ne (ne_of_none e hF)]
    exact g.bs.sub a u e
  · obtain ⟨ns, h1, h2⟩ := g.bs.dr
    exact ⟨ns, by rw [upd_ne n0.symm]; exact h1, h2⟩
  · rw [upd_ne (ne_of_none e hD)]
    exact g.keep a u n e
theorem Go.frzNew {l0 D : Addr} {F1 H1 F H : Hp} {o : HO} (g : Go l0 F1 H1 F H) (hD : H1 D = none) (hF : F D = none) (n0 : D ≠ l0) (ho : H D = some o) : Go l0 F1 H1 (upd F D o) H := by
  refine ⟨⟨fun a u e => ?_, by rw [upd_ne n0.symm]; exact g.bs.nf, g.bs.dr⟩, fun a u e => ?_, fun a h1 h2 => ?_, g.keep⟩
  · by_cases q : a = D
    · subst q
      rw [upd_same] at e
      cases e
      exact ho
    · rw [upd_ne q] at e
      exact g.bs.sub a u e
  · rw [upd_ne (ne_of_none (g.ex a u e) hF)]
    exact g.ex a u e
  · by_cases q : a = D
    · subst q
      exact hD
    · rw [upd_ne q] at h2
      exact g.new a h1 h2
theorem Go.stays {l0 D : Addr} {F H F' H' : Hp} {o : HO} (g : Go l0 F H F' H') (hF : F D = none) (hH : H D = some o) : F' D = none := by
  cases e : F' D with
  | none => rfl
  | some u =>
    have z := g.new D hF (by rw [e]; exact fun z => nomatch z)
    rw [hH] at z
    cases z
theorem snd_lc {K : PySem.W.Frag} {wi : TI} {g : TG} {tt : TT} {te : TE} {di : DI} {dg : DG} {dt : DTt} {de : DE} {ts vs : List Nat} (hv : ∀ j ∈ ts, j ∈ vs) (si : SndI K W wi di) (sg : SndG K ts g dg) (st : SndT K W0 tt dt) (se : SndE K W0 te de) :
    SndE K W (tLc wi g tt te vs) (dLc di dg dt de vs) := fun ρ Q E h l0 F H σ S Qc k kx => by
  refine si ρ _ _ h l0 F H σ S _ (fun J ds F1 H1 g1 wl q1 => ?_) kx
  intro D hD
  have n0 : D ≠ l0 := fun e => g1.bs.live (by rw [← e]; exact hD)
  have FD : F1 D = none := by
    cases e : F1 D with
    | none => rfl
    | some u =>
      rw [g1.bs.sub D u e] at hD
      cases hD
  have S1 := S.go g1
  have noX : ∀ {F H σ}, KX K W0 l0 F H σ fun _ => False := fun _ _ _ _ _ _ _ z => z.elim
  obtain ⟨P, q0, qt, qe⟩ := q1
  refine ⟨fun i m H' => m = ds.length - i ∧ i ≤ ds.length ∧ ∃ F' acc xs, Go l0 F1 H1 F' H' ∧ F' D = none ∧ H' D = some (.lst xs) ∧ Dens K l0 F' xs acc ∧ P i acc, ⟨ds.length, by simp, Nat.zero_le _, F1, [], [], Go.loose g1.bs (.lst []) hD, FD, upd_same, .nil, q0⟩, ?_⟩
  rintro i m H2 ⟨rfl, hi, F2, acc, xs, g2, hF2, hD2, r2, q2⟩
  by_cases hlt : i < ds.length
  · refine .inr ⟨wl.go i F2 H2 g2.ex g2.bs hlt, fun H' => ∃ F' acc xs, Go l0 F1 H1 F' H' ∧ F' D = none ∧ H' D = some (.lst xs) ∧ Dens K l0 F' xs acc ∧ P (i + 1) acc, fun H' z => ⟨ds.length - (i + 1), by omega, rfl, hlt, z⟩, fun x H3 y => ?_⟩
    obtain ⟨F3, d, g3, hd, r3⟩ := wl.yld i F2 H2 x H3 g2.ex g2.bs hlt y
    have q2 := qt i d acc hd q2
    have g13 := g2.trans g3
    refine sg (.dat d) _ _ q2 l0 F3 H3 _ x ((S1.go g13).wipe vs) r3 _ fun F4 H4 σ4 ρ4 g4 w4 S4 z4 q4 => ?_
    refine ⟨(z4 vs hv).trans wipe_twice, ?_⟩
    refine st ρ4 _ _ q4 l0 F4 H4 σ4 S4 _ (fun b F5 H5 g5 q5 => ?_) noX
    have g25 := (g3.trans g4).trans g5
    have g15 := g2.trans g25
    have hF5 := g25.stays hF2 hD2
    have hD5 := g25.keep D _ n0 hD2
    have r5 := Dens.mono g25.ex r2
    cases b with
    | true =>
      rw [if_pos rfl] at q5 ⊢
      refine se ρ4 _ _ q5 l0 F5 H5 σ4 (S4.go g5) _ (fun v s F6 H6 g6 r6 q6 => ?_) noX
      obtain ⟨d6, e, z, q⟩ := datS_of q6
      subst e
      have hF6 := g6.stays hF5 hD5
      have hD6 := g6.keep D _ n0 hD5
      refine ⟨xs, hD6, by rw [r5.length]; exact Nat.lt_of_le_of_lt z (by decide), F6, _, _, (g15.trans g6).modNew hD hF6 n0, hF6, upd_same, (Dens.mono g6.ex r5).append (Dens.one r6), q⟩
    | false =>
      rw [if_neg Bool.false_ne_true] at q5 ⊢
      exact ⟨F5, acc, xs, g15, hF5, hD5, r5, q5⟩
  · have e : i = ds.length := by omega
    subst e
    have q2 := qe acc q2
    refine .inl ⟨wl.stop F2 H2 g2.ex g2.bs, ?_⟩
    have g := g2.frzNew hD hF2 n0 hD2
    exact k (.ref D) (.dat (.lst acc)) _ _ (g1.trans g) (Den.lst (SqL.of upd_same) (Dens.mono (fun a u e => by rw [upd_ne (ne_of_none e hF2)]; exact e) r2)) q2
theorem de_lc {elt iter : Expr} {ifs : List Expr} {scope : Scope} {own : List (Str × Nat)} {wi : TI} {g : TG} {tt : Shared → Hp → Addr → List (Str × Addr) → List Addr → TT} {te : Shared → Hp → Addr → List (Str × Addr) → List Addr → TE} {di : DI} {dg : DG} {dt : DTt} {ns : List Nat} (hc : X.calm = true) (hN : X.N.Nodup) (hi : DIX X W tg iter wi di) (ok : BlkOk X.N X.env.scope scope own)
    (hg : ∀ (s : Shared) (H : Hp) (C : Addr) (cl : List (Str × Addr)) (fp : List Addr), DGX (X.blk s H scope (compEnvC scope cl C X.env) fp) tg ns g dg) (ht : ∀ (s : Shared) (H : Hp) (C : Addr) (cl : List (Str × Addr)) (fp : List Addr), DTsX (X.blk s H scope (compEnvC scope cl C X.env) fp) W0 ifs (tt s H C cl fp) dt)
    (he : ∀ (s : Shared) (H : Hp) (C : Addr) (cl : List (Str × Addr)) (fp : List Addr), DEX (X.blk s H scope (compEnvC scope cl C X.env) fp) W0 elt (te s H C cl fp) de) (ett : ∀ (s : Shared) (H : Hp) (C : Addr) (cl : List (Str × Addr)) (fp : List Addr), tt s H C cl fp = tt X.s_0 X.H_0 0 [] [] := by intros; rfl) (ete : ∀ (s : Shared) (H : Hp) (C : Addr) (cl : List (Str × Addr)) (fp : List Addr), te s H C cl fp = te X.s_0 X.H_0 0 [] [] := by intros; rfl) (hv : ∀ j ∈ ns, j ∈ own.map (·.2) := by decide) (hs : ∀ x, foldedSetIterable iter X.env x = pure x := by intro _; rfl) :
    DEX X W (.ListComp elt [⟨tg, iter, ifs, 0⟩] scope pos) (tLc wi g (tt X.s_0 X.H_0 0 [] []) (te X.s_0 X.H_0 0 [] []) (own.map (·.2))) (dLc di dg dt de (own.map (·.2))) :=
  ⟨pe_lc hc hN hi.1 ok (fun s H C cl fp => (hg s H C cl fp).1) (fun s H C cl fp => ett s H C cl fp ▸ (ht s H C cl fp).1) (fun s H C cl fp => ete s H C cl fp ▸ (he s H C cl fp).1) hs,
    snd_lc hv hi.2 (hg X.s_0 X.H_0 0 [] []).2 (ht X.s_0 X.H_0 0 [] []).2 (he X.s_0 X.H_0 0 [] []).2⟩
theorem ds_pop (i j : Nat) {x y : Str} {p p2 pa pc : Pos} (hNd : X.N.Nodup) (hN : X.N[i]? = some y := by rfl) (hv : Vis X.env.scope y := by first | exact Or.inl rfl | exact Or.inr (Or.inl rfl) | exact Or.inr (Or.inr rfl)) (hd : (y == ("__debug__" : Str)) = false := by decide)
    (hcd : (y == ("__classdict__" : Str)) = false := by decide) (hj : X.N[j]? = some x := by rfl) (hx : Loc X.env.scope x := by first | exact .inl rfl | exact .inr rfl) (hf : X.fn x = true ∨ X.env.scope.names.lookup x = some .local := by first | exact .inl rfl | exact .inr rfl | assumption)
    (hbase : attributeBase (.Name y p2) "pop" X.env (eval (.Name y p2) X.env) = eval (.Name y p2) X.env := by rfl) (hline : (pa.endLine == pc.line) = true := by rfl)
    (hs : swapsWithSole [.Name x p] (.Call (.Attribute (.Name y p2) "pop" pa) [] [] pc) pos.line X.env = pure false := by rfl) (hw : swappedStores [.Name x p] (.Call (.Attribute (.Name y p2) "pop" pa) [] [] pc) X.env = pure none := by rfl) :
    DSX X W (.Assign [.Name x p] (.Call (.Attribute (.Name y p2) "pop" pa) [] [] pc) pos) (tAsg (tBM0 X.K "list" rPop (tVar i)) (gName j)) (dPop i j) := by
  refine ⟨ps_asg (pe_bm0 PySem.F.plainAttrs_list PySem.F.slot_list_pop PySem.F.type_list_pop mt_pop (pe_var hN hv hd hcd) hbase hline) (pg_name hNd hj hx hf) hs hw, fun D ρ h l0 F H σ S C L => ?_⟩
  unfold dPop at h
  split at h
  · rename_i ds e0
    obtain ⟨es, d, e, q⟩ := h
    subst e
    have e1 := getD_own e0
    obtain ⟨l, xs, hσ, hF, n0, hl, r⟩ := S.own e1
    have last : ∃ ys y, xs = ys ++ [y] ∧ Dens X.K l0 F ys es ∧ Den X.K l0 F y d := by
      have hlen := r.length
      rw [List.length_append, List.length_singleton] at hlen
      obtain ⟨y, h1, h2⟩ := r.get (i := es.length) (d := d) (by simp)
      refine ⟨xs.take es.length, y, ?_, ?_, h2⟩
      · apply List.ext_getElem?
        intro k
        rcases Nat.lt_trichotomy k es.length with z | z | z
        · rw [List.getElem?_append_left (by rw [List.length_take]; omega), List.getElem?_take_of_lt z]
        · subst z
          rw [List.getElem?_append_right (by rw [List.length_take]; omega), List.length_take, Nat.min_eq_left (by omega), Nat.sub_self, h1]
          rfl
        · rw [List.getElem?_eq_none (by omega), List.getElem?_eq_none (by rw [List.length_append, List.length_take, List.length_singleton]; omega)]
      · clear h1 h2 hl hσ hlen L C q e0 e1 S
        induction es generalizing xs with
        | nil => exact .nil
        | cons a es ih =>
          cases r with
          | cons h t =>
            rw [List.length_cons, List.take_succ_cons]
            exact .cons h (ih _ t)
    obtain ⟨ys, y, e, ry, rd⟩ := last
    subst e
    obtain ⟨S2, g2, w2⟩ := S.mut (ys := ys) (xs := ys ++ [y]) e1 hσ hF n0 ry
    refine ⟨_, hσ, .inl ⟨rfl, _, SqL.of hl⟩, l, _, y, rfl, rfl, hl, by simp, ?_⟩
    rw [List.dropLast_concat]
    exact (L.trans S.bs g2 w2).nx F _ _ _ (.of (.refl S2.bs)) (.put j) (S2.put j rd) q
  · exact h.elim
end

def startD (n : Nat) (ds : List Dt) : En := ds.map Sl.dat ++ List.replicate (n - ds.length) .emp
theorem Stt.start {K : PySem.W.Frag} {l0 : Addr} {F H : Hp} {N : List Str} {vs : List V} {ds : List Dt} (b : Base l0 F H) (r : Dens K l0 F vs ds) : Stt K l0 F H (L2.start N vs) (startD N.length ds) := by
  have el := r.length
  have noOwn : ∀ {i : Nat} {s : Sl}, (startD N.length ds)[i]? = some s → s.isOwn = true → False := fun {i s} h o => by
    unfold startD at h
    by_cases z : i < ds.length
    · rw [List.getElem?_append_left (by rw [List.length_map]; exact z), List.getElem?_map] at h
      cases e : ds[i]? with
      | none => rw [e] at h; cases h
      | some d =>
        rw [e] at h
        cases h
        cases o
    · rw [List.getElem?_append_right (by rw [List.length_map]; omega)] at h
      have := List.mem_of_getElem? h
      rw [List.eq_of_mem_replicate this] at o
      cases o
  refine ⟨b, ?_, fun i s h => ?_, fun i j s t a h1 _ o1 _ => (noOwn h1 o1.1).elim⟩
  · unfold startD L2.start
    rw [List.length_append, List.length_append, List.length_map, List.length_map, List.length_replicate, List.length_replicate, el]
  · unfold startD at h
    by_cases z : i < ds.length
    · rw [List.getElem?_append_left (by rw [List.length_map]; exact z), List.getElem?_map] at h
      cases e : ds[i]? with
      | none => rw [e] at h; cases h
      | some d =>
        rw [e] at h
        cases h
        obtain ⟨x, h1, h2⟩ := r.get e
        refine .inr ⟨x, ?_, h2⟩
        unfold L2.start
        rw [List.getElem?_append_left (by rw [List.length_map, el]; exact z), List.getElem?_map, h1]
        rfl
    · rw [List.getElem?_append_right (by rw [List.length_map]; omega)] at h
      exact .inl (List.eq_of_mem_replicate (List.mem_of_getElem? h))
theorem GoS.go {l0 : Addr} {F H F' H' : Hp} {σ : L2.St} {ρ : En} (g : GoS l0 F H σ ρ F' H') (no : ∀ a, ¬ Ow σ ρ a) : Go l0 F H F' H' :=
  ⟨g.bs, g.ex, fun a h1 h2 => (g.new a h1 h2).elim id fun z => absurd z (no a), fun a o n e => g.keep a o n (no a) e⟩
theorem start_noOw {n : Nat} {ds : List Dt} {σ : L2.St} (a : Addr) : ¬ Ow σ (startD n ds) a := fun ⟨i, s, h, o, _⟩ => by
  unfold startD at h
  by_cases z : i < ds.length
  · rw [List.getElem?_append_left (by rw [List.length_map]; exact z), List.getElem?_map] at h
    cases e : ds[i]? with
    | none => rw [e] at h; cases h
    | some d =>
      rw [e] at h
      cases h
      cases o
  · rw [List.getElem?_append_right (by rw [List.length_map]; omega)] at h
    have := List.mem_of_getElem? h
    rw [List.eq_of_mem_replicate this] at o
    cases o
def dEnds (Q : Dt → Prop) (E : Xn → Prop) : DEnds := { nx := fun _ => Q .non, rt := Q, bk := fun _ => False, ct := fun _ => False, ex := fun x _ => E x }
theorem fn_d {P : Program} {w : World} {K : PySem.W.Frag} {mg : Str → Option Value} {base : Heap} {x qual : Str} {params : Arguments} {body : List Stmt} {scope : Scope} {dvs : List V} {kws : List (Str × V)} {f : Addr} {fd : FuncData} {N ps : List Str} {k : Nat} {sd : Sd} {ds : DS}
    (F : FunD K x qual params body scope dvs kws f fd) (S : FnScope N ps scope) (len : ∀ as Q E, sd as Q E → as.length = ps.length)
    (hb : ∀ (cdv : Value) (A : Around) (outer : List Env) (s : Shared) (H : Hp) (E : XK), Room k (A.deeper (envOfC qual scope s.heap.objs.size f cdv)) →
      ∃ ts, DSSX (cxOf (L2.CX P w) P w K mg base N qual scope f cdv A outer s H E) (fun cls d _ H => E cls d H) body ts ds)
    (hp : ∀ as Q E, sd as Q E → ds (dEnds Q E) (startD N.length as)) : FnOk P w K mg base (L2.CX P w) (k + 1) f fd ps (spOf K sd) := by
  refine F.ok S (fun vs H Q E h => ?_) fun cdv A outer s H vs Q E hr h => ?_
  · obtain ⟨l0, F, as, Qd, Ed, b, r, h, _, _⟩ := h
    rw [r.length]
    exact len as Qd Ed h
  · obtain ⟨l0, F, as, Qd, Ed, b, r, h, hq, he⟩ := h
    obtain ⟨ts, p, sd⟩ := hb cdv A outer s H E hr
    refine ⟨ts, p, sd _ _ (hp as Qd Ed h) l0 F H _ (Stt.start b r) _ ⟨fun F' H' σ' ρ' g w S' q => ?_, fun F' H' v d g r q => ?_, fun F' H' σ' ρ' g w S' q => q.elim, fun F' H' σ' ρ' g w S' q => q.elim, fun cls d x F' H' σ' ρ' g w S' r q => ?_, fun F' H' σ' ρ' v d g w S' r q => q.elim⟩⟩
    · exact hq .non .non F' H' (g.go start_noOw) (.v _) q
    · exact hq v d F' H' (g.go start_noOw) r q
    · exact he cls d x F' H' (g.go start_noOw) r q
end DW

set_option Elab.async false
set_option linter.all false
set_option maxRecDepth 100000
namespace DW
open PySem PySem.Spec PyProof.Rows L2
def rCatL2 (K : PySem.W.Frag) : R2 := fun x y H Q => ∃ a b xs ys, x = .ref a ∧ y = .ref b ∧ SqL K H a xs ∧ SqL K H b ys ∧ xs.length + ys.length ≤ sizeLine ∧ ∀ p, H p = none → Q (.ref p) (upd H p (.lst (xs ++ ys)))
def rCatT2 (K : PySem.W.Frag) : R2 := fun x y H Q => ∃ a b xs ys, x = .ref a ∧ y = .ref b ∧ SqT K H a xs ∧ SqT K H b ys ∧ xs.length + ys.length ≤ sizeLine ∧
  (xs = [] → Q (.ref b) H) ∧ (xs ≠ [] → ys = [] → Q (.ref a) H) ∧ (xs ≠ [] → ys ≠ [] → ∀ p, H p = none → Q (.ref p) (upd H p (.tup (xs ++ ys))))
section
variable {X : Cx}
theorem op_catL2 : OpR X (binaryOp .Add) (rCatL2 X.K) := by
  intro pins s σ H x y v u Q I rx ry h
  obtain ⟨a, b, xs, ys, rfl, rfl, ha, hb, hz, q⟩ := h
  cases rx
  cases ry
  obtain ⟨its, r1, ⟨o1, n1, ho1, hc1, _, hd1⟩, z1⟩ := I.list ha
  obtain ⟨its2, r2, ⟨o2, n2, ho2, hc2, _, hd2⟩, z2⟩ := I.list hb
  obtain ⟨cls, dd, data, sl⟩ := o1
  obtain ⟨cls2, dd2, data2, sl2⟩ := o2
  simp only at hc1 hd1 hc2 hd2
  subst hc1 hd1 hc2 hd2
  have e : its.toArray ++ its2.toArray = (its ++ its2).toArray := by simp
  refine concat_meets ⟨_, ho1, rfl⟩ ⟨_, ho2, rfl⟩ noFill_list_add seq_list_add PySem.F.slot_list_add PySem.F.entry_list_add (PySem.F.args_list_add_2 _ _) (list_addW a b its.toArray its2.toArray n1 n2 dd dd2 sl sl2 (by rw [List.size_toArray, List.size_toArray, ← r1.length, ← r2.length]; exact hz)) ⟨ho1, ho2, ?_⟩
  rw [e]
  exact ⟨.ref _, _, I.lnew (t' := s.toks) (r1.append r2) (by rw [List.length_append]; exact hz), rfl, q _ I.fresh⟩
theorem op_catT2 : OpR X (binaryOp .Add) (rCatT2 X.K) := by
  intro pins s σ H x y v u Q I rx ry h
  obtain ⟨a, b, xs, ys, rfl, rfl, ha, hb, hz, q0, q1, q2⟩ := h
  cases rx
  cases ry
  by_cases hx : xs = []
  · obtain ⟨its, r1, ⟨o1, ho1, hc1, n1, hd1⟩, z1⟩ := I.tuple ha
    obtain ⟨its2, r2, ⟨o2, ho2, hc2, n2, hd2⟩, z2⟩ := I.tuple hb
    obtain ⟨cls, dd, data, sl⟩ := o1
    obtain ⟨cls2, dd2, data2, sl2⟩ := o2
    simp only at hc1 hd1 hc2 hd2
    subst hc1 hd1 hc2 hd2
    have e : its = [] := r1.nil_iff.mpr hx
    subst e
    exact concat_meets ⟨_, ho1, rfl⟩ ⟨_, ho2, rfl⟩ noFill_tuple_add seq_tuple_add PySem.F.slot_tuple_add PySem.F.entry_tuple_add (PySem.F.args_tuple_add_2 _ _)
      (tuple_addW0 a b #[] its2.toArray n1 n2 dd dd2 sl sl2 rfl) ⟨ho1, ho2, ⟨.ref b, H, I, rfl, q0 hx⟩⟩
  · exact op_catT pins s σ H (.ref a) (.ref b) (.ref a) (.ref b) Q I rfl rfl ⟨a, b, xs, ys, rfl, rfl, ha, hb, hx, hz, q1 hx, q2 hx⟩
end
def rAddA (K : PySem.W.Frag) : R2 := fun x y H Q => rI0 (fun i j => .int (i + j)) x y H Q ∨ rCatL2 K x y H Q ∨ rCatT2 K x y H Q ∨ ∃ i j, x = .str i ∧ y = .str j ∧ i.length + j.length ≤ sizeLine ∧ Q (.str (i ++ j)) H
theorem op_addA {X : Cx} : OpR X (binaryOp .Add) (rAddA X.K) := OpR.or op_add (OpR.or op_catL2 (OpR.or op_catT2 op_add_str))
def dAdd : D2
  | .dat (.v (.int i)), .dat (.v (.int j)), Q => Q (.dat (.v (.int (i + j))))
  | .dat (.lst a), .dat (.lst b), Q => a.length + b.length ≤ 100000 ∧ Q (.dat (.lst (a ++ b)))
  | .dat (.tup a), .dat (.tup b), Q => a.length + b.length ≤ 100000 ∧ Q (.dat (.tup (a ++ b)))
  | .dat (.v (.str x)), .dat (.v (.str y)), Q => x.length + y.length ≤ 100000 ∧ Q (.dat (.v (.str (x ++ y))))
  | _, _, _ => False
theorem sr_add {K : PySem.W.Frag} : SndR K (rAddA K) dAdd := fun x y s t Q h l0 F H b r1 r2 Qc k => by
  unfold dAdd at h
  split at h
  · cases r1
    cases r2
    exact .inl ⟨_, _, rfl, rfl, k.here b h⟩
  · obtain ⟨z, q⟩ := h
    obtain ⟨a1, xs, e1, z1, z2⟩ := r1.list b (.inl rfl)
    obtain ⟨a2, ys, e2, w1, w2⟩ := r2.list b (.inl rfl)
    subst e1 e2
    refine .inr (.inl ⟨a1, a2, xs, ys, rfl, rfl, z1, w1, by rw [z2.length, w2.length]; exact Evl.sz_of z, fun p hp => ?_⟩)
    have g := Go.fresh (p := p) b (.lst (xs ++ ys)) hp
    exact k (.ref p) (.dat (.lst _)) _ _ g (Den.lst (SqL.of upd_same) (Dens.mono g.ex (z2.append w2))) q
  · obtain ⟨z, q⟩ := h
    obtain ⟨a1, xs, e1, z1, z2⟩ := r1.tuple b
    obtain ⟨a2, ys, e2, w1, w2⟩ := r2.tuple b
    subst e1 e2
    refine .inr (.inr (.inl ⟨a1, a2, xs, ys, rfl, rfl, z1, w1, by rw [z2.length, w2.length]; exact Evl.sz_of z, fun e => ?_, fun _ e => ?_, fun _ _ p hp => ?_⟩))
    · subst e
      cases z2
      exact k (.ref a2) (.dat (.tup _)) _ _ (.refl b) r2 q
    · subst e
      cases w2
      rw [List.append_nil] at q
      exact k (.ref a1) (.dat (.tup _)) _ _ (.refl b) r1 q
    · have g := Go.fresh (p := p) b (.tup (xs ++ ys)) hp
      exact k (.ref p) (.dat (.tup _)) _ _ g (Den.tup (SqT.of upd_same) (Dens.mono g.ex (z2.append w2))) q
  · cases r1
    cases r2
    exact .inr (.inr (.inr ⟨_, _, rfl, rfl, Evl.sz_of h.1, k.here b h.2⟩))
  · exact h.elim
mutual
def toPy : Dt → Option PyData
  | .v .non => some .none
  | .v (.bl b) => some (.bool b)
  | .v (.int i) => some (.int i)
  | .v (.str x) => some (.str x)
  | .lst ds => (toPys ds).map .list
  | .tup ds => (toPys ds).map .tuple
  | _ => none
def toPys : List Dt → Option (List PyData)
  | [] => some []
  | d :: ds => match toPy d, toPys ds with
    | some x, some xs => some (x :: xs)
    | _, _ => none
end
def pyS : Sl → Option PyData
  | .dat d => toPy d
  | .own ds => toPy (.lst ds)
  | _ => none
section
variable {K : PySem.W.Frag} {l0 : Addr} {F H : Hp}
mutual
theorem den_py (b : Same F H) : ∀ {v : V} {d : Dt} {e : PyData}, Den K l0 F v d → toPy d = some e → Dp K H v e
  | _, _, e, .v x, h => by
    cases x <;> simp only [toPy, Option.some.injEq, reduceCtorEq] at h
    all_goals (subst h; constructor)
  | _, _, e, .lst (ds := ds) s r, h => by
    simp only [toPy, Option.map_eq_some_iff] at h
    obtain ⟨es, h1, h2⟩ := h
    subst h2
    exact .lst (b.seq s) (dens_py b r h1)
  | _, _, e, .tup (ds := ds) s r, h => by
    simp only [toPy, Option.map_eq_some_iff] at h
    obtain ⟨es, h1, h2⟩ := h
    subst h2
    exact .tup (sameT b s) (dens_py b r h1)
  | _, _, e, .obj _ _, h => by simp only [toPy, reduceCtorEq] at h
  | _, _, e, .slt _ _ _ _, h => by simp only [toPy, reduceCtorEq] at h
  | _, _, e, .exc _ _, h => by simp only [toPy, reduceCtorEq] at h
  | _, _, e, .exc0, h => by simp only [toPy, reduceCtorEq] at h
  | _, _, e, .dct _ _, h => by simp only [toPy, reduceCtorEq] at h
  | _, _, e, .drw, h => by simp only [toPy, reduceCtorEq] at h
theorem dens_py (b : Same F H) : ∀ {v : List V} {d : List Dt} {e : List PyData}, Dens K l0 F v d → toPys d = some e → DpAll K H v e
  | _, _, e, .nil, h => by
    simp only [toPys, Option.some.injEq] at h
    subst h
    exact .nil
  | _, _, e, .cons (d := d) (ds := ds) r t, h => by
    simp only [toPys] at h
    cases e1 : toPy d with
    | none => rw [e1] at h; cases h
    | some x =>
      cases e2 : toPys ds with
      | none => rw [e1, e2] at h; cases h
      | some xs =>
        rw [e1, e2] at h
        cases h
        exact .cons (den_py b r e1) (dens_py b t e2)
end
theorem sl_py (b : Base l0 F H) {v : V} {s : Sl} {e : PyData} (r : SlV K l0 F H v s) (h : pyS s = some e) : Dp K H v e := by
  cases s with
  | emp => exact r.elim
  | dat d => exact den_py b.sub r h
  | own ds =>
    obtain ⟨l, xs, e1, _, _, hl, r2⟩ := r
    subst e1
    have h : toPy (.lst ds) = some e := h
    simp only [toPy, Option.map_eq_some_iff] at h
    obtain ⟨es, h1, h2⟩ := h
    subst h2
    exact .lst (SqL.of hl) (dens_py b.sub r2 h1)
  | oob p0 C fs => cases h
  | odc kvs => cases h
  | tre t => cases h
end
def dEq : D2 := fun x y Q => ∃ d e, pyS x = some d ∧ pyS y = some e ∧ SeqAt.shaped d = true ∧ SeqAt.shaped e = true ∧ Q (.dat (.v (.bl (PyData.eqv d e))))
def dNe : D2 := fun x y Q => ∃ d e, pyS x = some d ∧ pyS y = some e ∧ SeqAt.shaped d = true ∧ SeqAt.shaped e = true ∧ Q (.dat (.v (.bl (!PyData.eqv d e))))
theorem sr_eq {K : PySem.W.Frag} : SndR K (rEqD K) dEq := fun x y s t Q h l0 F H b r1 r2 Qc k => by
  obtain ⟨d, e, h1, h2, h3, h4, q⟩ := h
  exact ⟨d, e, sl_py b r1 h1, sl_py b r2 h2, h3, h4, k.here b q⟩
theorem sr_ne {K : PySem.W.Frag} : SndR K (rNeD K) dNe := fun x y s t Q h l0 F H b r1 r2 Qc k => by
  obtain ⟨d, e, h1, h2, h3, h4, q⟩ := h
  exact ⟨d, e, sl_py b r1 h1, sl_py b r2 h2, h3, h4, k.here b q⟩
def isNon : Sl → Option Bool
  | .dat (.v .non) => some true
  | .dat (.v _) => some false
  | .dat (.lst _) => some false
  | .dat (.tup _) => some false
  | .dat (.obj _ _) => some false
  | .dat (.slt _ _) => some false
  | .dat (.dct _) => some false
  | .own _ => some false
  | _ => none
def dIsN : D2 := fun x y Q => y = .dat (.v .non) ∧ ∃ b, isNon x = some b ∧ Q (.dat (.v (.bl b)))
def dNotN : D2 := fun x y Q => y = .dat (.v .non) ∧ ∃ b, isNon x = some b ∧ Q (.dat (.v (.bl (!b))))
theorem isNon_ok {K : PySem.W.Frag} {l0 : Addr} {F H : Hp} {x : V} {s : Sl} {b : Bool} (r : SlV K l0 F H x s) (h : isNon s = some b) : decide (x = .non) = b := by
  unfold isNon at h
  split at h
  · cases h; cases r; rfl
  · rename_i y ne
    cases h
    cases r
    exact decide_eq_false fun z => ne z
  · cases h; cases r; rfl
  · cases h; cases r; rfl
  · cases h; cases r; rfl
  · cases h; cases r; rfl
  · cases h; cases r; rfl
  · cases h
    obtain ⟨l, xs, e, _⟩ := r
    subst e
    rfl
  · cases h
theorem sr_isN {K : PySem.W.Frag} : SndR K (fun x y H Q => y = .non ∧ Q (.bl (decide (x = .non))) H) dIsN := fun x y s t Q h l0 F H b r1 r2 Qc k => by
  obtain ⟨e, c, h1, q⟩ := h
  subst e
  cases r2
  refine ⟨rfl, ?_⟩
  rw [isNon_ok r1 h1]
  exact k.here b q
theorem sr_notN {K : PySem.W.Frag} : SndR K (fun x y H Q => y = .non ∧ Q (.bl (!decide (x = .non))) H) dNotN := fun x y s t Q h l0 F H b r1 r2 Qc k => by
  obtain ⟨e, c, h1, q⟩ := h
  subst e
  cases r2
  refine ⟨rfl, ?_⟩
  rw [isNon_ok r1 h1]
  exact k.here b q
def vOf : List Dt → Option (List V)
  | [] => some []
  | .v x :: r => (vOf r).map (x :: ·)
  | _ :: _ => none
def seqOf : Sl → Option (List V)
  | .dat (.lst ds) => vOf ds
  | .dat (.tup ds) => vOf ds
  | .own ds => vOf ds
  | _ => none
theorem vOf_ok {K : PySem.W.Frag} {l0 : Addr} {F : Hp} : ∀ {xs : List V} {ds : List Dt} {ys : List V}, Dens K l0 F xs ds → vOf ds = some ys → xs = ys
  | [], [], _, .nil, h => by cases h; rfl
  | x :: xs, .v y :: ds, ys, .cons r t, h => by
    have h : (vOf ds).map (y :: ·) = some ys := h
    cases q : vOf ds with
    | none => rw [q] at h; cases h
    | some zs =>
      rw [q] at h
      cases h
      cases r
      rw [vOf_ok t q]
  | _ :: _, .lst _ :: _, _, .cons _ _, h => by cases h
  | _ :: _, .tup _ :: _, _, .cons _ _, h => by cases h
  | _ :: _, .obj _ _ :: _, _, .cons _ _, h => by cases h
  | _ :: _, .slt _ _ :: _, _, .cons _ _, h => by cases h
  | _ :: _, .exc _ _ _ _ :: _, _, .cons _ _, h => by cases h
  | _ :: _, .dct _ :: _, _, .cons _ _, h => by cases h
  | _ :: _, .drw :: _, _, .cons _ _, h => by cases h
theorem seqOf_ok {K : PySem.W.Frag} {l0 : Addr} {F H : Hp} {v : V} {s : Sl} {xs : List V} (b : Base l0 F H) (r : SlV K l0 F H v s) (h : seqOf s = some xs) : ∃ p, v = .ref p ∧ (SqL K H p xs ∨ SqT K H p xs) := by
  unfold seqOf at h
  split at h
  · obtain ⟨a, ys, e, h1, h2⟩ := r.list b (.inl rfl)
    rw [vOf_ok h2 h] at h1
    exact ⟨a, e, .inl h1⟩
  · obtain ⟨a, ys, e, h1, h2⟩ := r.tuple b
    rw [vOf_ok h2 h] at h1
    exact ⟨a, e, .inr h1⟩
  · obtain ⟨a, ys, e, h1, h2⟩ := r.list b (.inr rfl)
    rw [vOf_ok h2 h] at h1
    exact ⟨a, e, .inl h1⟩
  · cases h
def dInG (neg : Bool) : D2 := fun x y Q => ∃ z xs, x = .dat (.v z) ∧ seqOf y = some xs ∧ flatV z = true ∧ xs.all flatV = true ∧ Q (.dat (.v (.bl (if neg then !inV z xs else inV z xs))))
abbrev dIn : D2 := dInG false
abbrev dNotIn : D2 := dInG true
theorem sr_inG {K : PySem.W.Frag} {neg : Bool} : SndR K (rIn K neg) (dInG neg) := fun x y s t Q h l0 F H b r1 r2 Qc k => by
  obtain ⟨z, xs, e, h1, h2, h3, q⟩ := h
  subst e
  cases r1
  obtain ⟨p, e, h4⟩ := seqOf_ok b r2 h1
  exact ⟨p, xs, e, h4, h2, h3, k.here b q⟩
theorem sr_in {K : PySem.W.Frag} : SndR K (rIn K false) dIn := sr_inG
theorem sr_notIn {K : PySem.W.Frag} : SndR K (rIn K true) dNotIn := sr_inG
def dListOf : DCl
  | [.dat (.lst ds)], Q => Q (.dat (.lst ds))
  | [.dat (.tup ds)], Q => Q (.dat (.lst ds))
  | [.own ds], Q => Q (.dat (.lst ds))
  | _, _ => False
def dTupleOf : DCl
  | [.dat (.lst ds)], Q => Q (.dat (.tup ds))
  | [.dat (.tup ds)], Q => Q (.dat (.tup ds))
  | [.own ds], Q => Q (.dat (.tup ds))
  | _, _ => False
theorem sc_list {K : PySem.W.Frag} : SndC K (fun xs H Q => ∃ p ys, xs = [.ref p] ∧ (SqL K H p ys ∨ SqT K H p ys) ∧ ∀ l, H l = none → Q (.ref l) (upd H l (.lst ys))) dListOf := fun vs ss Q h l0 F H b r Qc k => by
  have fin : ∀ {ys : List V} {ds : List Dt}, Dens K l0 F ys ds → Q (.dat (.lst ds)) → ∀ l, H l = none → Qc (.ref l) (upd H l (.lst ys)) := fun {ys ds} r q l hl => by
    have g := Go.fresh (p := l) b (.lst ys) hl
    exact k (.ref l) (.dat (.lst ds)) _ _ g (Den.lst (SqL.of upd_same) (Dens.mono g.ex r)) q
  unfold dListOf at h
  split at h
  · obtain ⟨⟩ | ⟨r1, ⟨⟩⟩ := r
    obtain ⟨a, xs, e, z1, z2⟩ := r1.list b (.inl rfl)
    subst e
    exact ⟨a, xs, rfl, .inl z1, fin z2 h⟩
  · obtain ⟨⟩ | ⟨r1, ⟨⟩⟩ := r
    obtain ⟨a, xs, e, z1, z2⟩ := r1.tuple b
    subst e
    exact ⟨a, xs, rfl, .inr z1, fin z2 h⟩
  · obtain ⟨⟩ | ⟨r1, ⟨⟩⟩ := r
    obtain ⟨a, xs, e, z1, z2⟩ := r1.list b (.inr rfl)
    subst e
    exact ⟨a, xs, rfl, .inl z1, fin z2 h⟩
  · exact h.elim
theorem call_listS {X : Cx} : CallR X (.type "list") (fun xs H Q => ∃ p ys, xs = [.ref p] ∧ (SqL X.K H p ys ∨ SqT X.K H p ys) ∧ ∀ l, H l = none → Q (.ref l) (upd H l (.lst ys))) := call_list_of
theorem call_tupleS {X : Cx} : CallR X (.type "tuple") (fun xs H Q => ∃ p ys, xs = [.ref p] ∧ ((SqL X.K H p ys ∧ ∀ l, H l = none → Q (.ref l) (upd H l (.tup ys))) ∨ (SqT X.K H p ys ∧ Q (.ref p) H))) := call_tuple_of
theorem sc_tuple {K : PySem.W.Frag} : SndC K (fun xs H Q => ∃ p ys, xs = [.ref p] ∧ ((SqL K H p ys ∧ ∀ l, H l = none → Q (.ref l) (upd H l (.tup ys))) ∨ (SqT K H p ys ∧ Q (.ref p) H))) dTupleOf := fun vs ss Q h l0 F H b r Qc k => by
  have fin : ∀ {ys : List V} {ds : List Dt}, Dens K l0 F ys ds → Q (.dat (.tup ds)) → ∀ l, H l = none → Qc (.ref l) (upd H l (.tup ys)) := fun {ys ds} r q l hl => by
    have g := Go.fresh (p := l) b (.tup ys) hl
    exact k (.ref l) (.dat (.tup ds)) _ _ g (Den.tup (SqT.of upd_same) (Dens.mono g.ex r)) q
  unfold dTupleOf at h
  split at h
  · obtain ⟨⟩ | ⟨r1, ⟨⟩⟩ := r
    obtain ⟨a, xs, e, z1, z2⟩ := r1.list b (.inl rfl)
    subst e
    exact ⟨a, xs, rfl, .inl ⟨z1, fin z2 h⟩⟩
  · obtain ⟨⟩ | ⟨r1, ⟨⟩⟩ := r
    obtain ⟨a, xs, e, z1, z2⟩ := r1.tuple b
    subst e
    exact ⟨a, xs, rfl, .inr ⟨z1, k (.ref a) (.dat (.tup _)) _ _ (.refl b) r1 h⟩⟩
  · obtain ⟨⟩ | ⟨r1, ⟨⟩⟩ := r
    obtain ⟨a, xs, e, z1, z2⟩ := r1.list b (.inr rfl)
    subst e
    exact ⟨a, xs, rfl, .inl ⟨z1, fin z2 h⟩⟩
  · exact h.elim
section
variable {X : Cx} {W : WX} {a b c e tg : Expr} {xa xb xc xe : TE} {ya yb : TT} {va vb : TS} {da db dc de : DE} {pos : Pos} {ta tb : DTt} {st : Stmt} {rest : List Stmt} {t u : DS}
theorem de_add (ha : DEX X W a xa da) (hb : DEX X W b xb db) : DEX X W (.BinOp a .Add b pos) (tOp (rAddA X.K) xa xb) (dOp dAdd da db) := de_op op_addA sr_add ha hb
theorem op_eqA (hu : X.A.units + 64 < cLine) : OpR X (compareOp .Eq) (rEqD X.K) := op_eqD hu
theorem op_neA (hu : X.A.units + 64 < cLine) : OpR X (compareOp .NotEq) (rNeD X.K) := op_neD hu
theorem de_globI {x : Str} {i : Int} (hg : Gl X x) (hm : ∃ t, X.mg x = some (.int i t)) (hd : (x == ("__debug__" : Str)) = false := by decide) : DEX X W (.Name x pos) (tC (.int i)) (dC (.int i)) := by
  obtain ⟨t, hm⟩ := hm
  exact de_glob hg hm ⟨t, rfl⟩ hd
theorem dw_and1 (h : DTX X W a ya ta) : DWX X W (.BoolOp .And [a] pos) ya ta := ⟨pw_and1 h.1, h.2⟩
theorem dw_or1 (h : DTX X W a ya ta) : DWX X W (.BoolOp .Or [a] pos) ya ta := ⟨pw_or1 h.1, h.2⟩
theorem dw_and {r : List Expr} (h : DTX X W a ya ta) (k : DWX X W (.BoolOp .And (b :: r) pos) yb tb) : DWX X W (.BoolOp .And (a :: b :: r) pos) (tAnd ya yb) (dAnd ta tb) := ⟨pw_and h.1 k.1, snd_and h.2 k.2⟩
theorem dw_or {r : List Expr} (h : DTX X W a ya ta) (k : DWX X W (.BoolOp .Or (b :: r) pos) yb tb) : DWX X W (.BoolOp .Or (a :: b :: r) pos) (tOr ya yb) (dOr ta tb) := ⟨pw_or h.1 k.1, snd_or h.2 k.2⟩
theorem de_oneA (h : DEX X W a xa da) : DEX X W (.BoolOp .And [a] pos) xa da := ⟨pe_one h.1, h.2⟩
theorem de_oneO (h : DEX X W a xa da) : DEX X W (.BoolOp .Or [a] pos) xa da := ⟨pe_one h.1, h.2⟩
theorem de_and {r : List Expr} (h : DEX X W a xa da) (k : DEX X W (.BoolOp .And (b :: r) pos) xb db) : DEX X W (.BoolOp .And (a :: b :: r) pos) (tAndV xa xb) (dAndV da db) := by
  refine ⟨pe_and h.1 k.1, fun ρ Q E q l0 F H σ S Qc kk kx => ?_⟩
  refine h.2 ρ _ E q l0 F H σ S _ (fun x s F1 H1 g1 r1 q1 => ?_) kx
  obtain ⟨c, e, q⟩ := blS_of q1
  subst e
  cases r1
  refine ⟨c, rfl, ?_⟩
  cases c with
  | true =>
    rw [if_pos rfl] at q ⊢
    exact k.2 ρ Q E q l0 F1 H1 σ (S.go g1) Qc (kk.go g1) (kx.go g1)
  | false =>
    rw [if_neg Bool.false_ne_true] at q ⊢
    exact (kk.go g1).here g1.bs q
theorem de_or {r : List Expr} (h : DEX X W a xa da) (k : DEX X W (.BoolOp .Or (b :: r) pos) xb db) : DEX X W (.BoolOp .Or (a :: b :: r) pos) (tOrV xa xb) (dOrV da db) := by
  refine ⟨pe_or h.1 k.1, fun ρ Q E q l0 F H σ S Qc kk kx => ?_⟩
  refine h.2 ρ _ E q l0 F H σ S _ (fun x s F1 H1 g1 r1 q1 => ?_) kx
  obtain ⟨c, e, q⟩ := blS_of q1
  subst e
  cases r1
  refine ⟨c, rfl, ?_⟩
  cases c with
  | true =>
    rw [if_pos rfl] at q ⊢
    exact (kk.go g1).here g1.bs q
  | false =>
    rw [if_neg Bool.false_ne_true] at q ⊢
    exact k.2 ρ Q E q l0 F1 H1 σ (S.go g1) Qc (kk.go g1) (kx.go g1)
theorem de_orT {r : List Expr} (h : DEX X W a xa da) (k : DEX X W (.BoolOp .Or (b :: r) pos) xb db) : DEX X W (.BoolOp .Or (a :: b :: r) pos) (tOrT X.K xa xb) (dOrT da db) := by
  refine ⟨pe_orT h.1 k.1, fun ρ Q E q l0 F H σ S Qc kk kx => ?_⟩
  refine h.2 ρ _ E q l0 F H σ S _ (fun x s F1 H1 g1 r1 q1 => ?_) kx
  obtain ⟨c, t, q⟩ := truS_of g1.bs q1 r1
  refine ⟨c, t, ?_⟩
  cases c with
  | true =>
    rw [if_pos rfl] at q ⊢
    exact kk x s F1 H1 g1 r1 q
  | false =>
    rw [if_neg Bool.false_ne_true] at q ⊢
    exact k.2 ρ Q E q l0 F1 H1 σ (S.go g1) Qc (kk.go g1) (kx.go g1)
def dPar (i j : Nat) (a : DA) : DS := fun D ρ => a ρ (fun ss => match ss with
  | [.dat d, .dat e] => D.nx ((ρ.set i (.dat d)).set j (.dat e))
  | _ => False) fun x => D.ex x ρ
def Fnk (P : Program) (w : World) (K : PySem.W.Frag) (mg : Str → Option Value) (base : Heap) (x : Str) (k : Nat) (ps : List Str) (dvs : List V) (dd : List Dt) (sd : Sd) : Prop :=
  ∃ f fd ds, mg x = some (.ref f) ∧ PySem.W.keepIn K (.ref f) = true ∧ Binds K fd ps ds ∧ Vals dvs ds ∧ (∀ l0 F, Dens K l0 F dvs dd) ∧ FnOk P w K mg base (L2.CX P w) k f fd ps (spOf K sd)
theorem de_callF {k : Nat} {ps : List Str} {sd : Sd} {dvs : List V} {dd : List Dt} {x : Str} {p : Pos} {es : List Expr} {zr : TA} {dr : DA} (C : Fnk X.prog X.w X.K X.mg X.base x k ps dvs dd sd) (tk : Takes X W) (hr : Room k X.A) (hg : Gl X x)
    (ha : DAX X W (e :: es) zr dr) (hdb : (x == ("__debug__" : Str)) = false := by decide)
    (he : starEach (e :: es) X.env = (false, eval e X.env) :: starEach es X.env := by rfl) (hpl : (backTo pos (starEach es X.env)).any (·.1) = false := by rfl) :
    DEX X W (.Call (.Name x p) (e :: es) [] pos) (tCallSD (spOf X.K sd) dvs (WE W) zr) (dCall sd dd dr) := by
  obtain ⟨f, fd, ds, h1, h2, h3, h4, h5, F⟩ := C
  exact de_call F tk hr hg h1 h2 h3 h4 h5 ha hdb he hpl
end
def DefAt (K : PySem.W.Frag) (mg : Str → Option Value) (x : Str) (st : Stmt) : Prop := ∃ f fd, mg x = some (.ref f) ∧ FunD K x x (defArgs st) (defBody st) (defScope st) [] [] f fd
theorem fnk_of {P : Program} {w : World} {K : PySem.W.Frag} {mg : Str → Option Value} {base : Heap} {x : Str} {st : Stmt} {N ps : List Str} {k : Nat} {sd : Sd} {ds : DS} (D : DefAt K mg x st) (S : FnScope N ps (defScope st)) (len : ∀ as Q E, sd as Q E → as.length = ps.length)
    (hbd : ∀ (dV kV doc pm : Value) (an : Option Addr) (cdv ct : Value) (us : List Value), us.length = ps.length → bindArgs (PySem.W.fnOf x x (defArgs st) (defBody st) (defScope st) .none kV doc pm an cdv ct) ⟨us, []⟩ = pure (ps.zip us))
    (hb : ∀ (f : Addr) (cdv : Value) (A : Around) (outer : List Env) (s : Shared) (H : Hp) (E : XK), Room k (A.deeper (envOfC x (defScope st) s.heap.objs.size f cdv)) →
      ∃ ts, DSSX (cxOf (L2.CX P w) P w K mg base N x (defScope st) f cdv A outer s H E) (fun cls d _ H => E cls d H) (defBody st) ts ds)
    (hp : ∀ as Q E, sd as Q E → ds (dEnds Q E) (startD N.length as)) : Fnk P w K mg base x (k + 1) ps [] [] sd := by
  obtain ⟨f, fd, h1, F⟩ := D
  exact ⟨f, fd, [], h1, F.kp, FunD.bindsN F (fun kV doc pm an cdv ct us hl => hbd .none kV doc pm an cdv ct us hl), .nil, dd_nil, fn_d F S len (hb f) hp⟩
end DW

set_option Elab.async false
set_option linter.all false
set_option maxRecDepth 100000
namespace DW
open PySem PySem.Spec PyProof.Rows L2
def sd__law_next : Sd := fun as Q _ => ∃ many : Int, as = [.drw, .v (.int many)] ∧ 0 < many ∧ ∀ r : Int, 0 ≤ r → r < many → Q (.v (.int r))
def spDraws (K : PySem.W.Frag) : Sp := fun vs H Q _ => ∃ (a : Addr) (ns : List Int), vs = [.ref a] ∧ SqL K H a (ns.map V.int) ∧
  ∀ (l : Addr) (ms : List Int) (H' : Hp), H l = none → Same H H' → H' l = some (.lst (ms.map V.int)) → (∀ m ∈ ms, 0 ≤ m) → ms.length ≤ 100000 → Q (.ref l) H'
def t_next (K : PySem.W.Frag) : TS := tSeq (tIfS (tTest (tOp (rEqD K) (tVar 0) (tLst tNil))) (tRet (tC (.int 0))) tNext)
  (tRet (tOp (rI (fun _ j => 0 < j) fun i j => .int (i % j)) (tCB (fun xs H Q => (∃ i, xs = [.int i] ∧ Q (.int i) H) ∨ ∃ k, xs = [.bl k] ∧ Q (.int (if k then 1 else 0)) H) (tCons (tBM K "list" rPopAt (tVar 0) (tCons (tC (.int 0)) tNil)) tNil)) (tVar 1)))
theorem eqv_nil : ∀ ns : List Int, PyData.eqv (.list (ns.map PyData.int)) (.list []) = ns.isEmpty
  | [] => by simp [PyData.eqv, PyData.eqvAll]
  | n :: ns => by simp [PyData.eqv, PyData.eqvAll]
theorem dp_ints {K : PySem.W.Frag} {H : Hp} : ∀ ns : List Int, DpAll K H (ns.map V.int) (ns.map PyData.int)
  | [] => .nil
  | n :: ns => .cons (.int n) (dp_ints ns)
theorem lay_ints : ∀ ns : List Int, PyData.canLayAll0 (ns.map PyData.int) = true
  | [] => rfl
  | n :: ns => by
    have := lay_ints ns
    simp [PyData.canLayAll0, PyData.canLay0, this]
theorem depth_ints : ∀ ns : List Int, PyData.depthAll (ns.map PyData.int) = 0
  | [] => rfl
  | n :: ns => by
    have := depth_ints ns
    simp [PyData.depthAll, PyData.depth, this]
theorem shaped_ints (ns : List Int) : SeqAt.shaped (.list (ns.map PyData.int)) = true := by
  unfold SeqAt.shaped
  simp [PyData.canLay0, PyData.depth, lay_ints, depth_ints]
theorem pure_next {K : PySem.W.Frag} (vs : List V) (H : Hp) (Q : VK) (E : XK) (h : spOf K sd__law_next vs H Q E) : t_next K { nx := fun _ H' => Q .non H', rt := Q } (start ["_law_draws_here", "_law_many"] vs) H := by
  obtain ⟨l0, F, ds, Qd, Ed, b, r, ⟨many, rfl, hm, hq⟩, k, _⟩ := h
  obtain ⟨⟩ | ⟨r1, ⟨⟩ | ⟨r2, ⟨⟩⟩⟩ := r
  cases r1
  cases r2
  obtain ⟨ns, h1, h2, h3⟩ := b.dr
  refine ⟨_, rfl, Nat.zero_le _, fun p hp => ?_⟩
  have np : l0 ≠ p := ne_of_none h1 hp
  have g1 := Go.loose (p := p) b (.lst []) hp
  refine ⟨_, _, .lst (SqL.of (by rw [upd_ne np]; exact h1)) (dp_ints ns), .lst (SqL.of upd_same) .nil, shaped_ints ns, rfl, _, rfl, ?_⟩
  rw [eqv_nil]
  cases ns with
  | nil =>
    refine iteT ?_
    exact k (.int 0) (.v (.int 0)) F _ g1 (.v _) (hq 0 (Int.le_refl 0) hm)
  | cons n ms =>
    refine iteF ?_
    refine ⟨_, rfl, .inl ⟨rfl, _, SqL.of (by rw [upd_ne np]; exact h1)⟩, l0, _, 0, 0, .int n, rfl, rfl, by rw [upd_ne np]; exact h1, by decide, by decide, ?_, rfl, ?_⟩
    · unfold seqIndex?
      simp
    · refine .inl ⟨n, rfl, _, rfl, n, many, rfl, rfl, hm, ?_⟩
      refine k (.int (n % many)) (.v (.int (n % many))) F _ ⟨⟨fun a o e => ?_, b.nf, ms, upd_same, fun m hm => h2 m (List.mem_cons_of_mem _ hm), by rw [List.length_cons] at h3; omega⟩, fun _ _ e => e, fun a e1 e2 => absurd e1 e2, fun a o n0 e => ?_⟩ (.v _) (hq _ (Int.emod_nonneg _ (by omega)) (Int.emod_lt_of_pos _ hm))
      · have na : a ≠ l0 := fun e' => by
          rw [e', b.nf] at e
          cases e
        rw [upd_ne na]
        exact g1.bs.sub a o e
      · rw [upd_ne n0]
        exact g1.keep a o n0 e

structure Drs (H H' : Hp) (a l : Addr) (ns : List Int) (σ : L2.St) (m : Nat) : Prop where
  len : σ.length = 6
  s0 : σ[0]? = some (some (.ref a))
  s1 : σ[1]? = some (some (.ref l))
  new : H l = none
  same : Same H H'
  at_ : ∃ ms : List Int, H' l = some (.lst (ms.map V.int)) ∧ (∀ x ∈ ms, 0 ≤ x) ∧ ms.length ≤ m
theorem Drs.mono {H H' : Hp} {a l : Addr} {ns : List Int} {σ : L2.St} {m m' : Nat} (d : Drs H H' a l ns σ m) (h : m ≤ m') : Drs H H' a l ns σ m' := by
  obtain ⟨ms, h1, h2, h3⟩ := d.at_
  exact ⟨d.len, d.s0, d.s1, d.new, d.same, ms, h1, h2, Nat.le_trans h3 h⟩
theorem Drs.set {H H' : Hp} {a l : Addr} {ns : List Int} {σ : L2.St} {m : Nat} (d : Drs H H' a l ns σ m) (i : Nat) (x : Option V) (h0 : i ≠ 0 := by decide) (h1 : i ≠ 1 := by decide) : Drs H H' a l ns (σ.set i x) m :=
  ⟨by rw [List.length_set]; exact d.len, by rw [List.getElem?_set_ne h0]; exact d.s0, by rw [List.getElem?_set_ne h1]; exact d.s1, d.new, d.same, d.at_⟩
theorem Drs.get {H H' : Hp} {a l : Addr} {ns : List Int} {σ : L2.St} {m : Nat} (d : Drs H H' a l ns σ m) (i : Nat) {x : Option V} (h : i < 6 := by decide) : (σ.set i x)[i]? = some x := List.getElem?_set_self (by rw [d.len]; exact h)
theorem Drs.app {H H' : Hp} {a l : Addr} {ns : List Int} {σ : L2.St} {m : Nat} (d : Drs H H' a l ns σ m) {z : Int} (hz : 0 ≤ z) {ms : List Int} (h1 : H' l = some (.lst (ms.map V.int))) (h2 : ∀ x ∈ ms, 0 ≤ x) (h3 : ms.length ≤ m) :
    Drs H (upd H' l (.lst (ms.map V.int ++ [.int z]))) a l ns σ (m + 1) := by
  refine ⟨d.len, d.s0, d.s1, d.new, fun b o e => ?_, ms ++ [z], ?_, fun x hx => ?_, ?_⟩
  · rw [upd_ne (ne_of_none e d.new)]
    exact d.same b o e
  · rw [upd_same, List.map_append]
    rfl
  · rcases List.mem_append.mp hx with h | h
    · exact h2 x h
    · rw [List.mem_singleton.mp h]
      exact hz
  · rw [List.length_append, List.length_singleton]
    omega

def spLaw (K : PySem.W.Frag) : Sp := fun vs H Q _ => ∃ (a : Addr) (ns : List Int), vs = [.ref a] ∧ SqL K H a (ns.map V.int) ∧ ns.length ≤ 63 ∧ ∀ H', Q (.bl true) H'
def lawEn (n : Nat) (ns : List Int) : En := (startD n [.lst (ns.map Dt.int)]).set 1 (.dat .drw)
def isTrue : Dt → Prop := fun d => d = .v (.bl true)
theorem hook_ok {l : PySem.W.OpenLaw} {n k : Nat} {q : Program} {loose : List Str} {XP : (Str → Option Value) → Heap → Prop} {YP : World → Heap → Prop} {d : DefRec} {x : Str}
    (hn : l.most = some n) (hn2 : n ≤ sizeLine) (hdf : d.params.defaults = []) (hr : Room k callerA)
    (F : ∀ (w : World) (mg : Str → Option Value) (fa : Addr) (h : Heap), YP w h → h.Ns mainGlobals mg → mg d.name = some (.ref fa) →
      ∃ (K : PySem.W.Frag) (fd : FuncData) (sp : Sp), K.In h ∧ (∀ (s : Shared) (u : Value), BindsTo s fd ⟨[u], []⟩ [(x, u)]) ∧
        (∀ (H : Hp) (a : Addr) (ns : List Int), ns.length ≤ n → Only H → SqL K H a (ns.map V.int) → sp [.ref a] H (fun v _ => v = .bl true) fun _ _ _ => False) ∧
        ∀ base : Heap, K.In base → base.Ns mainGlobals mg → FnOk l.prog w K mg base (L2.CX l.prog w) k fa fd [x] sp) :
    PySem.W.WalkO q loose XP YP l.row.toRowW d [] (fun f vs => PySem.call f vs) := by
  refine Att.attach_call hn hdf fun w s₀ s₁ mg mb fa o pm cd doc a vs ns G Y ho hd hcd hmg hobj hints hlen hg => ?_
  obtain ⟨K, fd, sp, KX, hb, hsp, hF⟩ := F w mg fa _ Y G.T.g hmg
  exact law_call KX G.T.g G.T.b G.T.builtins G.T.nolimit hg hobj hints (Nat.le_trans hlen hn2) hr hF hb (fun H hO hS => hsp H a ns hlen hO hS) fun H e s' h => by
    obtain ⟨_, _, _, _, _, _, _, _, _, _, _, _, z⟩ := h
    exact z.elim
theorem defAt_of {K : PySem.W.Frag} {h : Heap} {mg : Str → Option Value} {fa : List He.Fa} {fn : List He.DefD} {x : Str} {st : Stmt} (X : K.In h) (G : h.Ns mainGlobals mg) (c : He.SaysD fa fn K) (i j : Nat)
    (h1 : fn[i]? = some ⟨(x, none), x, x, defArgs st, defBody st, defScope st, [], []⟩) (h2 : fa[j]? = some (.glo x)) : DefAt K mg x st := by
  obtain ⟨fd, F⟩ := c.def_ i h1
  exact ⟨_, fd, He.glo_ok X G (c.fact j h2), F⟩
end DW

set_option Elab.async false
set_option linter.all false
set_option maxRecDepth 100000
namespace DW
open PySem PySem.Spec PyProof.Rows L2
abbrev rInt1 : List V → Hp → VK → Prop := fun xs H Q => (∃ i, xs = [.int i] ∧ Q (.int i) H) ∨ ∃ k, xs = [.bl k] ∧ Q (.int (if k then 1 else 0)) H
abbrev rPowI : R2 := rI CPow fun i j => .int (i ^ j.toNat)
abbrev rModI : R2 := rI (fun _ j => 0 < j) fun i j => .int (i % j)
abbrev rMulI : R2 := rI CMulX fun i j => .int (i * j)
abbrev rFdivI : R2 := rI CDivW fun i j => .int (i / j)
def t_big (K : PySem.W.Frag) : TS := tIfS (tTest (tOp (rI0 fun i j => .bl (decide (j < i))) (tVar 3) (tC (.int 0))))
  (tSeq (tDrop (tBM K "list" rAppend (tVar 1) (tCons (tOp rModI (tCB rInt1 (tCons (tVar 3) tNil)) (tOp rPowI (tC (.int 10)) (tC (.int 20)))) tNil)))
    (tAsg (tOp rFdivI (tVar 3) (tOp rPowI (tC (.int 10)) (tC (.int 20)))) (gName 3))) tNext
def t_mix (K : PySem.W.Frag) : TS :=
  tSeq (tAsg (tOp rModI (tCB rInt1 (tCons (tOp (rAddA K) (tOp rMulI (tVar 3) (tC (.int 918273645546372819))) (tOp rMulI (tOp (rAddA K) (tOp (rAddA K) (tOp rMulI (tC (.int 9)) (tVar 2)) (tVar 4)) (tC (.int 1))) (tC (.int 135792468864297531)))) tNil)) (tC (.int 2305843009213693951))) (gName 5))
  (tSeq (tAsg (tOp rModI (tCB rInt1 (tCons (tOp rMulI (tVar 5) (tVar 5)) tNil)) (tC (.int 1000000000000000003))) (gName 5))
  (tDrop (tBM K "list" rAppend (tVar 1) (tCons (tOp rModI (tCB rInt1 (tCons (tOp rMulI (tVar 5) (tVar 5)) tNil)) (tC (.int 2305843009213693951))) tNil))))
def t_turn (K : PySem.W.Frag) : TS :=
  tSeq (tAsg (tCB (fun xs H Q => ∃ i, xs = [.int i] ∧ Q (.int (if i < 0 then -i else i)) H) (tCons (tOp (rIxS2 K) (tVar 0) (tVar 2)) tNil)) (gName 3))
  (tIfS (tTest (tOp (rI0 fun i j => .bl (decide (j ≤ i))) (tVar 3) (tOp rPowI (tC (.int 10)) (tC (.int 18)))))
    (tFor (iRng1 (tCons (tC (.int 40)) tNil)) (gName 4) (t_big K))
    (tSeq (tAsg (tOp (rAddA K) (tOp rMulI (tC (.int 2)) (tVar 3)) (tCB rInt1 (tCons (tOp (rI0 fun i j => .bl (decide (i < j))) (tOp (rIxS2 K) (tVar 0) (tVar 2)) (tC (.int 0))) tNil))) (gName 3))
      (tFor (iRng1 (tCons (tC (.int 6)) tNil)) (gName 4) (t_mix K))))
def t_draws (K : PySem.W.Frag) : TS :=
  tSeq (tAsg (tLst tNil) (gName 1))
  (tSeq (tFor (iRng1 (tCons (tCB (fun xs H Q => ∃ i j, xs = [.int i, .int j] ∧ Q (.int (if j < i then j else i)) H) (tCons (tCB (rLenA K) (tCons (tVar 0) tNil)) (tCons (tC (.int 63)) tNil))) tNil)) (gName 2) (t_turn K))
  (tRet (tVar 1)))
theorem v_cb {te : TE} {σ : L2.St} {H : Hp} {x z : V} {r : List V → Hp → VK → Prop} (h : Val te σ H x) (hr : ∀ Q : VK, Q z H → r [x] H Q) : Val (tCB r (tCons te tNil)) σ H z := fun Q q => h _ (hr Q q)
theorem v_int {te : TE} {σ : L2.St} {H : Hp} {i : Int} (h : Val te σ H (.int i)) : Val (tCB rInt1 (tCons te tNil)) σ H (.int i) := v_cb h fun _ q => .inl ⟨i, rfl, q⟩
theorem v_pow {σ : L2.St} {H : Hp} (n : Nat) (hn : n ≤ 1000000 := by decide) : Val (tOp rPowI (tC (.int 10)) (tC (.int (n : Int)))) σ H (.int (10 ^ n)) := val_op val_c val_c fun Q q => ⟨10, n, rfl, rfl, ⟨by omega, by omega, by decide⟩, q⟩
section
variable {K : PySem.W.Frag} {ta tb : TE} {σ : L2.St} {H : Hp} {i j : Int}
theorem v_mod (ha : Val ta σ H (.int i)) (hb : Val tb σ H (.int j)) (h : 0 < j := by decide) : Val (tOp rModI ta tb) σ H (.int (i % j)) := val_op ha hb fun Q q => ⟨i, j, rfl, rfl, h, q⟩
theorem v_mulL (ha : Val ta σ H (.int i)) (hb : Val tb σ H (.int j)) (h : -(2 ^ 64) < i ∧ i < 2 ^ 64) : Val (tOp rMulI ta tb) σ H (.int (i * j)) := val_op ha hb fun Q q => ⟨i, j, rfl, rfl, .inl (.inl h), q⟩
theorem v_mulR (ha : Val ta σ H (.int i)) (hb : Val tb σ H (.int j)) (h : -(2 ^ 64) < j ∧ j < 2 ^ 64) : Val (tOp rMulI ta tb) σ H (.int (i * j)) := val_op ha hb fun Q q => ⟨i, j, rfl, rfl, .inl (.inr h), q⟩
theorem v_add (ha : Val ta σ H (.int i)) (hb : Val tb σ H (.int j)) : Val (tOp (rAddA K) ta tb) σ H (.int (i + j)) := val_op ha hb fun Q q => .inl ⟨i, j, rfl, rfl, q⟩
end
theorem app_at {K : PySem.W.Frag} {H H' : Hp} {a l : Addr} {ns : List Int} {σ : L2.St} {m : Nat} (d : Drs H H' a l ns σ m) (hm : m ≤ 100000) {te : TE} {D : Ends} {z : Int} (hz : 0 ≤ z) (hte : Val te σ H' (.int z))
    (k : ∀ H'', Drs H H'' a l ns σ (m + 1) → D.nx σ H'') : tDrop (tBM K "list" rAppend (tVar 1) (tCons te tNil)) D σ H' := by
  obtain ⟨ms, h1, h2, h3⟩ := d.at_
  refine ⟨_, d.s1, .inl ⟨rfl, _, SqL.of h1⟩, ?_⟩
  refine hte _ ?_
  exact ⟨l, _, .int z, rfl, rfl, h1, by rw [List.length_map]; exact Nat.lt_of_le_of_lt (Nat.le_trans h3 hm) (by decide), k _ (d.app hz h1 h2 h3)⟩
theorem big_ok {K : PySem.W.Frag} {H : Hp} {a l : Addr} {ns : List Int} {D : Ends} {m : Nat} {σ : L2.St} {H' : Hp} {z : Int} (d : Drs H H' a l ns σ m) (hm : m + 40 ≤ 100000) (e3 : σ[3]? = some (some (.int z)))
    (k : ∀ σ' H', Drs H H' a l ns σ' (m + 40) → D.nx σ' H') : tFor (iRng1 (tCons (tC (.int 40)) tNil)) (gName 4) (t_big K) D σ H' := by
  refine ⟨40, rfl, by decide, by decide, for_range (lo := 0) (n := 40) (fun i σ' H' => i ≤ 40 ∧ Drs H H' a l ns σ' (m + i) ∧ ∃ z : Int, σ'[3]? = some (some (.int z))) ⟨by decide, d, z, e3⟩ ?_ ?_⟩
  · rintro i σ1 H1 hi ⟨_, d1, z1, e1⟩
    have d2 := d1.set 4 (some (.int (0 + (i : Int))))
    have e2 : (σ1.set 4 (some (V.int (0 + (i : Int)))))[3]? = some (some (.int z1)) := by rw [List.getElem?_set_ne (by decide)]; exact e1
    refine ⟨_, e2, z1, 0, rfl, rfl, _, rfl, ?_⟩
    refine ite2 (fun hz => ?_) (fun _ => ?_)
    · refine st_seq (app_at d2 (by omega) (Int.emod_nonneg z1 (b := 10 ^ 20) (by decide)) (v_mod (v_int (val_var e2)) (v_pow 20)) fun H3 d3 => ?_)
      refine st_set (v := .int (z1 / 10 ^ 20)) (val_op (val_var e2) (v_pow 20) fun Q q => ⟨z1, _, rfl, rfl, wide_div (b := 100) (by decide) (by decide) (by decide) (by decide), q⟩) ?_
      exact ⟨hi, d3.set 3 _, _, d3.get 3⟩
    · exact ⟨hi, d2.mono (by omega), z1, e2⟩
  · rintro σ1 H1 ⟨_, d1, _⟩
    exact k σ1 H1 d1
theorem mix_ok {K : PySem.W.Frag} {H : Hp} {a l : Addr} {ns : List Int} {D : Ends} {m : Nat} {σ : L2.St} {H' : Hp} {z k0 : Int} (d : Drs H H' a l ns σ m) (hm : m + 40 ≤ 100000) (e2 : σ[2]? = some (some (.int k0))) (e3 : σ[3]? = some (some (.int z)))
    (k : ∀ σ' H', Drs H H' a l ns σ' (m + 40) → D.nx σ' H') : tFor (iRng1 (tCons (tC (.int 6)) tNil)) (gName 4) (t_mix K) D σ H' := by
  refine ⟨6, rfl, by decide, by decide, for_range (lo := 0) (n := 6) (fun i σ' H' => i ≤ 6 ∧ Drs H H' a l ns σ' (m + i) ∧ (σ'[2]? = some (some (.int k0)) ∧ σ'[3]? = some (some (.int z)))) ⟨by decide, d, e2, e3⟩ ?_ ?_⟩
  · rintro i σ1 H1 hi ⟨_, d1, f2, f3⟩
    have d2 := d1.set 4 (some (.int (0 + (i : Int))))
    have g2 : (σ1.set 4 (some (V.int (0 + (i : Int)))))[2]? = some (some (.int k0)) := by rw [List.getElem?_set_ne (by decide)]; exact f2
    have g3 : (σ1.set 4 (some (V.int (0 + (i : Int)))))[3]? = some (some (.int z)) := by rw [List.getElem?_set_ne (by decide)]; exact f3
    refine st_seq (st_set (v_mod (v_int (v_add (v_mulR (val_var g3) val_c (by decide)) (v_mulR (v_add (v_add (v_mulL val_c (val_var g2) (by decide)) (val_var (d1.get 4))) val_c) val_c (by decide)))) val_c) ?_)
    have b1 : ∀ x : Int, -(2 ^ 64) < x % 2305843009213693951 ∧ x % 2305843009213693951 < 2 ^ 64 := fun x => by
      have h1 := Int.emod_nonneg x (b := 2305843009213693951) (by decide)
      have h2 := Int.emod_lt_of_pos x (b := 2305843009213693951) (by decide)
      omega
    have b2 : ∀ x : Int, -(2 ^ 64) < x % 1000000000000000003 ∧ x % 1000000000000000003 < 2 ^ 64 := fun x => by
      have h1 := Int.emod_nonneg x (b := 1000000000000000003) (by decide)
      have h2 := Int.emod_lt_of_pos x (b := 1000000000000000003) (by decide)
      omega
    have d3 := fun x => d2.set 5 (some (.int x))
    refine st_seq (st_set (v_mod (v_int (v_mulL (val_var (d2.get 5)) (val_var (d2.get 5)) (b1 _))) val_c) ?_)
    refine app_at ((d3 _).set 5 _) (by omega) (Int.emod_nonneg _ (b := 2305843009213693951) (by decide)) (v_mod (v_int (v_mulL (val_var ((d3 _).get 5)) (val_var ((d3 _).get 5)) (b2 _))) val_c) fun H3 d4 => ?_
    refine ⟨hi, d4, ?_, ?_⟩
    · rw [List.getElem?_set_ne (by decide), List.getElem?_set_ne (by decide)]
      exact g2
    · rw [List.getElem?_set_ne (by decide), List.getElem?_set_ne (by decide)]
      exact g3
  · rintro σ1 H1 ⟨_, d1, _⟩
    exact k σ1 H1 (d1.mono (by omega))
theorem pure_draws {K : PySem.W.Frag} (vs : List V) (H : Hp) (Q : VK) (E : XK) (h : spDraws K vs H Q E) : t_draws K { nx := fun _ H' => Q .non H', rt := Q } (start ["_law_script", "_law_draws_here", "_law_k", "_law_size", "_law_turn", "_law_mixed"] vs) H := by
  obtain ⟨a, ns, rfl, hS, k⟩ := h
  refine ⟨Nat.zero_le _, fun l hl => ?_⟩
  have s1 : Same H (upd H l (.lst [])) := fun b o e => by
    rw [upd_ne (ne_of_none e hl)]
    exact e
  have d0 : Drs H (upd H l (.lst [])) a l ns ((start ["_law_script", "_law_draws_here", "_law_k", "_law_size", "_law_turn", "_law_mixed"] [V.ref a]).set 1 (some (.ref l))) 0 :=
    ⟨rfl, rfl, rfl, hl, s1, [], upd_same, fun x hx => (by cases hx), Nat.le_refl _⟩
  refine ⟨_, d0.s0, .inl ⟨a, _, rfl, .inl (s1.seq hS), ns.length, 63, by rw [List.length_map], ?_⟩⟩
  have hmin : (if (63 : Int) < (ns.length : Int) then (63 : Int) else (ns.length : Int)) = ((min ns.length 63 : Nat) : Int) := by
    split <;> omega
  rw [hmin]
  have hn : min ns.length 63 ≤ 63 := Nat.min_le_right _ _
  refine ⟨_, rfl, by omega, by omega, for_range (lo := 0) (n := ((min ns.length 63 : Nat) : Int).toNat) (fun i σ' H' => i ≤ 63 ∧ Drs H H' a l ns σ' (40 * i)) ⟨by decide, d0⟩ ?_ ?_⟩
  · rintro i σ1 H1 hi ⟨_, d1⟩
    rw [Int.toNat_natCast] at hi
    have d2 := d1.set 2 (some (.int (0 + (i : Int))))
    have hi2 : i < ns.length := by omega
    have hix : atI (ns.map V.int) (0 + (i : Int)) = some (.int ns[i]) := by
      rw [Int.zero_add]
      exact atI_nat (by rw [List.getElem?_map, List.getElem?_eq_getElem hi2]; rfl)
    have vix : ∀ {σ H'}, σ[0]? = some (some (.ref a)) → σ[2]? = some (some (.int (0 + (i : Int)))) → Same H H' → Val (tOp (rIxS2 K) (tVar 0) (tVar 2)) σ H' (.int ns[i]) := fun e0 e2 s => val_op (val_var e0) (val_var e2) fun Q q => .inl ⟨a, _, _, _, rfl, rfl, s.seq hS, hix, q⟩
    refine st_seq (st_set (v_cb (vix d2.s0 (d1.get 2) d2.same) fun Q q => ⟨_, rfl, q⟩) ?_)
    have d3 := d2.set 3 (some (.int (if ns[i] < 0 then -ns[i] else ns[i])))
    refine val_op (r := rI0 fun i j => .bl (decide (j ≤ i))) (val_var (d2.get 3)) (v_pow 18) (fun Q q => ⟨_, _, rfl, rfl, q⟩) _ ⟨_, rfl, ?_⟩
    refine ite2 (fun _ => ?_) (fun _ => ?_)
    · exact big_ok d3 (by omega) (d2.get 3) fun σ' H' d' => ⟨by omega, d'.mono (by omega)⟩
    · have e2 : ((σ1.set 2 (some (V.int (0 + (i : Int))))).set 3 (some (V.int (if ns[i] < 0 then -ns[i] else ns[i]))))[2]? = some (some (V.int (0 + (i : Int)))) := by
        rw [List.getElem?_set_ne (by decide)]
        exact d1.get 2
      refine st_seq (st_set (v_add (v_mulL val_c (val_var (d2.get 3)) (by decide)) (v_cb (val_op (r := rI0 fun i j => .bl (decide (i < j))) (vix d3.s0 e2 d3.same) val_c fun Q q => ⟨_, _, rfl, rfl, q⟩) fun Q q => .inr ⟨_, rfl, q⟩)) ?_)
      exact mix_ok (d3.set 3 _) (by omega) (by rw [List.getElem?_set_ne (by decide)]; exact e2) (d3.get 3) fun σ' H' d' => ⟨by omega, d'.mono (by omega)⟩
  · rintro σ1 H1 ⟨_, d1⟩
    obtain ⟨ms, h1, h2, h3⟩ := d1.at_
    exact ⟨_, d1.s1, k l ms H1 d1.new d1.same h1 h2 (by omega)⟩
end DW

set_option Elab.async false
set_option linter.all false
set_option maxRecDepth 100000
namespace DW
open PySem PySem.Spec PyProof.Rows L2
theorem iteD {p A B : Prop} [Decidable p] (h1 : p → A) (h2 : ¬ p → B) : if decide p = true then A else B := by
  by_cases h : p
  · rw [if_pos (decide_eq_true h)]
    exact h1 h
  · rw [if_neg (by rw [decide_eq_false h]; exact Bool.false_ne_true)]
    exact h2 h
theorem iteB {b : Bool} {A B : Prop} (h1 : b = true → A) (h2 : b = false → B) : if b = true then A else B := by
  cases b with
  | true => exact h1 rfl
  | false => exact h2 rfl
theorem for_inv {g : DG} {b : DS} {D : DEnds} {ds : List Dt} {ρ : En} (P : Nat → En → Prop) (h0 : P 0 ρ) (ht : ∀ (i : Nat) (x : Dt) (ρ' : En), ds[i]? = some x → P i ρ' → g (.dat x) ρ' fun ρ2 => b { D with nx := P (i + 1), ct := P (i + 1), bk := D.nx } ρ2)
    (he : ∀ ρ', P ds.length ρ' → D.nx ρ') : ForI g b D ds ρ := ⟨P, h0, ht, he⟩
theorem for_rng {g : DG} {b : DS} {D : DEnds} {lo : Int} {n : Nat} {ρ : En} (P : Nat → En → Prop) (h0 : P 0 ρ) (ht : ∀ (i : Nat) (ρ' : En), i < n → P i ρ' → g (.dat (.v (.int (lo + (i : Nat))))) ρ' fun ρ2 => b { D with nx := P (i + 1), ct := P (i + 1), bk := D.nx } ρ2)
    (he : ∀ ρ', P n ρ' → D.nx ρ') : ForI g b D (intsR lo n) ρ := by
  refine ⟨P, h0, fun i x ρ' hx p => ?_, fun ρ' p => he ρ' (by rw [intsR_len] at p; exact p)⟩
  have hi : i < n := by
    have := (List.getElem?_eq_some_iff.mp hx).1
    rwa [intsR_len] at this
  rw [intsR_get hi] at hx
  cases hx
  exact ht i ρ' hi p
theorem lc_map {g : DG} {e : DE} {ds : List Dt} {ρ : En} {Q : List Dt → Prop} (f : Nat → Dt) (hl : ds.length ≤ 100000) (h : ∀ (i : Nat) (x : Dt), ds[i]? = some x → ∀ R : Dt → Prop, R (f i) → g (.dat x) ρ fun ρ2 => e ρ2 (datS R) fun _ => False) (q : Q ((List.range ds.length).map f)) : LcI g dYes e ρ ds Q := by
  refine ⟨fun i acc => acc = (List.range i).map f, rfl, fun i x acc hx p => ?_, fun acc p => ?_⟩
  · have hi := (List.getElem?_eq_some_iff.mp hx).1
    exact h i x hx _ ⟨by rw [p, List.length_map, List.length_range]; omega, by rw [p]; show List.map f (List.range i) ++ [f i] = List.map f (List.range (i + 1)); rw [List.range_succ, List.map_append]; rfl⟩
  · rw [p]
    exact q
theorem atI_of {α : Type} {xs : List α} {i : Int} {j : Nat} {v : α} (hi : i = (j : Int)) (h : xs[j]? = some v) : atI xs i = some v := by
  subst hi
  exact atI_nat h
section
variable {P : Program} {w : World} {K : PySem.W.Frag} {mg : Str → Option Value} {base : Heap} {N : List Str} {qual : Str} {scope : Scope} {f : Addr} {cdv : Value} {A : Around} {outer : List Env} {s : Shared} {H : Hp} {E : XK}
abbrev WX0 (E : XK) : WX := fun cls d _ H => E cls d H
theorem tk_cx : Takes (cxOf (L2.CX P w) P w K mg base N qual scope f cdv A outer s H E) (WX0 E) := takes_of rfl rfl rfl rfl
theorem po_cx : PassesOwn (model P w) (cxOf (L2.CX P w) P w K mg base N qual scope f cdv A outer s H E).A (cxOf (L2.CX P w) P w K mg base N qual scope f cdv A outer s H E).env (cxOf (L2.CX P w) P w K mg base N qual scope f cdv A outer s H E).xe := passes_of rfl
end
theorem fnk_by {P : Program} {w : World} {K : PySem.W.Frag} {mg : Str → Option Value} {base : Heap} {x : Str} {st : Stmt} {N ps : List Str} {k : Nat} {sd : Sd} {ds : DS} (D : DefAt K mg x st) (S : FnScope N ps (defScope st)) (len : ∀ as Q E, sd as Q E → as.length = ps.length)
    (hbd : ∀ (kV doc pm : Value) (an : Option Addr) (cdv ct : Value) (us : List Value), us.length = ps.length → bindArgs (PySem.W.fnOf x x (defArgs st) (defBody st) (defScope st) .none kV doc pm an cdv ct) ⟨us, []⟩ = pure (ps.zip us))
    (hb : ∀ (X : Cx) (W : WX) (f : Addr) (cdv : Value) (A : Around) (outer : List Env) (s : Shared) (H : Hp) (E : XK), X = cxOf (L2.CX P w) P w K mg base N x (defScope st) f cdv A outer s H E → W = WX0 E → Takes (cxOf (L2.CX P w) P w K mg base N x (defScope st) f cdv A outer s H E) (WX0 E) →
      PassesOwn (model P w) (cxOf (L2.CX P w) P w K mg base N x (defScope st) f cdv A outer s H E).A (cxOf (L2.CX P w) P w K mg base N x (defScope st) f cdv A outer s H E).env (cxOf (L2.CX P w) P w K mg base N x (defScope st) f cdv A outer s H E).xe →
      Room k (cxOf (L2.CX P w) P w K mg base N x (defScope st) f cdv A outer s H E).A → (cxOf (L2.CX P w) P w K mg base N x (defScope st) f cdv A outer s H E).A.units + 64 < cLine → N.Nodup →
      ∃ ts, DSSX (cxOf (L2.CX P w) P w K mg base N x (defScope st) f cdv A outer s H E) (WX0 E) (defBody st) ts ds)
    (hp : ∀ as Q E, sd as Q E → ds (dEnds Q E) (startD N.length as)) : Fnk P w K mg base x (k + 1) ps [] [] sd :=
  fnk_of D S len (fun _ kV doc pm an cdv ct us hl => hbd kV doc pm an cdv ct us hl) (fun f cdv A outer s H E hr => hb _ _ f cdv A outer s H E rfl rfl tk_cx po_cx hr hr.units S.nd) hp
theorem fnk_next {P : Program} {w : World} {K : PySem.W.Frag} {mg : Str → Option Value} {base : Heap} {st : Stmt} (D : DefAt K mg "_law_next" st) (S : FnScope ["_law_draws_here", "_law_many"] ["_law_draws_here", "_law_many"] (defScope st))
    (hbd : ∀ (kV doc pm : Value) (an : Option Addr) (cdv ct : Value) (us : List Value), us.length = 2 → bindArgs (PySem.W.fnOf "_law_next" "_law_next" (defArgs st) (defBody st) (defScope st) .none kV doc pm an cdv ct) ⟨us, []⟩ = pure ((["_law_draws_here", "_law_many"] : List Str).zip us))
    (hb : ∀ (f : Addr) (cdv : Value) (A : Around) (outer : List Env) (s : Shared) (H : Hp) (E : XK), (A.deeper (envOfC "_law_next" (defScope st) s.heap.objs.size f cdv)).units + 64 < cLine →
      PSs (cxOf (L2.CX P w) P w K mg base ["_law_draws_here", "_law_many"] "_law_next" (defScope st) f cdv A outer s H E) (defBody st) (t_next K)) : Fnk P w K mg base "_law_next" 1 ["_law_draws_here", "_law_many"] [] [] sd__law_next := by
  obtain ⟨f, fd, h1, F⟩ := D
  refine ⟨f, fd, [], h1, F.kp, FunD.bindsN F (fun kV doc pm an cdv ct us hl => hbd kV doc pm an cdv ct us hl), .nil, dd_nil, F.ok (k := 0) S (fun vs H Q E h => ?_) fun cdv A outer s H vs Q E hr h => ⟨_, hb f cdv A outer s H E hr.units, pure_next vs H Q E h⟩⟩
  obtain ⟨l0, F, ds, Qd, Ed, b, r, ⟨many, rfl, _⟩, _⟩ := h
  exact r.length
def Drk (P : Program) (w : World) (K : PySem.W.Frag) (mg : Str → Option Value) (base : Heap) : Prop := ∃ f fd, mg "_law_draws" = some (.ref f) ∧ PySem.W.keepIn K (.ref f) = true ∧ Binds K fd ["_law_script"] [] ∧ FnOk P w K mg base (L2.CX P w) 1 f fd ["_law_script"] (spDraws K)
theorem drk_of {P : Program} {w : World} {K : PySem.W.Frag} {mg : Str → Option Value} {base : Heap} {st : Stmt} (D : DefAt K mg "_law_draws" st) (S : FnScope ["_law_script", "_law_draws_here", "_law_k", "_law_size", "_law_turn", "_law_mixed"] ["_law_script"] (defScope st))
    (hbd : ∀ (kV doc pm : Value) (an : Option Addr) (cdv ct : Value) (us : List Value), us.length = 1 → bindArgs (PySem.W.fnOf "_law_draws" "_law_draws" (defArgs st) (defBody st) (defScope st) .none kV doc pm an cdv ct) ⟨us, []⟩ = pure ((["_law_script"] : List Str).zip us))
    (hb : ∀ (f : Addr) (cdv : Value) (A : Around) (outer : List Env) (s : Shared) (H : Hp) (E : XK),
      PassesOwn (model P w) (cxOf (L2.CX P w) P w K mg base ["_law_script", "_law_draws_here", "_law_k", "_law_size", "_law_turn", "_law_mixed"] "_law_draws" (defScope st) f cdv A outer s H E).A (cxOf (L2.CX P w) P w K mg base ["_law_script", "_law_draws_here", "_law_k", "_law_size", "_law_turn", "_law_mixed"] "_law_draws" (defScope st) f cdv A outer s H E).env (cxOf (L2.CX P w) P w K mg base ["_law_script", "_law_draws_here", "_law_k", "_law_size", "_law_turn", "_law_mixed"] "_law_draws" (defScope st) f cdv A outer s H E).xe →
      ∃ ds, DSSX (cxOf (L2.CX P w) P w K mg base ["_law_script", "_law_draws_here", "_law_k", "_law_size", "_law_turn", "_law_mixed"] "_law_draws" (defScope st) f cdv A outer s H E) (WX0 E) (defBody st) (t_draws K) ds) : Drk P w K mg base := by
  obtain ⟨f, fd, h1, F⟩ := D
  refine ⟨f, fd, h1, F.kp, FunD.bindsN F (fun kV doc pm an cdv ct us hl => hbd kV doc pm an cdv ct us hl), F.ok (k := 0) S (fun vs H Q E h => ?_) fun cdv A outer s H vs Q E hr h => ⟨_, (Exists.choose_spec (hb f cdv A outer s H E po_cx)).1, pure_draws vs H Q E h⟩⟩
  obtain ⟨a, ns, rfl, _⟩ := h
  rfl
theorem ps_draws {X : Cx} {W : WX} {x y : Str} {p p2 p3 p4 p5 : Pos} (C : Drk X.prog X.w X.K X.mg X.base) (tk : Takes X W) (hr : Room 1 X.A) (nd : X.N.Nodup) (hg : Gl X "_law_draws" := by rfl) (h0 : X.N[0]? = some y := by rfl) (v0 : Vis X.env.scope y := by first | exact Or.inl rfl | exact Or.inr (Or.inl rfl))
    (hd : (y == ("__debug__" : Str)) = false := by decide) (hcd : (y == ("__classdict__" : Str)) = false := by decide) (h1 : X.N[1]? = some x := by rfl) (hx : Loc X.env.scope x := by first | exact .inl rfl | exact .inr rfl)
    (hf : X.fn x = true ∨ X.env.scope.names.lookup x = some .local := by first | exact .inl rfl | exact .inr rfl | assumption) (he : starEach (.Name y p3 :: []) X.env = (false, eval (.Name y p3) X.env) :: starEach [] X.env := by rfl) (hpl : (backTo p4 (starEach [] X.env)).any (·.1) = false := by rfl)
    (hs : swapsWith (.Call (.Name "_law_draws" p2) [.Name y p3] [] p4) (some (.Name x p)) p5.line X.env = pure false := by rfl) :
    PS X (.Assign [.Name x p] (.Call (.Name "_law_draws" p2) [.Name y p3] [] p4) p5) (tAsg (tCallSD (spDraws X.K) [] (WE W) (tCons (tVar 0) tNil)) (gName 1)) := by
  obtain ⟨f, fd, m, kp, b, F⟩ := C
  exact ps_set nd h1 hx (pe_callSD F hr hg m kp b .nil (fun σ => passAt tk σ) (pa_cons (pe_var h0 v0 hd hcd) pa_nil he) (by decide) he hpl) hs hf
end DW

set_option Elab.async false
set_option linter.all false
set_option maxRecDepth 100000
namespace DW
open PySem PySem.Spec PyProof.Rows L2
inductive Ty6 where
  | int | bool | str | none | list | tuple
def Ty6.nm : Ty6 → String
  | .int => "int" | .bool => "bool" | .str => "str" | .none => "NoneType" | .list => "list" | .tuple => "tuple"
section
variable {K : PySem.W.Frag} {W : WX} {l0 : Addr} {F H F' H' : Hp} {v : V} {s : Sl} {X : Cx} {pos : Pos}
theorem de_tyn {x : Str} {p : Pos} {n : String} (hg : Gl X x) (hm : X.mg x = none) (hv : bootBuiltins x = some (.type n)) (hn : x ≠ "__name__" := by decide) (hd : (x == ("__debug__" : Str)) = false := by decide) :
    DEX X W (.Name x p) (tC (.ty n)) (dC (.ty n)) := de_pe (pe_bltn hg hm hv rfl hn hd)
theorem ds_par (i j : Nat) {x y : Str} {a b : Expr} {ta : TA} {da : DA} {px py pt : Pos} {kt k2 pt2} (hNd : X.N.Nodup) (hc : X.calm = true) (ha : DAX X W [a, b] ta da) (hi : X.N[i]? = some x := by rfl) (hj : X.N[j]? = some y := by rfl) (hij : i ≠ j := by decide)
    (hx : X.env.scope.names.lookup x = some .local := by rfl) (hy : X.env.scope.names.lookup y = some .local := by rfl)
    (hw : swappedStores [.Tuple [.Name x px, .Name y py] kt pt] (.Tuple [a, b] k2 pt2) X.env = pure (some [x, y]) := by rfl)
    (hs : swapsWithSole [.Tuple [.Name x px, .Name y py] kt pt] (.Tuple [a, b] k2 pt2) pos.line X.env = pure false := by rfl) :
    DSX X W (.Assign [.Tuple [.Name x px, .Name y py] kt pt] (.Tuple [a, b] k2 pt2) pos) (tPar i j ta) (dPar i j da) := by
  refine ⟨ps_par hc hNd hi hj hij hx hy ha.1 hw hs, fun D ρ h l0 F H σ S C L => ?_⟩
  refine ha.2 ρ _ _ h l0 F H σ S _ (fun vs ss F1 H1 g1 r1 q1 => ?_) (L.kx S)
  split at q1
  · cases r1 with
    | cons ra r1 =>
      cases r1 with
      | cons rb r1 =>
        cases r1
        refine ⟨_, _, rfl, ?_⟩
        have S1 := (S.go g1).put i ra
        have S2 := S1.put j rb
        exact ((L.trans S.bs (.of g1) .refl).trans g1.bs (.of (.refl g1.bs)) (.put i)).nx F1 H1 _ _ (.of (.refl g1.bs)) (.put j) S2 q1
  · exact q1.elim
end
section
variable {X : Cx} {pos : Pos}
def gSq (K : PySem.W.Frag) (n : Nat) (t : TGs) : TG := fun v σ H Q => gTup K n t v σ H Q ∨ gUnl K n t v σ H Q
theorem pg_sq {es : List Expr} {k : Nat} {t : TGs} {n : Nat} (hc : X.calm = true) (h : PGs X es t) (hn : (assignEach es X.env).length = n := by rfl) (hst : (assignEach es X.env).findIdx? (·.1) = none := by rfl) : PG X (.Tuple es k pos) (gSq X.K n t) :=
  ⟨fun pins s σ H v u Q I r hw => hw.elim (fun w => (pg_tup hc h hn hst).run pins s σ H v u Q I r w) (fun w => (pg_unl hc h hn hst).run pins s σ H v u Q I r w)⟩
def gdSq (n : Nat) (t : DGs) : DG
  | .dat (.tup ds), ρ, R => ds.length = n ∧ t ds ρ R
  | .dat (.lst ds), ρ, R => ds.length = n ∧ t ds ρ R
  | _, _, _ => False
theorem dg_sq {es : List Expr} {k : Nat} {g : TGs} {t : DGs} {n : Nat} {ns : List Nat} (hc : X.calm = true) (h : DGsX X es ns g t) (hn : (assignEach es X.env).length = n := by rfl) (hst : (assignEach es X.env).findIdx? (·.1) = none := by rfl) : DGX X (.Tuple es k pos) ns (gSq X.K n g) (gdSq n t) := by
  obtain ⟨p, sg⟩ := h
  refine ⟨pg_sq hc p hn hst, fun s ρ R h l0 F H σ v S r Rc k => ?_⟩
  unfold gdSq at h
  split at h
  · obtain ⟨a, xs, e, h1, h2⟩ := SlV.tup r
    exact .inl ⟨a, xs, e, sameT S.bs.sub h1, by rw [h2.length]; exact h.1, sg _ ρ R h.2 l0 F H σ xs S h2 Rc k⟩
  · obtain ⟨a, xs, e, h1, h2⟩ := SlV.lst r
    exact .inr ⟨a, xs, e, S.bs.sub.seq h1, by rw [h2.length]; exact h.1, sg _ ρ R h.2 l0 F H σ xs S h2 Rc k⟩
  · exact h.elim
end
theorem eqv_ii (a b : Int) : PyData.eqv (.int a) (.int b) = decide (a = b) := by
  rw [PyData.eqv]
  exact Bool.beq_eq_decide_eq a b
theorem iteE {a b : Int} {A B : Prop} (h1 : a = b → A) (h2 : a ≠ b → B) : if PyData.eqv (.int a) (.int b) = true then A else B := by
  rw [eqv_ii]
  exact iteD h1 h2
theorem iteN {a b : Int} {A B : Prop} (h1 : a ≠ b → A) (h2 : a = b → B) : if (!PyData.eqv (.int a) (.int b)) = true then A else B := by
  rw [eqv_ii]
  by_cases h : a = b
  · rw [if_neg (by simp [h])]
    exact h2 h
  · rw [if_pos (by simp [h])]
    exact h1 h
def okD : Nat → Dt → Bool
  | _, .v (.int _) => true
  | _, .v (.bl _) => true
  | _, .v .non => true
  | _, .v (.str x) => (PyData.str x).canLay0
  | n + 1, .lst ds => ds.all (okD n)
  | n + 1, .tup ds => ds.all (okD n)
  | _, _ => false
theorem okD_pys {n : Nat} (ih : ∀ d, okD n d = true → ∃ e, toPy d = some e ∧ e.canLay0 = true ∧ e.depth ≤ n + 1) : ∀ ds : List Dt, ds.all (okD n) = true → ∃ es, toPys ds = some es ∧ PyData.canLayAll0 es = true ∧ PyData.depthAll es ≤ n + 1
  | [], _ => ⟨[], rfl, rfl, by simp [PyData.depthAll]⟩
  | d :: ds, h => by
    rw [List.all_cons, Bool.and_eq_true] at h
    obtain ⟨e, h1, h2, h3⟩ := ih d h.1
    obtain ⟨es, h4, h5, h6⟩ := okD_pys ih ds h.2
    refine ⟨e :: es, by simp only [toPys, h1, h4], by simp only [PyData.canLayAll0, h2, h5, Bool.and_self], ?_⟩
    simp only [PyData.depthAll]
    omega
theorem okD_py : ∀ (n : Nat) (d : Dt), okD n d = true → ∃ e, toPy d = some e ∧ e.canLay0 = true ∧ e.depth ≤ n + 1
  | n, .v x, h => by
    cases x with
    | int i => exact ⟨.int i, rfl, rfl, by simp [PyData.depth]⟩
    | bl b => exact ⟨.bool b, rfl, rfl, by simp [PyData.depth]⟩
    | non => exact ⟨.none, rfl, rfl, by simp [PyData.depth]⟩
    | str x => exact ⟨.str x, rfl, by cases n <;> exact h, by simp [PyData.depth]⟩
    | _ => cases n <;> cases h
  | 0, .lst ds, h => by cases h
  | 0, .tup ds, h => by cases h
  | n + 1, .lst ds, h => by
    obtain ⟨es, h1, h2, h3⟩ := okD_pys (okD_py n) ds h
    exact ⟨.list es, by simp only [toPy, h1, Option.map_some], by simpa only [PyData.canLay0] using h2, by simp only [PyData.depth]; omega⟩
  | n + 1, .tup ds, h => by
    obtain ⟨es, h1, h2, h3⟩ := okD_pys (okD_py n) ds h
    exact ⟨.tuple es, by simp only [toPy, h1, Option.map_some], by simpa only [PyData.canLay0] using h2, by simp only [PyData.depth]; omega⟩
  | n, .obj _ _, h => by cases n <;> cases h
  | n, .slt _ _, h => by cases n <;> cases h
  | n, .exc _ _ _ _, h => by cases n <;> cases h
  | n, .dct _, h => by cases n <;> cases h
  | n, .dcn _ _, h => by cases n <;> cases h
  | n, .drw, h => by cases n <;> cases h
theorem dEq_self {d : Dt} {Q : Sl → Prop} (h : okD 60 d = true) (q : Q (.dat (.v (.bl true)))) : dEq (.dat d) (.dat d) Q := by
  obtain ⟨e, h1, h2, h3⟩ := okD_py 60 d h
  have h4 : SeqAt.shaped e = true := by
    unfold SeqAt.shaped
    rw [h2, decide_eq_true (by omega)]
    rfl
  refine ⟨e, e, h1, h1, h4, h4, ?_⟩
  rw [SeqAt.eqv_refl e h2]
  exact q
theorem dNe_self {d : Dt} {Q : Sl → Prop} (h : okD 60 d = true) (q : Q (.dat (.v (.bl false)))) : dNe (.dat d) (.dat d) Q := by
  obtain ⟨e, h1, h2, h3⟩ := okD_py 60 d h
  have h4 : SeqAt.shaped e = true := by
    unfold SeqAt.shaped
    rw [h2, decide_eq_true (by omega)]
    rfl
  refine ⟨e, e, h1, h1, h4, h4, ?_⟩
  rw [SeqAt.eqv_refl e h2]
  exact q
end DW

set_option Elab.async false
set_option linter.all false
set_option maxRecDepth 100000
namespace DW
open PySem PySem.Spec PyProof.Rows L2
def dAt (cs : List Addr) (f : Str) (da : DE) : DE := fun ρ Q E => da ρ (fun s => ∃ C gs d, s = .dat (.obj C gs) ∧ C ∈ cs ∧ gs.lookup f = some d ∧ Q (.dat d)) E
def AtOk (K : PySem.W.Frag) (cs : List Addr) (f : Str) : Prop := ∀ C ∈ cs, Cls K C ∧ NoAttr K C f
section
variable {X : Cx} {W : WX} {e o : Expr} {xe xo : TE} {de dob : DE} {pos apos : Pos} {f m : Str}
theorem de_at {cs : List Addr} (c : AtOk X.K cs f) (h : DEX X W e xe de) (hb : attributeBase e f X.env (eval e X.env) = eval e X.env := by rfl) : DEX X W (.Attribute e f pos) (tFld X.K xe f) (dAt cs f de) :=
  ⟨pe_fld h.1 hb, fun ρ Q E q l0 F H σ S Qc k kx => by
    refine h.2 ρ _ E q l0 F H σ S _ (fun x s F1 H1 g1 r1 q1 => ?_) kx
    obtain ⟨C, gs, d, e, hm, hl, q⟩ := q1
    subst e
    cases r1 with
    | obj h r =>
      obtain ⟨v, h2, h3⟩ := r.look hl
      exact ⟨_, C, _, _, v, rfl, g1.bs.sub _ _ h, (c C hm).1, (c C hm).2, h2, k v (.dat d) F1 H1 g1 h3 q⟩⟩
def MOk (P : Program) (w : World) (K : PySem.W.Frag) (mg : Str → Option Value) (base : Heap) (k : Nat) (m : Str) (C : Addr) (sd : Sd) : Prop := ∃ (g : Addr) (fd : FuncData) (ps : List Str), Cls K C ∧ Meth K C m g ∧ FnOk P w K mg base (L2.CX P w) k g fd ps (spOf K sd) ∧ Binds K fd ps []
def tMethD (X : Cx) (k : Nat) (m : Str) (E : L2.St → XK) (ta : TE) (t : TA) : TE := fun σ H Q => ta σ H fun x H1 => ∃ a C dx fs sd, x = .ref a ∧ H1 a = some (.ins C dx fs) ∧ fs.lookup m = none ∧ MOk X.prog X.w X.K X.mg X.base k m C sd ∧ t σ H1 fun vs H2 => spOf X.K sd (x :: vs) H2 Q (E σ)
theorem pe_methD {k : Nat} {es : List Expr} {ta : TE} {t : TA} {E : L2.St → XK} {pl : Sem Bool} (he : PE X o ta) (hr : Room k X.A) (hx : ∀ σ, PassesAt (L2.CX X.prog X.w) X σ (E σ)) (ha : PA X (e :: es) t)
    (hst : starEach (e :: es) X.env = (false, eval e X.env) :: starEach es X.env := by rfl) (hpl : (backTo pos (starEach es X.env)).any (·.1) = false := by rfl)
    (ht : eval (.Call (.Attribute o m apos) (e :: es) [] pos) X.env = (do
      let ov ← eval o X.env
      standAt apos.atName
      let (f, first) ← holding [ov] (getMethod ov m pl)
      callWith pos f first (backTo pos (starEach (e :: es) X.env)) (backToKw pos (keywordEach [] X.env))) := by rfl) :
    PE X (.Call (.Attribute o m apos) (e :: es) [] pos) (tMethD X k m E ta t) := by
  refine ⟨fun pins s σ H Q I h => ?_⟩
  refine PySem.W.methodCall_KW (pl := pl) (thn (he.run pins s σ H _ I h) fun u s1 ⟨x, H1, I1, rx, a, C, dx, fs, sd, ex, ea, l, ⟨g, fd, ps, c, hm, F, hb⟩, q⟩ => ?_) ht
  subst ex
  obtain rfl : u = Value.ref a := rx
  refine getmeth_ok I1 ea c hm l ?_
  refine PySem.W.callWith_K (first := [.ref a]) (h₀ := X.base) I.ok.mod.kin hm.kp (thn (ha.run pos pins s1 σ H1 _ I1 q) fun us s2 ⟨vs, H2, I2, r, q2⟩ => ⟨I2.kIn, ?_⟩) hst hpl
  exact run_fnS (us := .ref a :: us) (vs := .ref a :: vs) F hr hb (hx σ) I2 (.cons rfl r) q2
theorem pe_methD0 {k : Nat} {ta : TE} {E : L2.St → XK} {pl : Sem Bool} (he : PE X o ta) (hr : Room k X.A) (hx : ∀ σ, PassesAt (L2.CX X.prog X.w) X σ (E σ))
    (ht : eval (.Call (.Attribute o m apos) [] [] pos) X.env = (do
      let ov ← eval o X.env
      standAt apos.atName
      let (f, first) ← holding [ov] (getMethod ov m pl)
      callWith pos f first (backTo pos (starEach [] X.env)) (backToKw pos (keywordEach [] X.env))) := by rfl) :
    PE X (.Call (.Attribute o m apos) [] [] pos) (tMethD X k m E ta tNil) := by
  refine ⟨fun pins s σ H Q I h => ?_⟩
  refine PySem.W.methodCall_KW (pl := pl) (thn (he.run pins s σ H _ I h) fun u s1 ⟨x, H1, I1, rx, a, C, dx, fs, sd, ex, ea, l, ⟨g, fd, ps, c, hm, F, hb⟩, q⟩ => ?_) ht
  subst ex
  obtain rfl : u = Value.ref a := rx
  refine getmeth_ok I1 ea c hm l ?_
  exact PySem.W.callWith_K0 (first := [.ref a]) I1.kIn hm.kp (run_fnS (us := [.ref a]) (vs := [.ref a]) F hr hb (hx σ) I1 (.cons rfl .nil) q)
def dMeth (tbl : List (Addr × Sd)) (m : Str) (da : DE) (db : DA) : DE := fun ρ Q E => da ρ (fun s => ∃ C gs sd, s = .dat (.obj C gs) ∧ (C, sd) ∈ tbl ∧ gs.lookup m = none ∧ db ρ (fun ss => plain ss fun ds => sd (.obj C gs :: ds) (fun d => Q (.dat d)) E) E) E
def TblOk (P : Program) (w : World) (K : PySem.W.Frag) (mg : Str → Option Value) (base : Heap) (k : Nat) (m : Str) (tbl : List (Addr × Sd)) : Prop := ∀ r ∈ tbl, MOk P w K mg base k m r.1 r.2
theorem snd_meth {k : Nat} {tbl : List (Addr × Sd)} {ta : TE} {t : TA} {da : DE} {db : DA} (T : TblOk X.prog X.w X.K X.mg X.base k m tbl) (sa : SndE X.K W ta da) (sb : SndA X.K W t db) : SndE X.K W (tMethD X k m (WE W) ta t) (dMeth tbl m da db) := fun ρ Q E q l0 F H σ S Qc kk kx => by
  refine sa ρ _ E q l0 F H σ S _ (fun x s F1 H1 g1 r1 q1 => ?_) kx
  obtain ⟨C, gs, sd, e, hm, hl, q2⟩ := q1
  subst e
  have r1' := r1
  cases r1 with
  | @obj a _ dx fs _ h r =>
    refine ⟨a, C, dx, fs, sd, rfl, g1.bs.sub _ _ h, r.none hl, T _ hm, ?_⟩
    refine sb ρ _ E q2 l0 F1 H1 σ (S.go g1) _ (fun vs ss F2 H2 g2 r2 q3 => ?_) (kx.go g1)
    obtain ⟨ds, e2, q4⟩ := plain_of q3
    subst e2
    have g12 := g1.trans g2
    refine ⟨l0, F2, .obj C gs :: ds, _, E, g2.bs, .cons (Den.mono g2.ex (.obj h r)) (dens_of r2), q4, fun v d F' H' g r q => ?_, fun cls dct x F' H' g r q => ?_⟩
    · exact kk v (.dat d) F' H' (g12.trans g) r q
    · exact kx cls dct x F' H' (g12.trans g) r q
theorem de_meth {k : Nat} {es : List Expr} {tbl : List (Addr × Sd)} {t : TA} {db : DA} {pl : Sem Bool} (T : TblOk X.prog X.w X.K X.mg X.base k m tbl) (tk : Takes X W) (hr : Room k X.A) (ho : DEX X W o xo dob) (ha : DAX X W (e :: es) t db)
    (hst : starEach (e :: es) X.env = (false, eval e X.env) :: starEach es X.env := by rfl) (hpl : (backTo pos (starEach es X.env)).any (·.1) = false := by rfl)
    (ht : eval (.Call (.Attribute o m apos) (e :: es) [] pos) X.env = (do
      let ov ← eval o X.env
      standAt apos.atName
      let (f, first) ← holding [ov] (getMethod ov m pl)
      callWith pos f first (backTo pos (starEach (e :: es) X.env)) (backToKw pos (keywordEach [] X.env))) := by rfl) :
    DEX X W (.Call (.Attribute o m apos) (e :: es) [] pos) (tMethD X k m (WE W) xo t) (dMeth tbl m dob db) :=
  ⟨pe_methD (pl := pl) ho.1 hr (fun σ => passAt tk σ) ha.1 hst hpl ht, snd_meth T ho.2 ha.2⟩
theorem de_meth0 {k : Nat} {tbl : List (Addr × Sd)} {pl : Sem Bool} (T : TblOk X.prog X.w X.K X.mg X.base k m tbl) (tk : Takes X W) (hr : Room k X.A) (ho : DEX X W o xo dob)
    (ht : eval (.Call (.Attribute o m apos) [] [] pos) X.env = (do
      let ov ← eval o X.env
      standAt apos.atName
      let (f, first) ← holding [ov] (getMethod ov m pl)
      callWith pos f first (backTo pos (starEach [] X.env)) (backToKw pos (keywordEach [] X.env))) := by rfl) :
    DEX X W (.Call (.Attribute o m apos) [] [] pos) (tMethD X k m (WE W) xo tNil) (dMeth tbl m dob dNil) :=
  ⟨pe_methD0 (pl := pl) ho.1 hr (fun σ => passAt tk σ) ht, snd_meth T ho.2 (fun ρ Q E h l0 F H σ S Qc k _ => k [] [] F H (.refl S.bs) .nil h)⟩
end
end DW

set_option Elab.async false
set_option linter.all false
set_option maxRecDepth 100000
namespace DW
open PySem PySem.Spec PyProof.Rows L2
def putD (f : Str) (v : Dt) : List (Str × Dt) → List (Str × Dt)
  | [] => [(f, v)]
  | (g, x) :: r => if g = f then (g, v) :: r else (g, x) :: putD f v r
section
variable {K : PySem.W.Frag} {l0 : Addr} {F H : Hp} {σ : L2.St} {ρ : En}
theorem DenF.put {f : Str} {v : V} {d : Dt} (r : Den K l0 F v d) : ∀ {gs : List (Str × V)} {fs : List (Str × Dt)}, DenF K l0 F gs fs → DenF K l0 F (putF f v gs) (putD f d fs)
  | _, _, .nil => .cons r .nil
  | _, _, .cons (f := g) h t => by
    unfold putF putD
    by_cases q : g = f
    · rw [if_pos q, if_pos q]
      exact .cons r t
    · rw [if_neg q, if_neg q]
      exact .cons h (DenF.put r t)
theorem DenF.len : ∀ {gs : List (Str × V)} {fs : List (Str × Dt)}, DenF K l0 F gs fs → gs.length = fs.length
  | _, _, .nil => rfl
  | _, _, .cons _ t => congrArg (· + 1) (DenF.len t)
theorem Stt.oob {i : Nat} {p : Addr × Addr} {C : Addr} {fs : List (Str × Dt)} (S : Stt K l0 F H σ ρ) (h : ρ[i]? = some (.oob p C fs)) : ∃ gs, σ[i]? = some (some (.ref p.1)) ∧ F p.1 = none ∧ p.1 ≠ l0 ∧ H p.1 = some (.ins C p.2 gs) ∧ DenF K l0 F gs fs ∧ F p.2 = none ∧ p.2 ≠ l0 ∧ H p.2 = some (.own p.1) := by
  rcases S.sl i _ h with z | ⟨v, h1, a, dx, gs, e, h2, h3, h4, h5, h6, h7, h8, h9, h10⟩
  · cases z
  · subst e
    subst h6
    subst h7
    exact ⟨gs, h1, h2, h3, h4, h5, h8, h9, h10⟩
theorem Stt.mutI {i : Nat} {q : Addr × Addr} {C C' : Addr} {ys : List (Str × V)} {fs es : List (Str × Dt)} (S : Stt K l0 F H σ ρ) (hρ : ρ[i]? = some (.oob q C fs)) (r : DenF K l0 F ys es) :
    Stt K l0 F (upd H q.1 (.ins C' q.2 ys)) σ (ρ.set i (.oob q C' es)) ∧ GoS l0 F H σ ρ F (upd H q.1 (.ins C' q.2 ys)) ∧ OwS H σ ρ σ (ρ.set i (.oob q C' es)) := by
  obtain ⟨gs0, hσ, hF, n0, hH, _, w1, w2, w3⟩ := S.oob hρ
  obtain ⟨p, dx⟩ := q
  have ow : Ow σ ρ p := ⟨i, _, hρ, rfl, .inl hσ⟩
  have nF : ∀ a o, F a = some o → a ≠ p := fun a o h e => by
    rw [e, hF] at h
    cases h
  have bs : Base l0 F (upd H p (.ins C' dx ys)) := by
    refine ⟨fun a o h => ?_, S.bs.nf, ?_⟩
    · rw [upd_ne (nF a o h)]
      exact S.bs.sub a o h
    · obtain ⟨ns, h1, h2⟩ := S.bs.dr
      exact ⟨ns, by rw [upd_ne n0.symm]; exact h1, h2⟩
  refine ⟨⟨bs, by rw [List.length_set]; exact S.len, fun j s h => ?_, fun j k s t a h1 h2 ⟨o1, e1⟩ ⟨o2, e2⟩ => ?_⟩, ⟨bs, fun _ _ h => h, fun a h1 h2 => absurd h1 h2, fun a o _ h e => ?_⟩, fun a ⟨j, s, h1, h2, h3⟩ => ?_⟩
  · by_cases q : i = j
    · subst q
      rw [List.getElem?_set_self (lt_of_get hρ)] at h
      cases h
      exact .inr ⟨.ref p, hσ, p, dx, ys, rfl, hF, n0, upd_same, r, rfl, rfl, w1, w2, by rw [upd_ne (fun z => by rw [show dx = p from z] at w3; rw [hH] at w3; cases w3)]; exact w3⟩
    · rw [List.getElem?_set_ne q] at h
      rcases S.sl j s h with z | ⟨v, h1, h2⟩
      · exact .inl z
      · refine .inr ⟨v, h1, ?_⟩
        cases s with
        | emp => exact h2
        | dat d => exact h2
        | own ds' =>
          obtain ⟨l', xs', e', a1, a2, h3, a3⟩ := h2
          subst e'
          have ne : l' ≠ p := fun e => q (S.ap i j _ _ p hρ h rfl rfl hσ (by rw [h1, e]))
          exact ⟨l', xs', rfl, a1, a2, by rw [upd_ne ne]; exact h3, a3⟩
        | oob p0 C0 fs0 =>
          obtain ⟨l', dx', gs, e', a1, a2, h3, a3⟩ := h2
          subst e'
          have ne : l' ≠ p := fun e => q (S.ap i j _ _ p hρ h rfl rfl hσ (by rw [h1, e]))
          obtain ⟨a3, e1, e2, z1, z2, z3⟩ := a3
          have nd : dx' ≠ p := fun z => by rw [z, hH] at z3; cases z3
          exact ⟨l', dx', gs, rfl, a1, a2, by rw [upd_ne ne]; exact h3, a3, e1, e2, z1, z2, by rw [upd_ne nd]; exact z3⟩
        | odc kvs =>
          obtain ⟨l', xs', e', a1, a2, h3, a3⟩ := h2
          subst e'
          have ne : l' ≠ p := fun e => q (S.ap i j _ _ p hρ h rfl rfl hσ (by rw [h1, e]))
          exact ⟨l', xs', rfl, a1, a2, by rw [upd_ne ne]; exact h3, a3⟩
        | tre t =>
          obtain ⟨r, nd, n⟩ := h2
          have ne : ∀ a ∈ t.ads, a ≠ p := fun a m e => q (S.ap2 i j _ _ p hρ h ⟨rfl, .inl hσ⟩ ⟨rfl, .inr (by rw [← e]; exact m)⟩)
          exact ⟨r.frm (fun _ _ e => e) (fun a m => (r.liv a m).1) fun a m o e => by rw [upd_ne (ne a m)]; exact e, nd, n⟩
  · have back : ∀ {j : Nat} {s : Sl}, (ρ.set i (.oob (p, dx) C' es))[j]? = some s → s.owns σ[j]? a → ∃ s', ρ[j]? = some s' ∧ s'.owns σ[j]? a := fun {j s} h o => by
      by_cases q : i = j
      · subst q
        rw [List.getElem?_set_self (lt_of_get hρ)] at h
        cases h
        exact ⟨_, hρ, rfl, o.2⟩
      · rw [List.getElem?_set_ne q] at h
        exact ⟨s, h, o⟩
    obtain ⟨s', z1, z2⟩ := back h1 ⟨o1, e1⟩
    obtain ⟨t', z3, z4⟩ := back h2 ⟨o2, e2⟩
    exact S.ap2 j k s' t' a z1 z3 z2 z4
  · rw [upd_ne (fun z => h (by rw [z]; exact ow))]
    exact e
  · by_cases q : i = j
    · subst q
      rw [List.getElem?_set_self (lt_of_get hρ)] at h1
      cases h1
      exact .inl ⟨i, _, hρ, rfl, h3⟩
    · rw [List.getElem?_set_ne q] at h1
      exact .inl ⟨j, s, h1, h2, h3⟩
end
def dFld (cs : List Addr) (i : Nat) (f : Str) (de : DE) : DS := fun D ρ => de ρ (datS fun d => ∃ p C fs, ρ[i]? = some (.oob p C fs) ∧ C ∈ cs ∧ fs.length < 1000 ∧ D.nx (ρ.set i (.oob p C (putD f d fs)))) fun x => D.ex x ρ
theorem ds_fld {X : Cx} {W : WX} {value : Expr} {te : TE} {de : DE} {cs : List Addr} {f : Str} (c : AtOk X.K cs f) (i : Nat) {y : Str} {p1 p2 pos : Pos} (hv : DEX X W value te de) (hN : X.N[i]? = some y := by rfl) (hvis : Vis X.env.scope y := by first | exact Or.inl rfl | exact Or.inr (Or.inl rfl) | exact Or.inr (Or.inr rfl))
    (hd : (y == ("__debug__" : Str)) = false := by decide) (hcd : (y == ("__classdict__" : Str)) = false := by decide) (hs : swapsWith value (some (.Attribute (.Name y p1) f p2)) pos.line X.env = pure false := by rfl) :
    DSX X W (.Assign [.Attribute (.Name y p1) f p2] value pos) (sFld X.K (tVar i) te f) (dFld cs i f de) := by
  refine ⟨ps_fld (pe_var hN hvis hd hcd) hv.1 hs, fun D ρ h l0 F H σ S C L => ?_⟩
  refine hv.2 ρ _ _ h l0 F H σ S _ (fun v s F1 H1 g1 r1 q1 => ?_) (L.kx S)
  obtain ⟨d, e, q1⟩ := datS_of q1
  subst e
  obtain ⟨p, Cl, fs, hρ, hm, hl, q⟩ := q1
  have S1 := S.go g1
  obtain ⟨gs, hσ, hF, n0, hH, r, _⟩ := S1.oob hρ
  obtain ⟨S2, g2, w2⟩ := S1.mutI (C' := Cl) hρ (DenF.put (f := f) r1 r)
  refine ⟨.ref p.1, hσ, p.1, Cl, p.2, gs, rfl, hH, (c Cl hm).1, (c Cl hm).2, by rw [r.len]; exact hl, ?_⟩
  exact (L.trans S.bs (.of g1) .refl).nx F1 _ σ _ g2 w2 S2 q
structure GoI (l0 x : Addr) (F H F' H' : Hp) : Prop where
  bs : Base l0 F' H'
  ex : Same F F'
  new : ∀ a, F a = none → F' a ≠ none → H a = none ∨ a = x
  keep : ∀ a o, a ≠ l0 → a ≠ x → H a = some o → H' a = some o
def spIn (K : PySem.W.Frag) (C : Addr) (sd : Sd) : Sp := fun vs H Q E => ∃ x us l0 F ds Qd Ed dx, vs = V.ref x :: us ∧ Base l0 F H ∧ F x = none ∧ x ≠ l0 ∧ H x = some (.ins C dx []) ∧ (F dx = none ∧ dx ≠ l0 ∧ H dx = some (.own x)) ∧ Dens K l0 F us ds ∧ sd ds Qd Ed ∧
  (∀ gs fs dx' F' H', GoI l0 x F H F' H' → F' x = none → H' x = some (.ins C dx' fs) → DenF K l0 F' fs gs → Qd (.obj C gs) → Q .non H') ∧ (∀ cls dct xn F' H', GoI l0 x F H F' H' → XDen K l0 F' H' cls dct xn → Ed xn → E cls dct H')
def startI (p : Addr × Addr) (C : Addr) (n : Nat) (ds : List Dt) : En := .oob p C [] :: startD (n - 1) ds
def dEndsI (p : Addr × Addr) (C : Addr) (Q : Dt → Prop) (E : Xn → Prop) : DEnds := { nx := fun ρ => ∃ gs, ρ[0]? = some (.oob p C gs) ∧ Q (.obj C gs), rt := fun _ => False, bk := fun _ => False, ct := fun _ => False, ex := fun x _ => E x }
theorem startD_plain {n : Nat} {ds : List Dt} {i : Nat} {s : Sl} (h : (startD n ds)[i]? = some s) (o : s.isOwn = true) : False := by
  unfold startD at h
  by_cases z : i < ds.length
  · rw [List.getElem?_append_left (by rw [List.length_map]; exact z), List.getElem?_map] at h
    cases e : ds[i]? with
    | none => rw [e] at h; cases h
    | some d =>
      rw [e] at h
      cases h
      cases o
  · rw [List.getElem?_append_right (by rw [List.length_map]; omega)] at h
    have := List.mem_of_getElem? h
    rw [List.eq_of_mem_replicate this] at o
    cases o
section
variable {K : PySem.W.Frag} {l0 : Addr} {F H : Hp}
theorem Stt.startI {N : List Str} {y : Str} {x C dx : Addr} {vs : List V} {ds : List Dt} (b : Base l0 F H) (hF : F x = none) (n0 : x ≠ l0) (hH : H x = some (.ins C dx [])) (hd : F dx = none ∧ dx ≠ l0 ∧ H dx = some (.own x)) (r : Dens K l0 F vs ds) : Stt K l0 F H (L2.start (y :: N) (.ref x :: vs)) (DW.startI (x, dx) C (y :: N).length ds) := by
  have S0 := Stt.start (N := N) b r
  have e1 : L2.start (y :: N) (.ref x :: vs) = some (.ref x) :: L2.start N vs := by
    unfold L2.start
    simp
  have e2 : DW.startI (x, dx) C (y :: N).length ds = .oob (x, dx) C [] :: startD N.length ds := rfl
  rw [e1, e2]
  refine ⟨b, by rw [List.length_cons, List.length_cons, S0.len], fun i s h => ?_, fun i j s t a h1 h2 ⟨o1, z1⟩ ⟨o2, z2⟩ => ?_⟩
  · cases i with
    | zero =>
      cases h
      exact .inr ⟨.ref x, rfl, x, dx, [], rfl, hF, n0, hH, .nil, rfl, rfl, hd⟩
    | succ i => exact S0.sl i s h
  · cases i with
    | zero =>
      cases j with
      | zero => rfl
      | succ j => exact (startD_plain h2 o2).elim
    | succ i => exact (startD_plain h1 o1).elim
theorem startI_ow {N : List Str} {y : Str} {x dx C : Addr} {vs : List V} {ds : List Dt} {a : Addr} (h : Ow (L2.start (y :: N) (.ref x :: vs)) (DW.startI (x, dx) C (y :: N).length ds) a) : a = x := by
  obtain ⟨i, s, h1, h2, h3⟩ := h
  cases i with
  | zero =>
    have e1 : L2.start (y :: N) (.ref x :: vs) = some (.ref x) :: L2.start N vs := by
      unfold L2.start
      simp
    rw [e1] at h3
    cases h1
    rcases h3 with h3 | h3
    · cases h3
      rfl
    · exact nomatch h3
  | succ i => exact (startD_plain h1 h2).elim
end
theorem fn_dIn {P : Program} {w : World} {K : PySem.W.Frag} {mg : Str → Option Value} {base : Heap} {x y qual : Str} {params : Arguments} {body : List Stmt} {scope : Scope} {dvs : List V} {kws : List (Str × V)} {f C : Addr} {fd : FuncData} {N ps : List Str} {k : Nat} {sd : Sd} {ds : DS}
    (F : FunD K x qual params body scope dvs kws f fd) (S : FnScope (y :: N) ps scope) (len : ∀ as Q E, sd as Q E → as.length + 1 = ps.length)
    (hb : ∀ (cdv : Value) (A : Around) (outer : List Env) (s : Shared) (H : Hp) (E : XK), Room k (A.deeper (envOfC qual scope s.heap.objs.size f cdv)) →
      ∃ ts, DSSX (cxOf (L2.CX P w) P w K mg base (y :: N) qual scope f cdv A outer s H E) (fun cls d _ H => E cls d H) body ts ds)
    (hp : ∀ p as Q E, sd as Q E → ds (dEndsI p C Q E) (DW.startI p C (y :: N).length as)) : FnOk P w K mg base (L2.CX P w) (k + 1) f fd ps (spIn K C sd) := by
  refine F.ok S (fun vs H Q E h => ?_) fun cdv A outer s H vs Q E hr h => ?_
  · obtain ⟨x, us, l0, F, as, Qd, Ed, dx, e, b, hF, n0, hH, hd, r, h, _, _⟩ := h
    rw [e, List.length_cons, r.length]
    exact len as Qd Ed h
  · obtain ⟨x, us, l0, F, as, Qd, Ed, dx, e, b, hF, n0, hH, hd, r, h, hq, he⟩ := h
    subst e
    obtain ⟨ts, p, sd⟩ := hb cdv A outer s H E hr
    have toI : ∀ {F' H'}, GoS l0 F H (L2.start (y :: N) (.ref x :: us)) (DW.startI (x, dx) C (y :: N).length as) F' H' → GoI l0 x F H F' H' := fun g =>
      ⟨g.bs, g.ex, fun a h1 h2 => (g.new a h1 h2).imp id startI_ow, fun a o n1 n2 e => g.keep a o n1 (fun z => n2 (startI_ow z)) e⟩
    refine ⟨ts, p, sd _ _ (hp (x, dx) as Qd Ed h) l0 F H _ (Stt.startI b hF n0 hH hd r) _ ⟨fun F' H' σ' ρ' g w S' q => ?_, fun F' H' v d g r q => q.elim, fun F' H' σ' ρ' g w S' q => q.elim, fun F' H' σ' ρ' g w S' q => q.elim, fun cls d x F' H' σ' ρ' g w S' r q => ?_, fun F' H' σ' ρ' v d g w S' r q => q.elim⟩⟩
    · obtain ⟨gs, h0, q⟩ := q
      obtain ⟨fs, _, z1, _, z3, z4, _⟩ := S'.oob h0
      exact hq gs fs dx F' H' (toI g) z1 z3 z4 q
    · exact he cls d x F' H' (toI g) r q
section
variable {X : Cx} {W : WX} {e : Expr} {pos : Pos}
theorem run_makeS {CX : CXT} {k : Nat} {C f : Addr} {fd : FuncData} {ps : List Str} {sp : Sp} {E : L2.St → XK} {pins : List (Addr × Obj)} {σ : L2.St} {H : Hp} {s : Shared} {Q : VK} {us : List Value} {vs : List V} (M : Mk X.K C f) (F : FnOk X.prog X.w X.K X.mg X.base CX k f fd ps sp) (hr : Room (k + 1) X.A) (hb : Binds X.K fd ps [])
    (hx : PassesAt CX X σ (E σ)) (I : Inv X pins σ H s) (r : Vals vs us)
    (h : ∀ x dx, H x = none → H dx = none → dx ≠ x → sp (.ref x :: vs) (upd (upd H dx (.own x)) x (.ins C dx [])) (fun v H2 => v = .non ∧ Q (.ref x) H2) (E σ)) :
    wpAny (model X.prog X.w) X.A (call (.ref C) us) (EP X pins σ Q) X.xe s := by
  have hq := h (s.heap.objs.size + 1) s.heap.objs.size (I.hok.fresh (Nat.le_succ _)) (I.hok.fresh (Nat.le_refl _)) (Nat.ne_of_lt (Nat.lt_succ_self _))
  have I2 := Inv.made (C := C) I
  have r2 : Vals (V.ref (s.heap.objs.size + 1) :: vs) (Value.ref (s.heap.objs.size + 1) :: us) := .cons rfl r
  have hl : (Value.ref (s.heap.objs.size + 1) :: us).length = ps.length := by
    have e := r2.length
    rw [F.len _ _ _ _ hq] at e
    exact e.symm
  have b := hb _ (Value.ref (s.heap.objs.size + 1) :: us) I2.kIn (by rw [List.append_nil]; exact hl)
  rw [List.append_nil] at b
  refine wpAny_call (make_map (f := f) I.kIn M.makes M.init (beq_iff_eq.mp M.fn) (codeAny_mono (F.run _ X.stack _ _ ⟨Value.ref (s.heap.objs.size + 1) :: us, []⟩ (Value.ref (s.heap.objs.size + 1) :: us) _ _ (E σ) (hr.make C us [])
    (I2.env0.make C us []) b r2 hq) fun r s' hq' => ?_))
  cases r with
  | error e => exact hx pins _ _ e s' I2 hq'
  | ok fl =>
    cases fl with
    | ret u =>
      obtain ⟨v, H', I3, rv, ev, q3⟩ := I2.after hq'
      subst ev
      exact ⟨rv, ⟨V.ref (s.heap.objs.size + 1), H', I3, rfl, q3⟩⟩
    | next => exact False.elim hq'
    | brk => exact False.elim hq'
    | cont => exact False.elim hq'
def tMakeS (C : Addr) (sp : Sp) (E : L2.St → XK) (t : TA) : TE := fun σ H Q => t σ H fun vs H1 => ∀ x dx, H1 x = none → H1 dx = none → dx ≠ x → sp (.ref x :: vs) (upd (upd H1 dx (.own x)) x (.ins C dx [])) (fun v H2 => v = .non ∧ Q (.ref x) H2) (E σ)
theorem pe_makeS {CX : CXT} {k : Nat} {C f : Addr} {fd : FuncData} {ps : List Str} {sp : Sp} {E : L2.St → XK} {x : Str} {p : Pos} {es : List Expr} {t : TA} (M : Mk X.K C f) (F : FnOk X.prog X.w X.K X.mg X.base CX k f fd ps sp) (hr : Room (k + 1) X.A) (hg : Gl X x) (hm : X.mg x = some (.ref C)) (hb : Binds X.K fd ps []) (hx : ∀ σ, PassesAt CX X σ (E σ))
    (ha : PA X (e :: es) t) (hdb : (x == ("__debug__" : Str)) = false := by decide) (he : starEach (e :: es) X.env = (false, eval e X.env) :: starEach es X.env := by rfl) (hpl : (backTo pos (starEach es X.env)).any (·.1) = false := by rfl) :
    PE X (.Call (.Name x p) (e :: es) [] pos) (tMakeS C sp E t) := by
  refine ⟨fun pins s σ H Q I h => ?_⟩
  refine wpAny_Call_Name_kw (ld_glob I hg hm ?_ hdb)
  refine PySem.W.callWith_K (h₀ := X.base) I.ok.mod.kin M.kp (thn (ha.run pos pins s σ H _ I h) fun us s1 ⟨vs, H1, I1, r, q⟩ => ⟨I1.kIn, ?_⟩) he hpl
  exact run_makeS M F hr hb (hx σ) I1 r q
def dMake (sd : Sd) (da : DA) : DE := fun ρ Q E => da ρ (fun ss => plain ss fun ds => sd ds (fun d => Q (.dat d)) E) E
theorem snd_make {C : Addr} {sd : Sd} {t : TA} {da : DA} (sa : SndA X.K W t da) : SndE X.K W (tMakeS C (spIn X.K C sd) (WE W) t) (dMake sd da) := fun ρ Q E q l0 F H σ S Qc kk kx => by
  refine sa ρ _ E q l0 F H σ S _ (fun vs ss F1 H1 g1 r1 q1 => ?_) kx
  obtain ⟨ds, e, q2⟩ := plain_of q1
  subst e
  intro x dx hx hdx hne
  have b := g1.bs
  have gl : Go l0 F1 H1 F1 (upd (upd H1 dx (.own x)) x (.ins C dx [])) := by
    have ga := Go.loose b (.own x) hdx
    exact ga.trans (Go.loose ga.bs (.ins C dx []) (by rw [upd_ne (Ne.symm hne)]; exact hx))
  have nF : F1 x = none := by
    cases e : F1 x with
    | none => rfl
    | some o => rw [b.sub x o e] at hx; cases hx
  have n0 : x ≠ l0 := fun e => b.live (by rw [← e]; exact hx)
  -- what stood before still stands
  have keepAll : ∀ {F' H'}, GoI l0 x F1 (upd (upd H1 dx (.own x)) x (.ins C dx [])) F' H' → ∀ a o, a ≠ l0 → H1 a = some o → H' a = some o := fun {F' H'} g a o na e => by
    have nx : a ≠ x := fun z => by rw [z, hx] at e; cases e
    exact g.keep a o na nx (gl.keep a o na e)
  have newAll : ∀ {F' H'}, GoI l0 x F1 (upd (upd H1 dx (.own x)) x (.ins C dx [])) F' H' → ∀ a, F1 a = none → F' a ≠ none → H1 a = none := fun {F' H'} g a h1 h2 => by
    rcases g.new a h1 h2 with z | z
    · cases e : H1 a with
      | none => rfl
      | some o =>
        by_cases n : a = l0
        · subst n
          exact absurd z gl.bs.live
        · rw [gl.keep a o n e] at z
          cases z
    · rw [z]
      exact hx
  have nFd : F1 dx = none := by
    cases e : F1 dx with
    | none => rfl
    | some o => rw [b.sub dx o e] at hdx; cases hdx
  have n0d : dx ≠ l0 := fun e => b.live (by rw [← e]; exact hdx)
  refine ⟨x, vs, l0, F1, ds, _, E, dx, rfl, gl.bs, nF, n0, upd_same, ⟨nFd, n0d, by rw [upd_ne hne, upd_same]⟩, dens_of r1, q2, fun gs fs dx' F' H' g z1 z3 z4 q => ⟨rfl, ?_⟩, fun cls dct xn F' H' g r q => ?_⟩
  · have ex : Same F' (upd F' x (.ins C dx' fs)) := fun a o e => by
      rw [upd_ne (ne_of_none e z1)]
      exact e
    have go : Go l0 F1 H1 (upd F' x (.ins C dx' fs)) H' := by
      refine ⟨⟨fun a o e => ?_, by rw [upd_ne n0.symm]; exact g.bs.nf, g.bs.dr⟩, fun a o e => ex a o (g.ex a o e), fun a h1 h2 => ?_, keepAll g⟩
      · by_cases w : a = x
        · subst w
          rw [upd_same] at e
          cases e
          exact z3
        · rw [upd_ne w] at e
          exact g.bs.sub a o e
      · by_cases w : a = x
        · rw [w]
          exact hx
        · rw [upd_ne w] at h2
          exact newAll g a h1 h2
    exact kk (.ref x) (.dat (.obj C gs)) _ H' (g1.trans go) (Den.obj upd_same (DenF.mono ex z4)) q
  · have go : Go l0 F1 H1 F' H' := ⟨g.bs, g.ex, newAll g, keepAll g⟩
    exact kx cls dct xn F' H' (g1.trans go) r q
def MakeOk (P : Program) (w : World) (K : PySem.W.Frag) (mg : Str → Option Value) (base : Heap) (k : Nat) (x : Str) (C : Addr) (sd : Sd) : Prop := ∃ (f : Addr) (fd : FuncData) (ps : List Str), Mk K C f ∧ FnOk P w K mg base (L2.CX P w) k f fd ps (spIn K C sd) ∧ mg x = some (.ref C) ∧ Binds K fd ps []
theorem de_make {k : Nat} {C : Addr} {sd : Sd} {x : Str} {p : Pos} {es : List Expr} {t : TA} {da : DA} (M : MakeOk X.prog X.w X.K X.mg X.base k x C sd) (tk : Takes X W) (hr : Room (k + 1) X.A) (hg : Gl X x) (ha : DAX X W (e :: es) t da)
    (hdb : (x == ("__debug__" : Str)) = false := by decide) (he : starEach (e :: es) X.env = (false, eval e X.env) :: starEach es X.env := by rfl) (hpl : (backTo pos (starEach es X.env)).any (·.1) = false := by rfl) :
    DEX X W (.Call (.Name x p) (e :: es) [] pos) (tMakeS C (spIn X.K C sd) (WE W) t) (dMake sd da) := by
  obtain ⟨f, fd, ps, m, F, hm, hb⟩ := M
  exact ⟨pe_makeS m F hr hg hm hb (fun σ => passAt tk σ) ha.1 hdb he hpl, snd_make ha.2⟩
end
end DW

set_option Elab.async false
set_option linter.all false
set_option maxRecDepth 100000
namespace DW
open PySem PySem.Spec PyProof.Rows L2
structure IsC (K : PySem.W.Frag) (C : Addr) : Prop where
  cl : Cls K C
  ha : PySem.W.findIn K (.ref C) "__class__" = some (some (.builtin "object.__class__"))
  hn : PySem.W.specialIn K (.builtin "object.__class__") "__get__" = some (some (.builtin "getset_descriptor.__get__"))
  tk : PySem.W.takesIn K (.builtin "object.__class__") = some true
  hm : PySem.W.mroIn K C (.type "object") = some true
structure IsTbl (K : PySem.W.Frag) (D : Addr) (tbl : List (Addr × Bool)) : Prop where
  own : ∀ r ∈ tbl, IsC K r.1 ∧ PySem.W.kitOne K (.ref r.1) (.ref D) = some r.2
  pl : ∀ t : Ty6, PySem.W.kitOne K (.type t.nm) (.ref D) = some false
section
variable {K : PySem.W.Frag} {W : WX} {X : Cx}
theorem de_clsn {x : Str} {p : Pos} {D : Addr} (hg : Gl X x) (hm : X.mg x = some (.ref D)) (hd : (x == ("__debug__" : Str)) = false := by decide) : DEX X W (.Name x p) (tC (.ref D)) (dC (.ref D)) := de_pe (pe_glob hg hm rfl hd)
end
def isCb (K : PySem.W.Frag) (C : Addr) : Bool := He.eqO (PySem.W.findIn K (.ref C) "__class__") (some (some (.builtin "object.__class__"))) && (He.eqO (PySem.W.specialIn K (.builtin "object.__class__") "__get__") (some (some (.builtin "getset_descriptor.__get__"))) && (decide (PySem.W.takesIn K (.builtin "object.__class__") = some true) && decide (PySem.W.mroIn K C (.type "object") = some true)))
theorem isCb_ok {K : PySem.W.Frag} {C : Addr} (cl : Cls K C) (h : isCb K C = true) : IsC K C := by
  unfold isCb at h
  obtain ⟨h1, h2⟩ := He.ba h
  obtain ⟨h2, h3⟩ := He.ba h2
  obtain ⟨h3, h4⟩ := He.ba h3
  exact ⟨cl, He.eqO_ok h1, He.eqO_ok h2, of_decide_eq_true h3, of_decide_eq_true h4⟩
end DW

set_option Elab.async false
set_option linter.all false
set_option maxRecDepth 100000
namespace DW
open PySem PySem.Spec PyProof.Rows L2
end DW

set_option Elab.async false
set_option linter.all false
set_option maxRecDepth 100000
namespace DW
open PySem PySem.Spec PyProof.Rows L2
structure Mk0 (K : PySem.W.Frag) (C : Addr) : Prop where
  makes : PySem.W.makesIn K C = true
  init : PySem.W.findIn K (.ref C) "__init__" = some (some (.builtin "object.__init__"))
  top : PySem.W.mroIn K C (.type "object") = some true
  kp : PySem.W.keepIn K (.ref C) = true
section
variable {X : Cx} {W : WX} {pos : Pos}
theorem run_bare {C : Addr} {pins : List (Addr × Obj)} {σ : L2.St} {H : Hp} {s : Shared} {Q : VK} (M : Mk0 X.K C) (I : Inv X pins σ H s)
    (h : ∀ x dx, H x = none → H dx = none → dx ≠ x → Q (.ref x) (upd (upd H dx (.own x)) x (.ins C dx []))) : wpAny (model X.prog X.w) X.A (call (.ref C) []) (EP X pins σ Q) X.xe s := by
  have hq := h (s.heap.objs.size + 1) s.heap.objs.size (I.hok.fresh (Nat.le_succ _)) (I.hok.fresh (Nat.le_refl _)) (Nat.ne_of_lt (Nat.lt_succ_self _))
  have I2 := Inv.made (C := C) I
  have e2 : ((s.heap.push PySem.W.emptyDict).push (PySem.W.instObj C s.heap.objs.size)).get? (s.heap.objs.size + 1) = some (PySem.W.instObj C s.heap.objs.size) := by
    have := Heap.get?_push_size (s.heap.push PySem.W.emptyDict) (o := PySem.W.instObj C s.heap.objs.size) rfl
    rwa [Heap.size_push] at this
  refine wpAny_call (make_map0 I.kIn M.makes M.init (fun self => PySem.W.Looks.of_pure (PySem.W.oi_bind _)) ?_)
  have t1 : PySem.W.Looks (model X.prog X.w) ((s.heap.push PySem.W.emptyDict).push (PySem.W.instObj C s.heap.objs.size)) (typeOf (.ref (s.heap.objs.size + 1))) (.ref C) := NwA.type_at e2 rfl
  have t2 : PySem.W.Looks (model X.prog X.w) ((s.heap.push PySem.W.emptyDict).push (PySem.W.instObj C s.heap.objs.size)) (isInstance (.ref (s.heap.objs.size + 1)) (.type "object")) true := t1.andThen (PySem.W.looks_mroIn I2.kIn M.top)
  refine codeAny_call_builtin PySem.W.oi_plain PySem.W.entry_oi (@PySem.W.check_slot (model X.prog X.w) _ _ _ "object.__init__" "object" "__init__" (.ref (s.heap.objs.size + 1)) [] [] _ PySem.W.oi_kind PySem.W.oi_split t2 (PySem.W.oi_args _) ?_)
  rw [PySem.W.oi_run]
  exact wpAny_pure ⟨rfl, ⟨V.ref (s.heap.objs.size + 1), _, I2, rfl, hq⟩⟩
def tBare (C : Addr) : TE := fun _ H Q => ∀ x dx, H x = none → H dx = none → dx ≠ x → Q (.ref x) (upd (upd H dx (.own x)) x (.ins C dx []))
theorem pe_bare {C : Addr} {x : Str} {p : Pos} (M : Mk0 X.K C) (hg : Gl X x) (hm : X.mg x = some (.ref C)) (hdb : (x == ("__debug__" : Str)) = false := by decide) : PE X (.Call (.Name x p) [] [] pos) (tBare C) := by
  refine ⟨fun pins s σ H Q I h => ?_⟩
  refine wpAny_Call_Name_kw (ld_glob I hg hm ?_ hdb)
  exact PySem.W.callWith_K0 I.kIn M.kp (run_bare M I h)
def dBare (C : Addr) : DE := fun _ Q _ => Q (.dat (.obj C []))
theorem de_bare {C : Addr} {x : Str} {p : Pos} (M : Mk0 X.K C) (hg : Gl X x) (hm : X.mg x = some (.ref C)) (hdb : (x == ("__debug__" : Str)) = false := by decide) : DEX X W (.Call (.Name x p) [] [] pos) (tBare C) (dBare C) :=
  ⟨pe_bare M hg hm hdb, fun ρ Q E q l0 F H σ S Qc k kx => by
    intro x dx hx hdx hne
    have b := S.bs
    have ga := Go.loose b (.own x) hdx
    have gb := Go.fresh (p := x) ga.bs (.ins C dx []) (by rw [upd_ne (Ne.symm hne)]; exact hx)
    exact k (.ref x) (.dat (.obj C [])) _ _ (ga.trans gb) (Den.obj upd_same .nil) q⟩
end
end DW

set_option Elab.async false
set_option linter.all false
set_option maxRecDepth 100000
namespace DW
open PySem PySem.Spec PyProof.Rows L2
theorem mok_by {P : Program} {w : World} {K : PySem.W.Frag} {mg : Str → Option Value} {base : Heap} {x qual m : Str} {st : Stmt} {N ps : List Str} {k : Nat} {sd : Sd} {ds : DS} {C f : Addr} {fd : FuncData} (F : FunD K x qual (defArgs st) (defBody st) (defScope st) [] [] f fd) (cl : Cls K C) (hm : Meth K C m f) (S : FnScope N ps (defScope st)) (len : ∀ as Q E, sd as Q E → as.length = ps.length)
    (hbd : ∀ (kV doc pm : Value) (an : Option Addr) (cdv ct : Value) (us : List Value), us.length = ps.length → bindArgs (PySem.W.fnOf x qual (defArgs st) (defBody st) (defScope st) .none kV doc pm an cdv ct) ⟨us, []⟩ = pure (ps.zip us))
    (hb : ∀ (X : Cx) (W : WX) (f : Addr) (cdv : Value) (A : Around) (outer : List Env) (s : Shared) (H : Hp) (E : XK), X = cxOf (L2.CX P w) P w K mg base N qual (defScope st) f cdv A outer s H E → W = WX0 E → Takes (cxOf (L2.CX P w) P w K mg base N qual (defScope st) f cdv A outer s H E) (WX0 E) → PassesOwn (model P w) (cxOf (L2.CX P w) P w K mg base N qual (defScope st) f cdv A outer s H E).A (cxOf (L2.CX P w) P w K mg base N qual (defScope st) f cdv A outer s H E).env (cxOf (L2.CX P w) P w K mg base N qual (defScope st) f cdv A outer s H E).xe →
      Room k (cxOf (L2.CX P w) P w K mg base N qual (defScope st) f cdv A outer s H E).A → (cxOf (L2.CX P w) P w K mg base N qual (defScope st) f cdv A outer s H E).A.units + 64 < cLine → N.Nodup →
      ∃ ts, DSSX (cxOf (L2.CX P w) P w K mg base N qual (defScope st) f cdv A outer s H E) (WX0 E) (defBody st) ts ds)
    (hp : ∀ as Q E, sd as Q E → ds (dEnds Q E) (startD N.length as)) : MOk P w K mg base (k + 1) m C sd :=
  ⟨f, fd, ps, cl, hm, fn_d F S len (fun cdv A outer s H E hr => hb _ _ f cdv A outer s H E rfl rfl tk_cx po_cx hr hr.units S.nd) hp, FunD.bindsN F (fun kV doc pm an cdv ct us hl => hbd kV doc pm an cdv ct us hl)⟩
theorem mfn_by {P : Program} {w : World} {K : PySem.W.Frag} {mg : Str → Option Value} {base : Heap} {x qual : Str} {st : Stmt} {N ps : List Str} {k : Nat} {sd : Sd} {ds : DS} {f : Addr} {fd : FuncData} (F : FunD K x qual (defArgs st) (defBody st) (defScope st) [] [] f fd) (S : FnScope N ps (defScope st)) (len : ∀ as Q E, sd as Q E → as.length = ps.length)
    (hbd : ∀ (kV doc pm : Value) (an : Option Addr) (cdv ct : Value) (us : List Value), us.length = ps.length → bindArgs (PySem.W.fnOf x qual (defArgs st) (defBody st) (defScope st) .none kV doc pm an cdv ct) ⟨us, []⟩ = pure (ps.zip us))
    (hb : ∀ (X : Cx) (W : WX) (f : Addr) (cdv : Value) (A : Around) (outer : List Env) (s : Shared) (H : Hp) (E : XK), X = cxOf (L2.CX P w) P w K mg base N qual (defScope st) f cdv A outer s H E → W = WX0 E → Takes (cxOf (L2.CX P w) P w K mg base N qual (defScope st) f cdv A outer s H E) (WX0 E) → PassesOwn (model P w) (cxOf (L2.CX P w) P w K mg base N qual (defScope st) f cdv A outer s H E).A (cxOf (L2.CX P w) P w K mg base N qual (defScope st) f cdv A outer s H E).env (cxOf (L2.CX P w) P w K mg base N qual (defScope st) f cdv A outer s H E).xe →
      Room k (cxOf (L2.CX P w) P w K mg base N qual (defScope st) f cdv A outer s H E).A → (cxOf (L2.CX P w) P w K mg base N qual (defScope st) f cdv A outer s H E).A.units + 64 < cLine → N.Nodup →
      ∃ ts, DSSX (cxOf (L2.CX P w) P w K mg base N qual (defScope st) f cdv A outer s H E) (WX0 E) (defBody st) ts ds)
    (hp : ∀ as Q E, sd as Q E → ds (dEnds Q E) (startD N.length as)) : FnOk P w K mg base (L2.CX P w) (k + 1) f fd ps (spOf K sd) ∧ Binds K fd ps [] :=
  ⟨fn_d F S len (fun cdv A outer s H E hr => hb _ _ f cdv A outer s H E rfl rfl tk_cx po_cx hr hr.units S.nd) hp, FunD.bindsN F (fun kV doc pm an cdv ct us hl => hbd kV doc pm an cdv ct us hl)⟩
end DW

set_option Elab.async false
set_option linter.all false
set_option maxRecDepth 100000
namespace DW
open PySem PySem.Spec PyProof.Rows L2 NdefX ClX
structure FunX (P : Program) (K : PySem.W.Frag) (F : NF) (D f : Addr) (fd : FuncData) : Prop where
  ex : ∃ (oc : Value) (od : Option Addr) (kV doc pm : Value) (an : Option Addr) (ct : Value) (osl : Array (Option Value)), fd = PySem.W.fnX F.name F.qual F.params F.body F.scope F.cl .none kV doc pm an (.ref F.c) ct ∧ K.lookup f = some ⟨oc, od, .func fd, osl⟩
  code : PySem.W.codeIn K (.ref F.c) F.qual = true
  file : ∃ (cc : Value) (cd : Option Addr) (vs : Array Value) (sl : Array (Option Value)) (fl : Str) (tf : Tok), K.lookup F.c = some ⟨cc, cd, .fields vs, sl⟩ ∧ vs[2]? = some (.str fl tf) ∧ ((P.main.file : Str) == fl) = true
  cell : ∃ c : Addr, F.cl = [(("__class__" : Str), c)] ∧ ∃ (cv : Value) (cd : Option Addr) (sl : Array (Option Value)), K.lookup c = some ⟨cv, cd, .cell (some (.ref D)), sl⟩
  cls : ∃ cd, PySem.W.clsIn K D = some cd
  sup : PySem.W.nsIn K mainGlobals "super" = some none
  kp : PySem.W.keepIn K (.ref f) = true
  top : (P.main.scope.names.lookup ("super" : Str)).isSome = false
def PSsA (X : Cx) (b : List Stmt) (l : List Stmt) (t : TS) : Prop := ∀ (pins : List (Addr × Obj)) (s : Shared) (σ : L2.St) (H : Hp) (D : Ends), Inv X pins σ H s → t D σ H → PySem.wpAt (model X.prog X.w) X.A (.func b X.env) (execs l X.env) (SP X pins D) X.xe s
def PSA (X : Cx) (b : List Stmt) (st : Stmt) (t : TS) : Prop := ∀ (pins : List (Addr × Obj)) (s : Shared) (σ : L2.St) (H : Hp) (D : Ends), Inv X pins σ H s → t D σ H → PySem.wpAt (model X.prog X.w) X.A (.func b X.env) (exec st X.env) (SP X pins D) X.xe s
def PEA (X : Cx) (b : List Stmt) (e : Expr) (t : TE) : Prop := ∀ (pins : List (Addr × Obj)) (s : Shared) (σ : L2.St) (H : Hp) (Q : VK), Inv X pins σ H s → t σ H Q → PySem.wpAt (model X.prog X.w) X.A (.func b X.env) (eval e X.env) (EP X pins σ Q) X.xe s
section
variable {X : Cx} {b l : List Stmt} {st : Stmt} {e : Expr} {t u : TS} {te : TE} {pos : Pos}
theorem pssa_of (h : PSs X l t) : PSsA X b l t := fun pins s σ H D I q => wpAt_of_wpAny (h.run pins s σ H D I q)
theorem psa_of (h : PS X st t) : PSA X b st t := fun pins s σ H D I q => wpAt_of_wpAny (h.run pins s σ H D I q)
theorem pssa_cons (h : PSA X b st t) (k : PSsA X b l u) : PSsA X b (st :: l) (tSeq t u) := fun pins s σ H D I q => by
  refine ks_wpAt_execs_cons (ks_wpAt_mono (h pins s σ H { D with nx := u D } I q) (fun fl s' hs => ?_) fun _ _ z => z)
  cases fl with
  | next =>
    obtain ⟨σ', H', J, q'⟩ := hs
    exact k pins s' σ' H' D J q'
  | brk => exact hs
  | cont => exact hs
  | ret v => exact hs
theorem psa_expr (h : PEA X b e te) (hi : interactive X.env = false := by rfl) (hs : swapsWith e none pos.line X.env = pure false := by rfl) : PSA X b (.Expr e pos) (tDrop te) := fun pins s σ H D I q => by
  refine ks_wpAt_Expr_any (ks_wpAt_mono (h pins s σ H _ I q) (fun v s' hv => ?_) fun _ _ z => z) hi hs
  obtain ⟨x, H', J, _, q'⟩ := hv
  exact ⟨σ, H', J, q'⟩
theorem psa_ret (h : PEA X b e te) : PSA X b (.Return (some e) pos) (tRet te) := fun pins s σ H D I q => by
  refine ks_wpAt_Return_some (ks_wpAt_mono (h pins s σ H _ I q) (fun v s' hv => ?_) fun _ _ z => z)
  obtain ⟨x, H', J, r, q'⟩ := hv
  exact ⟨x, σ, H', J, r, q'⟩
end
theorem FunX.ok {CX : CXT} {P : Program} {w : World} {K : PySem.W.Frag} {mg : Str → Option Value} {base : Heap} {N ps : List Str} {F : NF} {D f : Addr} {fd : FuncData} {k : Nat} {sp : Sp} (Z : FunX P K F D f fd) (S : NScope N ps ["__class__"] F.scope) (len : ∀ vs H Q E, sp vs H Q E → vs.length = ps.length)
    (hbody : ∀ (A : Around) (outer : List Env) (s : Shared) (H : Hp) (vs : List V) (Q : VK) (E : XK), Room k (A.deeper (envF F f s.heap.objs.size)) → sp vs H Q E →
      ∃ t, PSsA (ncx CX P w K mg base N F f A outer s H E) F.body F.body t ∧ t { nx := fun _ H' => Q .non H', rt := Q } (startF N vs [none]) H) : FnOk P w K mg base CX (k + 1) f fd ps sp := by
  refine ⟨len, fun A outer s H args us vs Q E hr e0 hb r hsp => ?_⟩
  have hl := len _ _ _ _ hsp
  have KX : K.In s.heap := e0.mod.kin.keeps fun b o e => (e0.bs b o e).1
  have lim : s.heap.NoLimit := e0.mod.nolimit.keeps fun b o e => (e0.bs b o e).1
  obtain ⟨oc, od, kV, doc, pm, an, ct, osl, efd, lk⟩ := Z.ex
  obtain ⟨c, ecl, cv, cd, sl, hc⟩ := Z.cell
  subst efd
  have C : CellsAt F.cl ["__class__"] [none] s.heap H := by
    rw [ecl]
    have hcs := e0.bs _ _ (e0.mod.kin _ _ hc)
    have one : ∀ y c', ([("__class__", c)] : List (Str × Addr)).lookup y = some c' → y = "__class__" ∧ c' = c := fun y c' e => by
      have m := PySem.mem_of_lookup e
      simp only [List.mem_singleton, Prod.mk.injEq] at m
      exact m
    refine ⟨rfl, fun y c' e => ?_, fun x y c' e1 e2 => (one _ _ e1).1.trans (one _ _ e2).1.symm, fun i y hi => ?_⟩
    · obtain ⟨_, rfl⟩ := one _ _ e
      exact ⟨hcs.2, _, _, hcs.1, rfl⟩
    · cases i with
      | zero =>
        cases hi
        exact ⟨c, rfl, fun v hv => by cases hv⟩
      | succ i => cases hi
  refine codeAny_call_function hr.depth (KX _ _ lk) rfl S.co S.gen rfl (PySem.W.codeRec_of KX Z.code) (hb _ _ _ _ ?_)
  refine wpAny_newFunctionEnv S.nocell (fun ⟨n, _⟩ hy => S.par n (List.of_mem_zip hy).1) (fun h₁ hns hsb => ⟨lim.fresh _ hsb, ?_⟩) S.kind
  show codeAny _ _ (.func F.body (envF F f s.heap.objs.size)) _ _
  refine ks_codeAny_funcAt ?_
  have kp : ∀ b o, s.heap.get? b = some o → h₁.get? b = some o := fun b o e => hsb.extBut b o (Nat.ne_of_lt (Heap.lt_size e)) (Heap.get?_push_of_some _ e)
  obtain ⟨t, ht, hq⟩ := hbody A outer s H vs Q E (hr.deeper _) hsp
  have I : Inv (ncx CX P w K mg base N F f A outer s H E) [] (startF N vs [none]) H { s with heap := h₁, toks := s.toks + (ps.zip us).length } := inv_startN S hr.hd e0 hl r C hns kp
  refine ks_wpAt_mono (ht [] _ _ _ _ I hq) (fun fl s' hs => ?_) fun e s' hs => hs
  have fin : ∀ {σ' : L2.St} {H' : Hp} {v : V} {u : Value}, Inv (ncx CX P w K mg base N F f A outer s H E) [] σ' H' s' → L2.RelV v u → Q v H' → CE outer P w H s Q u s' := fun {σ' H' v u} J rv q => ⟨v, H', J.os, J.bare, J.base, J.hok, rv, q⟩
  cases fl with
  | ret u =>
    obtain ⟨v, σ', H', J, rv, q⟩ := hs
    exact fin J rv q
  | next =>
    obtain ⟨σ', H', J, q⟩ := hs
    exact fin (v := V.non) (u := Value.none) J rfl q
  | brk =>
    obtain ⟨_, _, _, q⟩ := hs
    exact q.elim
  | cont =>
    obtain ⟨_, _, _, q⟩ := hs
    exact q.elim
structure AtX (X : Cx) (F : NF) (D f : Addr) : Prop where
  env : ∃ L, X.env = envF F f L
  fx : ∃ fd, FunX X.prog X.K F D f fd
  sup : F.scope.names.lookup ("super" : Str) = some .globalImplicit
  cl : F.scope.names.lookup ("__class__" : Str) = some .free
  par : ∃ ar : Arg, (F.params.posonlyargs ++ F.params.args).head? = some ar ∧ X.N[0]? = some ar.arg ∧ F.scope.names.lookup ar.arg = some .local
  kind : F.scope.kind = .function
section
variable {X : Cx} {F : NF} {D f x C : Addr} {pins : List (Addr × Obj)} {σ : L2.St} {H : Hp} {s : Shared} {p0 p1 : Pos} {m : Str} {whole : Sem Value} {ox : Obj} {Q : Value → Shared → Prop} {b : List Stmt}
theorem super_at (Z : AtX X F D f) (I : Inv X pins σ H s) (h0 : σ[0]? = some (some (.ref x))) (hx : s.heap.get? x = some ox) (hc : ox.cls = .ref C) (hn : ∀ c, ox.data ≠ .cls c) (hsub : PySem.W.mroIn X.K C (.ref D) = some true) (hat : (m == ("__class__" : Str)) = false)
    (h : ∀ so h', (∀ y o, s.heap.get? y = some o → h'.get? y = some o) → s.heap.objs.size ≤ so → h'.get? so = some (PySem.W.ks_superObj D x C) → Q (.ref so) { s with heap := h' }) :
    PySem.wpAt (model X.prog X.w) X.A (.func b X.env) (attributeBase (.Call (.Name "super" p0) [] [] p1) m X.env whole) Q X.xe s := by
  obtain ⟨L, eL⟩ := Z.env
  obtain ⟨fd, Y⟩ := Z.fx
  obtain ⟨oc, od, kV, doc, pm, an, ct, osl, efd, lk⟩ := Y.ex
  obtain ⟨c, ecl, cv, cd, sl, hcell⟩ := Y.cell
  obtain ⟨cc, cdd, vs, csl, fl, tf, hcode, hvs, hfile⟩ := Y.file
  obtain ⟨cdD, hD⟩ := Y.cls
  obtain ⟨ar, hp, hN, hka⟩ := Z.par
  have KX := I.kIn
  subst efd
  obtain ⟨mL, hns, hlk⟩ := id I.loc
  have hvis : Vis X.env.scope ar.arg := by rw [eL]; exact .inl hka
  obtain ⟨u, ru, hlook⟩ := hlk 0 ar.arg (.ref x) hN h0 hvis
  obtain rfl : u = Value.ref x := ru
  have hm : mL ar.arg = some (.ref x) := by
    rcases hlook with ⟨_, z⟩ | ⟨z, _⟩
    · exact z
    · rw [eL] at z
      have z : F.scope.names.lookup ar.arg = some .cell ∨ F.scope.names.lookup ar.arg = some .free := z
      rw [hka] at z
      rcases z with z | z <;> cases z
  obtain ⟨oD, hD1, hD2⟩ : ∃ oD, s.heap.get? D = some oD ∧ oD.data = .cls cdD := by
    unfold PySem.W.clsIn at hD
    split at hD
    · rename_i c' d' cd' sl' ho
      cases hD
      exact ⟨_, KX _ _ ho, rfl⟩
    · cases hD
  have hmg : X.mg "super" = none := PySem.W.mg_none_of I.mod.kin I.mod.glob Y.sup
  obtain ⟨mb, hb1, hb2⟩ := I.mod.blt
  have eL2 : X.env.locals = L := by rw [eL]
  rw [eL2] at hns
  rw [eL]
  refine ks_wpAt_super_base (env := envF F f L) Z.sup Z.cl hat rfl (KX _ _ lk) rfl hp rfl (KX _ _ hcode) rfl hvs hfile Y.top ?_
  refine PySem.W.ks_loadName_global Z.kind Z.sup (PySem.Calls.loadGlobal_builtin (env := envF F f L) (I.mod.glob.keeps I.bk) hmg (hb1.keeps I.bk) ((hb2 _ (by decide)).trans (show bootBuiltins "super" = some (.type "super") by decide +kernel)) ⟨rfl, ?_⟩)
  refine wpAny_loadName_free Z.kind Z.cl (show (envF F f L).cells.lookup ("__class__" : Str) = some c by show F.cl.lookup ("__class__" : Str) = some c; rw [ecl]; rfl) ⟨_, KX _ _ hcell, rfl⟩ ?_
  refine wpAny_loadName_local Z.kind hka hns hm ?_
  refine ks_wpAny_isType_cls hD1 hD2 ⟨rfl, ?_⟩
  obtain ⟨hh, g, d, t, os⟩ := s
  refine ks_wpAny_call_super hD1 hD2 hx hc hn (PySem.W.looks_mroIn KX hsub) (fun h' e k => ?_)
  exact h _ _ k (Nat.le_refl _) e
end
structure SupM (K : PySem.W.Frag) (C D : Addr) (m : Str) (g : Addr) : Prop where
  sub : PySem.W.mroIn K C (.ref D) = some true
  at_ : PySem.W.ks_superIn K C D m = some (some (.ref g))
  ty : PySem.W.typeIn K (.ref g) = some (.type "function")
  fi : PySem.W.fnIn K g = true
  op : PySem.W.nsIn K PySem.cStatics "thirdparty.any" = some none
def tSup (C : Addr) (sp : Sp) (E : L2.St → XK) (t : TA) : TE := fun σ H Q => ∃ x dx fs, σ[0]? = some (some (.ref x)) ∧ H x = some (.ins C dx fs) ∧ t σ H fun vs H1 => sp (.ref x :: vs) H1 Q (E σ)
section
variable {X : Cx} {F : NF} {D f C g : Addr} {b : List Stmt} {m : Str} {p0 p1 p2 p3 : Pos} {e : Expr} {es : List Expr} {t : TA} {sp : Sp} {E : L2.St → XK} {k : Nat} {fd : FuncData} {ps : List Str}
theorem pea_sup {pl : Sem Bool} (Z : AtX X F D f) (S : SupM X.K C D m g) (G : FnOk X.prog X.w X.K X.mg X.base (L2.CX X.prog X.w) k g fd ps sp) (hr : Room k X.A) (hb : Binds X.K fd ps []) (hx : ∀ σ, PassesAt (L2.CX X.prog X.w) X σ (E σ)) (ha : PA X (e :: es) t)
    (hn : (m == ("__class__" : Str)) = false := by decide) (he : starEach (e :: es) X.env = (false, eval e X.env) :: starEach es X.env := by rfl) (hpl : (backTo p3 (starEach es X.env)).any (·.1) = false := by rfl)
    (ht : eval (.Call (.Attribute (.Call (.Name "super" p0) [] [] p1) m p2) (e :: es) [] p3) X.env = (do
      let ov ← attributeBase (.Call (.Name "super" p0) [] [] p1) m X.env (eval (.Call (.Name "super" p0) [] [] p1) X.env)
      standAt p2.atName
      let (f, first) ← holding [ov] (getMethod ov m pl)
      callWith p3 f first (backTo p3 (starEach (e :: es) X.env)) []) := by rfl) :
    PEA X b (.Call (.Attribute (.Call (.Name "super" p0) [] [] p1) m p2) (e :: es) [] p3) (tSup C sp E t) := by
  intro pins s σ H Q I h
  obtain ⟨x, dx, fs, h0, hH, q⟩ := h
  obtain ⟨mA, O, _, _, _, _⟩ := ins_get I.hok hH
  refine ks_wpAt_MethodCall (pl := pl) (super_at Z I h0 O.obj rfl (fun c z => nomatch z) S.sub hn fun so h' kp hge hso => ?_) ht
  have I1 : Inv X pins σ H { s with heap := h' } := I.kept (t' := s.toks) kp
  have KX := I1.kIn
  cases hc : PySem.W.clsIn X.K C with
  | none =>
    have z := S.at_
    unfold PySem.W.ks_superIn at z
    rw [hc] at z
    cases z
  | some cd =>
    have z := S.at_
    unfold PySem.W.ks_superIn at z
    rw [hc] at z
    obtain ⟨og, hog, hogc⟩ : ∃ og, h'.get? g = some og ∧ og.cls = .type "function" := by
      have y : (X.K.lookup g).map (·.cls) = some (.type "function") := S.ty
      cases w : X.K.lookup g with
      | none => rw [w] at y; cases y
      | some og => rw [w] at y; exact ⟨og, KX _ _ w, Option.some.inj y⟩
    have hxC : x ≠ C := by
      obtain ⟨_, O1, _⟩ := ins_get I1.hok hH
      obtain ⟨od, J, _⟩ := O1.look
      exact PySem.W.ks_ne KX J hc
    obtain ⟨hh, gg, d, tk, os⟩ := s
    refine ks_wpAny_getMethod_super hso (PySem.W.looks_opaque KX S.op) (l₀ := cd.mro) (fun A Q E s k q => wpAny_bind ((PySem.W.looks_clsIn KX hc) A _ E s k (wpAny_pure q))) rfl KX z hog hogc hxC hn ?_
    have I2 : Inv X ((h'.objs.size, PySem.W.methodObj (.ref g) (.ref x)) :: pins) σ H ⟨h'.push (PySem.W.methodObj (.ref g) (.ref x)), gg, d, tk + 1, os⟩ := met_new I1
    refine callwith_cm I2 (base_none I1 (Nat.le_refl _)) S.fi (thn (ha.run p3 _ _ σ H _ I2 q) fun us s3 ⟨vs, H1, I3, r, q3⟩ => ⟨⟨pin_at I3, I3.kIn⟩, ?_⟩) he hpl
    have hl : (Value.ref x :: us).length = ps.length := by
      have e1 : (V.ref x :: vs).length = ps.length := G.len _ _ _ _ q3
      rw [← e1, List.length_cons, List.length_cons, r.length]
    have bb := hb s3 (.ref x :: us) I3.kIn (by rw [List.append_nil]; exact hl)
    rw [List.append_nil] at bb
    have w : wpAny (model X.prog X.w) X.A (call (.ref h'.objs.size) us) (EP X ((h'.objs.size, PySem.W.methodObj (.ref g) (.ref x)) :: pins) σ Q) X.xe s3 := by
      refine wpAny_call (PySem.W.method_call (pin_at I3) (codeAny_mono (G.run X.A X.stack s3 H1 ⟨.ref x :: us, []⟩ (.ref x :: us) (.ref x :: vs) Q (E σ) hr I3.env0 bb (.cons rfl r) q3) fun r s' hq => ?_))
      cases r with
      | error e => exact hx σ _ H1 s3 e s' I3 hq
      | ok fl =>
        cases fl with
        | ret u => exact I3.after hq
        | next => exact hq.elim
        | brk => exact hq.elim
        | cont => exact hq.elim
    exact thn w fun _ _ y => unpinE y
end
end DW

set_option Elab.async false
set_option linter.all false
set_option maxRecDepth 100000
namespace DW
open PySem PySem.Spec PyProof.Rows L2 NdefX
theorem FunX.binds {P : Program} {K : PySem.W.Frag} {F : NF} {D f : Addr} {fd : FuncData} {ps : List Str} (Z : FunX P K F D f fd) (h : ∀ (kV doc pm : Value) (an : Option Addr) (ct : Value) (us : List Value), us.length = ps.length → bindArgs (PySem.W.fnX F.name F.qual F.params F.body F.scope F.cl .none kV doc pm an (.ref F.c) ct) ⟨us, []⟩ = pure (ps.zip us)) : Binds K fd ps [] := by
  obtain ⟨oc, od, kV, doc, pm, an, ct, osl, rfl, lk⟩ := Z.ex
  exact .all (h kV doc pm an ct)
def DSSA (X : Cx) (W : WX) (b l : List Stmt) (ts : TS) (ds : DS) : Prop := PSsA X b l ts ∧ SndS X.K W ts ds
def DSA (X : Cx) (W : WX) (b : List Stmt) (st : Stmt) (ts : TS) (ds : DS) : Prop := PSA X b st ts ∧ SndS X.K W ts ds
def DEA (X : Cx) (W : WX) (b : List Stmt) (e : Expr) (te : TE) (de : DE) : Prop := PEA X b e te ∧ SndE X.K W te de
theorem startF_eq {N : List Str} {vs : List V} (h : vs.length < N.length) : startF N vs [none] = L2.start N vs := by
  unfold startF L2.start
  have e : List.replicate (N.length - vs.length) (none : Option V) = none :: List.replicate (N.length - vs.length - 1) none := by
    rw [← List.replicate_succ]
    congr 1
    omega
  rw [e]
  rfl
theorem tk_ncx {P : Program} {w : World} {K : PySem.W.Frag} {mg : Str → Option Value} {base : Heap} {N : List Str} {F : NF} {f : Addr} {A : Around} {outer : List Env} {s : Shared} {H : Hp} {E : XK} : Takes (ncx (L2.CX P w) P w K mg base N F f A outer s H E) (WX0 E) := takes_of rfl rfl rfl rfl
theorem fn_dX {P : Program} {w : World} {K : PySem.W.Frag} {mg : Str → Option Value} {base : Heap} {N ps : List Str} {F : NF} {D f : Addr} {fd : FuncData} {k : Nat} {sd : Sd} {ds : DS} (Z : FunX P K F D f fd) (S : NScope N ps ["__class__"] F.scope) (len : ∀ as Q E, sd as Q E → as.length = ps.length)
    (hb : ∀ (A : Around) (outer : List Env) (s : Shared) (H : Hp) (E : XK), Room k (A.deeper (envF F f s.heap.objs.size)) → ∃ ts, DSSA (ncx (L2.CX P w) P w K mg base N F f A outer s H E) (WX0 E) F.body F.body ts ds)
    (hp : ∀ as Q E, sd as Q E → ds (dEnds Q E) (startD N.length as)) : FnOk P w K mg base (L2.CX P w) (k + 1) f fd ps (spOf K sd) := by
  have hpl : ps.length < N.length := by
    have q := congrArg List.length S.pre
    rw [List.length_take, List.length_append] at q
    have : (["__class__"] : List Str).length = 1 := rfl
    omega
  refine Z.ok S (fun vs H Q E h => ?_) fun A outer s H vs Q E hr h => ?_
  · obtain ⟨l0, F, as, Qd, Ed, b, r, h, _, _⟩ := h
    rw [r.length]
    exact len as Qd Ed h
  · obtain ⟨l0, F0, as, Qd, Ed, b, r, h, hq, he⟩ := h
    obtain ⟨ts, p, sd⟩ := hb A outer s H E hr
    refine ⟨ts, p, ?_⟩
    rw [startF_eq (by rw [r.length, len as Qd Ed h]; exact hpl)]
    refine sd _ _ (hp as Qd Ed h) l0 F0 H _ (Stt.start b r) _ ⟨fun F' H' σ' ρ' g w S' q => ?_, fun F' H' v d g r q => ?_, fun F' H' σ' ρ' g w S' q => q.elim, fun F' H' σ' ρ' g w S' q => q.elim, fun cls d x F' H' σ' ρ' g w S' r q => ?_, fun F' H' σ' ρ' v d g w S' r q => q.elim⟩
    · exact hq .non .non F' H' (g.go start_noOw) (.v _) q
    · exact hq v d F' H' (g.go start_noOw) r q
    · exact he cls d x F' H' (g.go start_noOw) r q
def dSup (C : Addr) (sd : Sd) (da : DA) : DE := fun ρ Q E => ∃ gs, ρ[0]? = some (.dat (.obj C gs)) ∧ da ρ (fun ss => plain ss fun ds => sd (.obj C gs :: ds) (fun d => Q (.dat d)) E) E
section
variable {X : Cx} {W : WX} {F : NF} {D f C g : Addr} {b l : List Stmt} {st : Stmt} {m : Str} {pos p0 p1 p2 p3 : Pos} {e : Expr} {es : List Expr} {ta : TA} {da : DA} {sd : Sd} {k : Nat} {fd : FuncData} {ps : List Str} {va vb : TS} {t u : DS} {te : TE} {de : DE}
theorem dssa_of (h : DSSX X W l va t) : DSSA X W b l va t := ⟨pssa_of h.1, h.2⟩
theorem dsa_of (h : DSX X W st va t) : DSA X W b st va t := ⟨psa_of h.1, h.2⟩
theorem dssa_cons (h : DSA X W b st va t) (k : DSSA X W b l vb u) : DSSA X W b (st :: l) (tSeq va vb) (dSeq t u) := by
  obtain ⟨p1, s1⟩ := h
  obtain ⟨p2, s2⟩ := k
  refine ⟨pssa_cons p1 p2, fun D ρ h l0 F H σ S C L => ?_⟩
  refine s1 { D with nx := u D } ρ h l0 F H σ S { C with nx := vb C } ⟨fun F' H' σ' ρ' g w S' q => ?_, L.rt, L.bk, L.ct, L.ex, L.rs⟩
  exact s2 D ρ' q l0 F' H' σ' S' C (L.trans S.bs g w)
theorem dsa_ret (h : DEA X W b e te de) : DSA X W b (.Return (some e) pos) (tRet te) (dRetE de) := by
  obtain ⟨p, se⟩ := h
  refine ⟨psa_ret p, fun D ρ h l0 F H σ S C L => ?_⟩
  refine se ρ _ _ h l0 F H σ S _ (fun v s F1 H1 g1 r1 q1 => ?_) (L.kx S)
  obtain ⟨d, e, q1⟩ := datS_of q1
  subst e
  exact L.rt F1 H1 v _ (.of g1) r1 q1
theorem dea_sup {pl : Sem Bool} (Z : AtX X F D f) (S : SupM X.K C D m g) (G : FnOk X.prog X.w X.K X.mg X.base (L2.CX X.prog X.w) k g fd ps (spOf X.K sd)) (hb : Binds X.K fd ps []) (tk : Takes X W) (hr : Room k X.A) (ha : DAX X W (e :: es) ta da)
    (hn : (m == ("__class__" : Str)) = false := by decide) (he : starEach (e :: es) X.env = (false, eval e X.env) :: starEach es X.env := by rfl) (hpl : (backTo p3 (starEach es X.env)).any (·.1) = false := by rfl)
    (ht : eval (.Call (.Attribute (.Call (.Name "super" p0) [] [] p1) m p2) (e :: es) [] p3) X.env = (do
      let ov ← attributeBase (.Call (.Name "super" p0) [] [] p1) m X.env (eval (.Call (.Name "super" p0) [] [] p1) X.env)
      standAt p2.atName
      let (f, first) ← holding [ov] (getMethod ov m pl)
      callWith p3 f first (backTo p3 (starEach (e :: es) X.env)) []) := by rfl) :
    DEA X W b (.Call (.Attribute (.Call (.Name "super" p0) [] [] p1) m p2) (e :: es) [] p3) (tSup C (spOf X.K sd) (WE W) ta) (dSup C sd da) := by
  refine ⟨pea_sup (pl := pl) Z S G hr hb (fun σ => passAt tk σ) ha.1 hn he hpl ht, fun ρ Q E q l0 F H σ St Qc kk kx => ?_⟩
  obtain ⟨gs, h0, q⟩ := q
  rcases St.sl 0 _ h0 with z | ⟨v, h1, r⟩
  · cases z
  · have r : Den X.K l0 F v (.obj C gs) := r
    cases r with
    | @obj a _ dx fs _ h r =>
      refine ⟨a, dx, fs, h1, St.bs.sub _ _ h, ?_⟩
      refine ha.2 ρ _ E q l0 F H σ St _ (fun vs ss F2 H2 g2 r2 q3 => ?_) kx
      obtain ⟨ds, e2, q4⟩ := plain_of q3
      subst e2
      refine ⟨l0, F2, .obj C gs :: ds, _, E, g2.bs, .cons (Den.mono g2.ex (.obj h r)) (dens_of r2), q4, fun v d F' H' g r q => ?_, fun cls dct x F' H' g r q => ?_⟩
      · exact kk v (.dat d) F' H' (g2.trans g) r q
      · exact kx cls dct x F' H' (g2.trans g) r q
end
end DW

set_option Elab.async false
set_option linter.all false
set_option maxRecDepth 100000
namespace DW
open PySem PySem.Spec PyProof.Rows L2 NdefX ClX
structure SupE (K : PySem.W.Frag) (C D : Addr) : Prop where
  sub : PySem.W.mroIn K C (.ref D) = some true
  at_ : PySem.W.ks_superIn K C D "__init__" = some (some (.builtin "ValueError.__init__"))
  ve : PySem.W.subIn K (.ref C) (.type "ValueError") = some true
  op : PySem.W.nsIn K PySem.cStatics "thirdparty.any" = some none
section
variable {X : Cx} {pins : List (Addr × Obj)} {σ : L2.St} {H : Hp} {s : Shared} {a C u : Addr}
theorem mw_call {us : List Value} {Q : Value → Shared → Prop} {E : Value → Shared → Prop} (T : OexC X.K C) (I : Inv X ((u, PySem.W.kxs_mw "ValueError.__init__" a) :: pins) σ H s) (e : H a = some (exo a C none)) (hl : us.length ≤ sizeLine) (h : ∀ s', Inv X pins σ H s' → Q .none s') :
    wpAny (model X.prog X.w) X.A (call (.ref u) us) Q E s := by
  obtain ⟨nm, q, N, bs, bm, sn, sub, ab, col, dd, k0, k1, k2, k3, k5, hC, hbm⟩ := T.cls
  obtain ⟨t1, ho⟩ := exo_at I.hok e
  have hu := pin_at I
  have I0 := unpin I
  have fin : ∀ h' t2, (∀ b o, b ≠ a → s.heap.get? b = some o → h'.get? b = some o) → h'.get? a = some (PySem.HandSPX.excO C t2) → Q .none { s with heap := h' } := fun h' t2 k hx => by
    have J := I0.write (t' := s.toks) (x := a) (e := a) (o := exo a C none) (by rw [e]; exact True.intro) (.inl rfl) k ⟨_, hx⟩ (exo_ok hx)
    have eu : upd H a (exo a C none) = H := by
      funext b
      by_cases hb : b = a
      · rw [hb, upd_same, e]
      · rw [upd_ne hb]
    rw [eu] at J
    exact h _ J
  have hCs := I.kIn _ _ hC
  obtain ⟨hp, g, d, t, os⟩ := s
  refine wpAny_call (codeAny_of_tree ?_)
  show wpAny _ X.A.in1 (callAny (.ref u) ⟨us, []⟩) _ _ _
  simp only [callAny]
  refine wpAny_bind (wpAny_load hu ?_)
  simp only [show (Value.type "method-wrapper" == Value.type "method" || Value.type "method-wrapper" == Value.type "builtin_function_or_method" || Value.type "method-wrapper" == Value.type "method-wrapper") = true by decide, if_true]
  refine PySem.W.KFB.if_so (by decide) ?_
  refine wpAny_bind (PySem.W.check_bound_init PySem.F.excBase_ValueError.toExcCallFacts hCs ho rfl ?_)
  refine wpAny_bind (wpAny_pure (wpAny_pure ?_))
  refine ⟨plainId_quiet PySem.F.excBase_ValueError.init.plain _, codeAny_builtin PySem.F.excBase_ValueError.initEntry ?_⟩
  rw [Around.under_plainId PySem.F.excBase_ValueError.init.plain _]
  wp_walk
  refine fin _ hp.objs.size (fun b o hb ho2 => ?_) ?_
  · rw [Heap.get?_update_other _ _ (Ne.symm hb)]
    exact Heap.get?_push_of_some _ ho2
  · rw [Heap.get?_update_self _ (Heap.get?_push_of_some _ ho) rfl]
    rfl
end
def tSvE (K : PySem.W.Frag) (D : Addr) (t : TA) : TE := fun σ H Q => ∃ a C, σ[0]? = some (some (.ref a)) ∧ OexC K C ∧ SupE K C D ∧ H a = some (exo a C none) ∧ t σ H fun vs H1 => vs.length ≤ 1000 ∧ H1 a = some (exo a C none) ∧ Q .non H1
section
variable {X : Cx} {F : NF} {D f : Addr} {b : List Stmt} {p0 p1 p2 p3 : Pos} {e : Expr} {es : List Expr} {t : TA}
theorem pea_svE {pl : Sem Bool} (Z : AtX X F D f) (ha : PA X (e :: es) t) (he : starEach (e :: es) X.env = (false, eval e X.env) :: starEach es X.env := by rfl) (hpl : (backTo p3 (starEach es X.env)).any (·.1) = false := by rfl)
    (ht : eval (.Call (.Attribute (.Call (.Name "super" p0) [] [] p1) "__init__" p2) (e :: es) [] p3) X.env = (do
      let ov ← attributeBase (.Call (.Name "super" p0) [] [] p1) "__init__" X.env (eval (.Call (.Name "super" p0) [] [] p1) X.env)
      standAt p2.atName
      let (fz, first) ← holding [ov] (getMethod ov "__init__" pl)
      callWith p3 fz first (backTo p3 (starEach (e :: es) X.env)) []) := by rfl) :
    PEA X b (.Call (.Attribute (.Call (.Name "super" p0) [] [] p1) "__init__" p2) (e :: es) [] p3) (tSvE X.K D t) := by
  intro pins s σ H Q I h
  obtain ⟨a, C, h0, T, S, hH, q⟩ := h
  obtain ⟨t1, ho⟩ := exo_at I.hok hH
  refine ks_wpAt_MethodCall (pl := pl) (super_at Z I h0 ho rfl (fun c z => nomatch z) S.sub (by decide) fun so h' kp hge hso => ?_) ht
  have I1 : Inv X pins σ H { s with heap := h' } := I.kept (t' := s.toks) kp
  have KX := I1.kIn
  obtain ⟨cd, hc⟩ : ∃ cd, PySem.W.clsIn X.K C = some cd := by
    cases w : PySem.W.clsIn X.K C with
    | some cd => exact ⟨cd, rfl⟩
    | none =>
      have z := S.at_
      unfold PySem.W.ks_superIn at z
      rw [w] at z
      cases z
  have z := S.at_
  unfold PySem.W.ks_superIn at z
  rw [hc] at z
  have J : PySem.W.InstAt h' a (PySem.HandSPX.excO C t1) C none := ⟨kp _ _ ho, rfl, rfl, trivial⟩
  have hxC : a ≠ C := PySem.W.ks_ne KX J hc
  have hI : PySem.W.Looks (model X.prog X.w) h' (isInstance (.ref a) (.type "ValueError")) true := J.type.andThen (PySem.W.looks_subIn KX S.ve)
  obtain ⟨hh, gg, d, tk, os⟩ := s
  refine PySem.W.kxs_getMethod PySem.W.kxs_ValueError hso (PySem.W.looks_opaque KX S.op) (l₀ := cd.mro) (fun A Q E s k q => wpAny_bind ((PySem.W.looks_clsIn KX hc) A _ E s k (wpAny_pure q))) rfl KX z hI hxC (by decide) ?_
  have I2 : Inv X ((h'.objs.size, PySem.W.kxs_mw "ValueError.__init__" a) :: pins) σ H ⟨h'.push (PySem.W.kxs_mw "ValueError.__init__" a), gg, d, tk + 1, os⟩ :=
    pin_new I1 (fun _ _ z => Heap.get?_push_of_some _ z) (Nat.le_refl _) (Heap.get?_push_size h' rfl) (fun v z => nomatch z)
  have hap : (backTo p3 (starEach (e :: es) X.env)).any (·.1) = false := by
    rw [he]
    show (false || (backTo p3 (starEach es X.env)).any (·.1)) = false
    rw [hpl]
    rfl
  refine PySem.W.kxs_callWith (i := "ValueError.__init__") (x := a) hap ?_
  have ra := fun s1 I2 q => ha.run p3 ((h'.objs.size, PySem.W.kxs_mw "ValueError.__init__" a) :: pins) s1 σ H (fun vs H1 => vs.length ≤ 1000 ∧ H1 a = some (exo a C none) ∧ Q .non H1) I2 q
  rw [he] at ra ⊢
  refine PySem.Calls.evalArgs_plain (thn (ra _ I2 q) fun us s3 ⟨vs, H1, I3, r, hz, e1, q3⟩ => ⟨pin_at I3, ?_⟩)
  have hl : us.length ≤ sizeLine := by
    rw [← r.length, sizeLine_eq]
    omega
  exact mw_call T I3 e1 hl fun s' I4 => ⟨.non, H1, I4, rfl, q3⟩
end
end DW

set_option Elab.async false
set_option linter.all false
set_option maxRecDepth 100000
namespace DW
open PySem PySem.Spec PyProof.Rows L2 NdefX ClX
def excH (H : Hp) (a C dx : Addr) (gs : List (Str × V)) : Hp := fun b => if b = a then some (exo a C (some dx)) else if b = dx then some (exd dx gs) else H b
def spExcI (C : Addr) (fs : List Str) : Sp := fun vs H Q _ => ∃ a ys, vs = V.ref a :: ys ∧ ys.length = fs.length ∧ H a = some (exo a C none) ∧ ∀ dx, H dx = none → dx ≠ a → Q .non (excH H a C dx (fs.zip ys).reverse)
theorem excH_one {H : Hp} {a C dx : Addr} {gs : List (Str × V)} : upd (upd H dx (exd dx gs)) a (exo a C (some dx)) = excH H a C dx gs := by
  funext b
  unfold excH upd
  by_cases h1 : b = a
  · simp only [if_pos h1]
  · simp only [if_neg h1]
theorem excH_more {H : Hp} {a C dx : Addr} {gs es : List (Str × V)} (n : dx ≠ a) : upd (excH H a C dx gs) dx (exd dx es) = excH H a C dx es := by
  funext b
  unfold excH upd
  by_cases h1 : b = dx
  · subst h1
    simp only [if_neg n, if_true]
  · simp only [if_neg h1]
theorem excH_a {H : Hp} {a C dx : Addr} {gs : List (Str × V)} : excH H a C dx gs a = some (exo a C (some dx)) := by unfold excH; rw [if_pos rfl]
theorem excH_d {H : Hp} {a C dx : Addr} {gs : List (Str × V)} (n : dx ≠ a) : excH H a C dx gs dx = some (exd dx gs) := by unfold excH; rw [if_neg n, if_pos rfl]
section
variable {K : PySem.W.Frag} {D C a : Addr} {N : List Str} {m f1 f2 : Str} {y1 y2 : V} {H : Hp} {R : VK} {E : Xn → Prop}
theorem exc_eval1 (T : OexC K C) (S : SupE K C D) (n1 : PySem.W.findIn K (.ref C) f1 = some none) (hH : H a = some (exo a C none)) (q : ∀ dx, H dx = none → dx ≠ a → R .non (excH H a C dx [(f1, y1)])) (hN : 3 ≤ N.length) :
    tSeq (tDrop (tSvE K D (tCons (tC (.str m)) tNil))) (tOst K f1 (tVar 0) (tVar 1)) { nx := fun _ H' => R .non H', rt := R } (startF N [.ref a, y1] [none]) H := by
  refine ⟨a, C, rfl, T, S, hH, by simp, hH, ?_⟩
  refine ⟨y1, rfl, .ref a, rfl, a, C, rfl, T, n1, .inl ⟨hH, fun dx h1 h2 => ?_⟩⟩
  show R .non _
  rw [excH_one]
  exact q dx h1 h2
theorem exc_eval2 (T : OexC K C) (S : SupE K C D) (n1 : PySem.W.findIn K (.ref C) f1 = some none) (n2 : PySem.W.findIn K (.ref C) f2 = some none) (hH : H a = some (exo a C none)) (q : ∀ dx, H dx = none → dx ≠ a → R .non (excH H a C dx [(f2, y2), (f1, y1)])) (hN : 4 ≤ N.length) :
    tSeq (tDrop (tSvE K D (tCons (tC (.str m)) tNil))) (tSeq (tOst K f1 (tVar 0) (tVar 1)) (tOst K f2 (tVar 0) (tVar 2))) { nx := fun _ H' => R .non H', rt := R } (startF N [.ref a, y1, y2] [none]) H := by
  refine ⟨a, C, rfl, T, S, hH, by simp, hH, ?_⟩
  refine ⟨y1, rfl, .ref a, rfl, a, C, rfl, T, n1, .inl ⟨hH, fun dx h1 h2 => ?_⟩⟩
  refine ⟨y2, rfl, .ref a, rfl, a, C, rfl, T, n2, .inr ⟨dx, _, upd_same, by rw [upd_ne h2, upd_same], by simp, ?_⟩⟩
  show R .non _
  rw [excH_one, excH_more h2]
  exact q dx h1 h2
end
structure ExcMk (P : Program) (w : World) (K : PySem.W.Frag) (mg : Str → Option Value) (base : Heap) (k : Nat) (x : Str) (C : Addr) (fs : List Str) : Prop where
  oc : OexC K C
  mk_ : ∃ (fI : Addr) (fd : FuncData) (ps : List Str), PySem.W.findIn K (.ref C) "__init__" = some (some (.ref fI)) ∧ PySem.W.typeIn K (.ref fI) = some (.type "function") ∧ FnOk P w K mg base (L2.CX P w) k fI fd ps (spExcI C fs) ∧ Binds K fd ps []
  mg_ : mg x = some (.ref C)
def dRaise (C : Addr) (fs : List Str) (da : DA) : DS := fun D ρ => da ρ (fun ss => plain ss fun ds => ds.length = fs.length ∧ D.ex ⟨C, (fs.zip ds).reverse⟩ ρ) fun x => D.ex x ρ
section
variable {K : PySem.W.Frag} {l0 : Addr} {F : Hp}
theorem DenF.zip : ∀ {fs : List Str} {vs : List V} {ds : List Dt}, Dens K l0 F vs ds → DenF K l0 F (fs.zip vs) (fs.zip ds)
  | [], _, _, _ => .nil
  | _ :: _, _, _, .nil => .nil
  | _ :: _, _, _, .cons h t => .cons h (DenF.zip t)
theorem DenF.app : ∀ {xs ys : List (Str × V)} {ds es : List (Str × Dt)}, DenF K l0 F xs ds → DenF K l0 F ys es → DenF K l0 F (xs ++ ys) (ds ++ es)
  | _, _, _, _, .nil, s => s
  | _, _, _, _, .cons h t, s => .cons h (DenF.app t s)
theorem DenF.rev : ∀ {xs : List (Str × V)} {ds : List (Str × Dt)}, DenF K l0 F xs ds → DenF K l0 F xs.reverse ds.reverse
  | _, _, .nil => .nil
  | _, _, .cons h t => by
    rw [List.reverse_cons, List.reverse_cons]
    exact DenF.app (DenF.rev t) (.cons h .nil)
end
section
variable {X : Cx} {W : WX} {e : Expr} {pos : Pos}
theorem no_pass : Passes (L2.CX X.prog X.w) X (fun _ _ _ => False) := fun _ _ _ _ _ _ _ ⟨_, _, _, _, _, _, _, _, _, _, _, _, z⟩ => z.elim
theorem ds_raise {k : Nat} {C : Addr} {fs : List Str} {x : Str} {p pos' : Pos} {es : List Expr} {t : TA} {da : DA} (M : ExcMk X.prog X.w X.K X.mg X.base k x C fs) (hc : X.calm = true) (tk : Takes X W) (hr : Room (k + 1) X.A) (hg : Gl X x) (ha : DAX X W (e :: es) t da)
    (hdb : (x == ("__debug__" : Str)) = false := by decide) (he : starEach (e :: es) X.env = (false, eval e X.env) :: starEach es X.env := by rfl) (hpl : (backTo pos (starEach es X.env)).any (·.1) = false := by rfl) (hfs : fs.length ≤ 1000 := by decide) :
    DSX X W (.Raise (some (.Call (.Name x p) (e :: es) [] pos)) none pos') (fun _ σ H => tMkO C (spExcI C fs) [] t σ H fun cls d H' => W cls d σ H') (dRaise C fs da) := by
  obtain ⟨oc, ⟨fI, fd, ps, h1, h2, G, hb⟩, hm⟩ := M
  refine ⟨ps_raise hc tk (pmk_oex oc h1 h2 G hr hb .nil no_pass hg hm ha.1 hdb he hpl), fun D ρ h l0 F H σ S Cn L => ?_⟩
  refine ha.2 ρ _ _ h l0 F H σ S _ (fun vs ss F1 H1 g1 r1 q1 => ?_) (L.kx S)
  obtain ⟨ds, e1, hl, q2⟩ := plain_of q1
  subst e1
  have r := dens_of r1
  refine ⟨by rw [r.length, hl]; exact hfs, fun a na => ?_⟩
  rw [List.append_nil]
  refine ⟨a, vs, rfl, by rw [r.length, hl], upd_same, fun dx n1 n2 => ⟨rfl, dx, (fs.zip vs).reverse, excH_a, excH_d n2, by rw [upd_ne n2] at n1; exact n1, ?_⟩⟩
  have n3 : H1 dx = none := by rw [upd_ne n2] at n1; exact n1
  have eH : upd (del (excH (upd H1 a (exo a C none)) a C dx (fs.zip vs).reverse) a) dx (.xd (fs.zip vs).reverse) = upd H1 dx (.xd (fs.zip vs).reverse) := by
    funext b
    unfold del excH upd
    by_cases z1 : b = dx
    · simp only [if_pos z1]
    · simp only [if_neg z1]
      by_cases z2 : b = a
      · rw [z2, na]
        simp only [if_true]
      · simp only [if_neg z2]
  rw [eH]
  have g2 := Go.fresh (p := dx) g1.bs (.xd (fs.zip vs).reverse) n3
  have g := g1.trans g2
  exact L.ex (.ref C) (some dx) ⟨C, (fs.zip ds).reverse⟩ _ _ σ ρ (.of g) .refl (S.go g) ⟨rfl, .inr ⟨dx, _, rfl, upd_same, (DenF.mono g2.ex (DenF.zip r).rev)⟩⟩ q2
end
theorem excMk1 {P : Program} {w : World} {K : PySem.W.Frag} {mg : Str → Option Value} {base : Heap} {N : List Str} {F : NF} {D f C : Addr} {fd : FuncData} {x s1 p1 f1 m : Str} (Z : FunX P K F D f fd) (S : NScope N [s1, p1] ["__class__"] F.scope) (hN : 3 ≤ N.length) (T : OexC K C) (hi : PySem.W.findIn K (.ref C) "__init__" = some (some (.ref f))) (ht : PySem.W.typeIn K (.ref f) = some (.type "function")) (hm : mg x = some (.ref C))
    (Sv : SupE K C D) (n1 : PySem.W.findIn K (.ref C) f1 = some none) (hbd : ∀ (kV doc pm : Value) (an : Option Addr) (ct : Value) (us : List Value), us.length = 2 → bindArgs (PySem.W.fnX F.name F.qual F.params F.body F.scope F.cl .none kV doc pm an (.ref F.c) ct) ⟨us, []⟩ = pure (([s1, p1] : List Str).zip us))
    (hb : ∀ (A : Around) (outer : List Env) (s : Shared) (H : Hp) (E : XK), PSsA (ncx (L2.CX P w) P w K mg base N F f A outer s H E) F.body F.body (tSeq (tDrop (tSvE K D (tCons (tC (.str m)) tNil))) (tOst K f1 (tVar 0) (tVar 1)))) : ExcMk P w K mg base 1 x C [f1] := by
  refine ⟨T, ⟨f, fd, [s1, p1], hi, ht, Z.ok (k := 0) S (fun vs H Q E h => ?_) fun A outer s H vs Q E hr h => ⟨_, hb A outer s H E, ?_⟩, Z.binds hbd⟩, hm⟩
  · obtain ⟨a, ys, rfl, hl, _⟩ := h
    simpa using hl
  · obtain ⟨a, ys, rfl, hl, hH, q⟩ := h
    match ys, hl with
    | [y1], _ => exact exc_eval1 T Sv n1 hH q hN
theorem excMk2 {P : Program} {w : World} {K : PySem.W.Frag} {mg : Str → Option Value} {base : Heap} {N : List Str} {F : NF} {D f C : Addr} {fd : FuncData} {x s1 p1 p2 f1 f2 m : Str} (Z : FunX P K F D f fd) (S : NScope N [s1, p1, p2] ["__class__"] F.scope) (hN : 4 ≤ N.length) (T : OexC K C) (hi : PySem.W.findIn K (.ref C) "__init__" = some (some (.ref f))) (ht : PySem.W.typeIn K (.ref f) = some (.type "function")) (hm : mg x = some (.ref C))
    (Sv : SupE K C D) (n1 : PySem.W.findIn K (.ref C) f1 = some none) (n2 : PySem.W.findIn K (.ref C) f2 = some none) (hbd : ∀ (kV doc pm : Value) (an : Option Addr) (ct : Value) (us : List Value), us.length = 3 → bindArgs (PySem.W.fnX F.name F.qual F.params F.body F.scope F.cl .none kV doc pm an (.ref F.c) ct) ⟨us, []⟩ = pure (([s1, p1, p2] : List Str).zip us))
    (hb : ∀ (A : Around) (outer : List Env) (s : Shared) (H : Hp) (E : XK), PSsA (ncx (L2.CX P w) P w K mg base N F f A outer s H E) F.body F.body (tSeq (tDrop (tSvE K D (tCons (tC (.str m)) tNil))) (tSeq (tOst K f1 (tVar 0) (tVar 1)) (tOst K f2 (tVar 0) (tVar 2))))) : ExcMk P w K mg base 1 x C [f1, f2] := by
  refine ⟨T, ⟨f, fd, [s1, p1, p2], hi, ht, Z.ok (k := 0) S (fun vs H Q E h => ?_) fun A outer s H vs Q E hr h => ⟨_, hb A outer s H E, ?_⟩, Z.binds hbd⟩, hm⟩
  · obtain ⟨a, ys, rfl, hl, _⟩ := h
    simpa using hl
  · obtain ⟨a, ys, rfl, hl, hH, q⟩ := h
    match ys, hl with
    | [y1, y2], _ => exact exc_eval2 T Sv n1 n2 hH q hN
end DW

set_option Elab.async false
set_option linter.all false
set_option maxRecDepth 100000
namespace DW
open PySem PySem.Spec PyProof.Rows L2
abbrev Sui := Addr → Value → Option Addr → TS
abbrev Clz := Value × Option Nat × Sui
def shut : Option Nat → Ends → Ends
  | none, D => D
  | some i, D => { nx := fun z H => D.nx (z.set i none) H, rt := D.rt, bk := fun z H => D.bk (z.set i none) H, ct := fun z H => D.ct (z.set i none) H }
def put : Option Nat → L2.St → Addr → L2.St
  | none, z, _ => z
  | some i, z, a => z.set i (some (.ref a))
def wClz (K : PySem.W.Frag) (Wo : WX) (D : Ends) : List Clz → WX
  | [] => Wo
  | (c, oi, ts) :: r => fun cls d z H => ∃ b, PySem.W.exmOne K cls c = some b ∧ (b = true → ∀ a, H a = none → ts a cls d (shut oi D) (put oi z a) H) ∧ (b = false → wClz K Wo D r cls d z H)
inductive ClzOk (X : Cx) : List ExceptHandler → List Clz → Prop
  | nil : ClzOk X [] []
  | bare {x : Str} {c : Value} {ts : Sui} {st : Stmt} {su : List Stmt} {p q : Pos} {hs : List ExceptHandler} {l : List Clz} (nm : Names X x c)
      (k : ∀ (a : Addr) (oe : Obj) (cls : Value) (d : Option Addr) (pn : List (Addr × Obj)), Zc cls d oe → (∃ vs, oe.data = .fields vs) → PSs (X.suite a ((a, oe) :: pn)) (st :: su) (ts a cls d)) (r : ClzOk X hs l) :
      ClzOk X (.ExceptHandler (some (.Name x p)) none (st :: su) q :: hs) ((c, none, ts) :: l)
  | named {x n : Str} {i : Nat} {c : Value} {ts : Sui} {st : Stmt} {su : List Stmt} {p q : Pos} {hs : List ExceptHandler} {l : List Clz} (nm : Names X x c) (hi : X.N[i]? = some n) (hn : X.env.kindOf n = some .local)
      (k : ∀ (a : Addr) (oe : Obj) (cls : Value) (d : Option Addr) (pn : List (Addr × Obj)), Zc cls d oe → (∃ vs, oe.data = .fields vs) → PSs (X.suite a ((a, oe) :: pn)) (st :: su) (ts a cls d)) (r : ClzOk X hs l) :
      ClzOk X (.ExceptHandler (some (.Name x p)) (some n) (st :: su) q :: hs) ((c, some i, ts) :: l)
section
variable {X : Cx} {body : List Stmt} {h0 : ExceptHandler} {hs : List ExceptHandler} {l : List Clz} {pos : Pos} {tb : WX → TS} {Wo : WX} {pins : List (Addr × Obj)} {z : L2.St} {H : Hp} {D : Ends}
theorem suite_end {a : Addr} {q : Addr × Obj} {f : Flow} {s : Shared} (ok : X.Ok) (y : SP (X.suite a (q :: (X.pn ++ pins))) [] D f s) : SP X pins D f s := by
  cases f with
  | ret u =>
    obtain ⟨v, z1, H1, J, r, w⟩ := y
    exact ⟨v, z1, H1, J.unsuite ok, r, w⟩
  | next => exact let ⟨z1, H1, J, w⟩ := y; ⟨z1, H1, J.unsuite ok, w⟩
  | brk => exact let ⟨z1, H1, J, w⟩ := y; ⟨z1, H1, J.unsuite ok, w⟩
  | cont => exact let ⟨z1, H1, J, w⟩ := y; ⟨z1, H1, J.unsuite ok, w⟩
theorem suite_endN {a : Addr} {q : Addr × Obj} {f : Flow} {s : Shared} {n : Str} {i : Nat} {p : Pos} (ok : X.Ok) (nd : X.N.Nodup) (hi : X.N[i]? = some n) (hn : X.env.kindOf n = some .local) (y : SP (X.suite a (q :: (X.pn ++ pins))) [] (shut (some i) D) f s) :
    wpAny (model X.prog X.w) X.A (do bindName X.env n .none; unbindBehindTheSuite X.env n p) (fun _ s7 => SP X pins D f s7) X.xe s := by
  cases f with
  | ret u =>
    obtain ⟨v, z1, H1, J, r, w⟩ := y
    exact gone_ok (J.unsuite ok) nd hi hn fun s7 J7 => ⟨v, _, H1, J7, r, w⟩
  | next =>
    obtain ⟨z1, H1, J, w⟩ := y
    exact gone_ok (J.unsuite ok) nd hi hn fun s7 J7 => ⟨_, H1, J7, w⟩
  | brk =>
    obtain ⟨z1, H1, J, w⟩ := y
    exact gone_ok (J.unsuite ok) nd hi hn fun s7 J7 => ⟨_, H1, J7, w⟩
  | cont =>
    obtain ⟨z1, H1, J, w⟩ := y
    exact gone_ok (J.unsuite ok) nd hi hn fun s7 J7 => ⟨_, H1, J7, w⟩
theorem clauses {a : Addr} {B : Heap} {sI s1 : Shared} {h3 : Heap} {cls : Value} {d : Option Addr} (ok : X.Ok) (nd : X.N.Nodup) (est : X.stack = X.env :: X.outer) (efr : X.env.frame = some X.env.locals) (tk : Takes X Wo) (J : Inv X pins z H sI) (nb : ∀ b o, sI.heap.get? b = some o → b ∉ frs X.stack → B.get? b = some o)
    (up : sI.heap.UpToSlots h3) (fl : HandSPX.FlyingZ B (X.env :: X.outer) a (Zc cls d) h3) (na : H a = none) (eos : s1.os = sI.os) (ag : AllBare s1.gens) (nL : a ≠ X.env.locals) (nF : a ∉ X.fs) :
    ∀ {hs : List ExceptHandler} {l : List Clz}, ClzOk X hs l → wClz X.K Wo D l cls d z H → wpAny (model X.prog X.w) X.A (handleBy (.ref a) X.env hs) (SP X pins D) X.xe { s1 with heap := h3 } := by
  have at_ : ∀ {h : Heap}, sI.heap.UpToSlots h → HandSPX.FlyingZ B (X.env :: X.outer) a (Zc cls d) h → Inv X pins z H { s1 with heap := h } := fun {h} u f => J.landed nb f.1 u eos ag
  have su : ∀ {h : Heap}, sI.heap.UpToSlots h → HandSPX.FlyingZ B (X.env :: X.outer) a (Zc cls d) h → ∃ (oe : Obj) (vs : Array Value), Zc cls d oe ∧ oe.data = .fields vs ∧ h.get? a = some oe ∧ Inv (X.suite a ((a, oe) :: (X.pn ++ pins))) [] z H { s1 with heap := h } := fun {h} u f => by
    obtain ⟨oe, vs, e1, e2, e3⟩ := f.there
    exact ⟨oe, vs, e2, e3, e1, (at_ u f).suite e1 e3 na nL nF⟩
  obtain ⟨oe, vs, ez, ed, eg, S3⟩ := su up fl
  have LT : PySem.W.Looks (model X.prog X.w) h3 (typeOf (.ref a)) cls := fun A Q E s k q => wpAny_typeOf_ref (k _ _ eg) (by rw [ez.1]; exact q)
  have ask : ∀ {x : Str} {c : Value} {p : Pos} {Q E : Value → Shared → Prop}, Names X x c → Q c { s1 with heap := h3 } → wpAny (model X.prog X.w) (X.A.mark (some (.ref a))) (eval (.Name x p) X.env) Q E { s1 with heap := h3 } := fun {x c p Q E} nm q => by
    obtain ⟨g1, g2, g3 | ⟨g3, g4, g5⟩⟩ := nm
    · exact ld_glob (X := X.suite a ((a, oe) :: (X.pn ++ pins))) S3 g1 g3 q g2
    · exact ld_blt (X := X.suite a ((a, oe) :: (X.pn ++ pins))) S3 g1 g3 g4 q g5 g2
  intro hs l ck
  induction ck with
  | nil =>
    intro w
    refine wpAny_handleBy_nil ?_
    obtain ⟨_, _, _, o2, vs2, T, _, _, g1, _, g2, g3, _⟩ := id fl
    unfold PySem.passOn
    refine wpAny_bind (wpAny_field g1 g2 g3 ?_)
    rw [if_neg (by simp : ¬ ((Value.ref T == Value.none) = true))]
    have go : wpAny (model X.prog X.w) X.A (setFlight (.ref a) X.env.frame) (fun _ s4 => wpAny (model X.prog X.w) X.A (throw (.ref a) : Sem Flow) (SP X pins D) X.xe s4) X.xe { s1 with heap := h3 } := by
      rw [efr]
      refine HandSPX.setFlight_upZ fl fun h4 held up4 => wpAny_throw (tk _ _ ⟨a, B, sI, pins, z, H, cls, d, rfl, J, nb, up.trans up4, .inr (.inr ?_), na, eos, ag, w⟩)
      rw [est]
      exact held
    first
      | exact wpAny_bind (wpAny_pure (wpAny_bind go))
      | exact wpAny_bind go
  | @bare x c ts st su' p q hs2 l2 nm k r ih =>
    intro w
    obtain ⟨b, e1, yes, no⟩ := w
    refine wpAny_handleBy_cons (codeAny_handlers_test ?_) (fun q => nomatch q)
    refine ask nm ((PySem.W.exm_one (M := model X.prog X.w) (at_ up fl).kIn LT e1).here ?_)
    cases b with
    | false =>
      show wpAny _ X.A (handleBy (.ref a) X.env hs2) _ _ _
      exact ih (no rfl)
    | true =>
      refine codeAny_handlers_suite (HandSPX.lands_againZ fl fun h4 fl4 up4 => ?_)
      obtain ⟨oe4, vs4, f1, f2, _, S4⟩ := su (up.trans up4) fl4
      exact wpAny_mono ((k a oe4 cls d (X.pn ++ pins) f1 ⟨_, f2⟩).run [] _ _ H _ S4 (yes rfl a na)) (fun f s6 y => suite_end ok y) fun _ _ y => False.elim y
  | @named x n i c ts st su' p q hs2 l2 nm hi hn k r ih =>
    intro w
    obtain ⟨b, e1, yes, no⟩ := w
    refine wpAny_handleBy_cons (codeAny_handlers_test ?_) (fun q => nomatch q)
    refine ask nm ((PySem.W.exm_one (M := model X.prog X.w) (at_ up fl).kIn LT e1).here ?_)
    cases b with
    | false =>
      show wpAny _ X.A (handleBy (.ref a) X.env hs2) _ _ _
      exact ih (no rfl)
    | true =>
      refine codeAny_handlers_suite_as (HandSPX.lands_againZ fl fun h4 fl4 up4 => ?_)
      obtain ⟨oe4, vs4, f1, f2, _, S4⟩ := su (up.trans up4) fl4
      refine store_ok (X := X.suite a ((a, oe4) :: (X.pn ++ pins))) (v := .ref a) S4 nd hi (.inl hn) rfl (fun s5 S5 => ?_) (.inr hn)
      exact wpAny_mono ((k a oe4 cls d (X.pn ++ pins) f1 ⟨_, f2⟩).run [] s5 _ H _ S5 (yes rfl a na)) (fun f s6 y => suite_endN ok nd hi hn y) fun _ _ y => False.elim y
theorem run_tryG {s : Shared} (est : X.stack = X.env :: X.outer) (efr : X.env.frame = some X.env.locals) (nd : X.N.Nodup) (tk : Takes X Wo) (ck : ClzOk X (h0 :: hs) l) (I : Inv X pins z H s)
    (hb : ∀ xe : Value → Shared → Prop, Takes (X.tr (X.pn ++ pins) xe) (wClz X.K Wo D l) → PassesOwn (model X.prog X.w) X.A X.env xe → wpAny (model X.prog X.w) X.A (execs body X.env) (SP (X.tr (X.pn ++ pins) xe) [] D) xe s) :
    wpAny (model X.prog X.w) X.A (exec (.Try body (h0 :: hs) [] [] pos) X.env) (SP X pins D) X.xe s := by
  have ok := I.ok
  have fr : X.A.frames = some (X.env :: X.outer) := ok.frames.trans (congrArg some est)
  refine wpAny_Try_except ?_
  refine wpAny_mono (hb (fun e s₁ => wpAny (model X.prog X.w) X.A (noteFrame e X.env) (fun _ s₂ => wpAny (model X.prog X.w) X.A (setFlight e none) (fun _ s₃ => wpAny (model X.prog X.w) X.A (handleBy e X.env (h0 :: hs)) (SP X pins D) X.xe s₃) X.xe s₂) X.xe s₁) (fun u s1 y => ?_) PassesOwn.looking) (fun f s1 y => ?_) fun _ _ y => y
  · obtain ⟨a, B, sI, pins2, z2, H2, cls, d, rfl, J', nb, up, sky, na, eos, ag, w⟩ := y
    have J : Inv X pins z2 H2 sI := J'.ofTry ok
    have sky2 : Sky B (X.env :: X.outer) a (Zc cls d) X.env.locals s1.heap := est ▸ sky
    show wpAny (model X.prog X.w) X.A (noteFrame (.ref a) X.env) _ _ _
    refine Sky.land Zc.steady fr efr sky2 fun h3 fl up3 => ?_
    obtain ⟨oe, vs, e1, _, e3⟩ := fl.there
    have nfr : a ∉ frs (X.env :: X.outer) := fun hm => by
      obtain ⟨_, o2, e4, e5⟩ := fl.2.2.1.mem hm
      rw [e1] at e4
      cases e4
      exact e5 _ e3
    refine clauses ok nd est efr tk J nb (up.trans up3) fl na eos ag (fun y => nfr ?_) (fun hm => nfr ?_) ck w
    · exact List.mem_filterMap.mpr ⟨X.env, List.mem_cons_self, by rw [efr, y]⟩
    · obtain ⟨e, m1, m2⟩ := List.mem_filterMap.mp hm
      exact List.mem_filterMap.mpr ⟨e, List.mem_cons_of_mem _ m1, m2⟩
  · cases f with
    | next => exact let ⟨z1, H1, J, w⟩ := y; wpAny_execs_nil ⟨z1, H1, J.ofTry ok, w⟩
    | brk => exact let ⟨z1, H1, J, w⟩ := y; ⟨z1, H1, J.ofTry ok, w⟩
    | cont => exact let ⟨z1, H1, J, w⟩ := y; ⟨z1, H1, J.ofTry ok, w⟩
    | ret u => exact let ⟨v, z1, H1, J, r, w⟩ := y; ⟨v, z1, H1, J.ofTry ok, r, w⟩
end
end DW

set_option Elab.async false
set_option linter.all false
set_option maxRecDepth 100000
namespace DW
open PySem PySem.Spec PyProof.Rows L2
abbrev DSui := Addr → Value → Option Addr → DS
abbrev DClz := List (Addr × Bool) × Option Nat × DSui
def shutD : Option Nat → DEnds → DEnds
  | none, D => { D with ex := fun _ _ => False }
  | some i, D => { nx := fun ρ => D.nx (ρ.set i .emp), rt := D.rt, bk := fun ρ => D.bk (ρ.set i .emp), ct := fun ρ => D.ct (ρ.set i .emp), ex := fun _ _ => False, rs := fun d ρ => D.rs d (ρ.set i .emp) }
def putX : Option Nat → En → Addr → Option Addr → Xn → En
  | none, ρ, _, _, _ => ρ
  | some i, ρ, a, dd, x => ρ.set i (.dat (.exc a dd x.cls x.fs))
def dClz : List DClz → DEnds → Xn → En → Prop
  | [], D, x, ρ => D.ex x ρ
  | (tb, oi, t) :: r, D, x, ρ => ∃ b, (x.cls, b) ∈ tb ∧ (b = true → ∀ a dd, t a (.ref x.cls) dd (shutD oi D) (putX oi ρ a dd x)) ∧ (b = false → dClz r D x ρ)
def dTry (body : DS) (cl : List DClz) : DS := fun D ρ => body { D with ex := fun x ρ' => dClz cl D x ρ' } ρ
inductive DCs (K : PySem.W.Frag) : List Clz → List DClz → Prop
  | nil : DCs K [] []
  | cons {c : Value} {oi : Option Nat} {ts : Sui} {tb : List (Addr × Bool)} {t : DSui} {l : List Clz} {dl : List DClz} (T : ∀ r ∈ tb, PySem.W.exmOne K (.ref r.1) c = some r.2) (k : ∀ a cls d, SndS K W0 (ts a cls d) (t a cls d)) (r : DCs K l dl) : DCs K ((c, oi, ts) :: l) ((tb, oi, t) :: dl)
theorem XDen.den {K : PySem.W.Frag} {l0 : Addr} {F H : Hp} {cls : Value} {d : Option Addr} {x : Xn} {a : Addr} (r : XDen K l0 F H cls d x) : Den K l0 F (.ref a) (.exc a d x.cls x.fs) := by
  obtain ⟨_, ⟨rfl, e⟩ | ⟨dd, gs, rfl, h1, h2⟩⟩ := r
  · rw [e]
    exact .exc0
  · exact .exc h1 h2
theorem OwS.forget {H : Hp} {σ : L2.St} {ρ : En} (i : Nat) : OwS H σ ρ (σ.set i none) (ρ.set i .emp) := fun a ⟨j, s, h1, h2, h3⟩ => by
  by_cases q : i = j
  · subst q
    have hl : i < ρ.length := by
      have := lt_of_get h1
      rwa [List.length_set] at this
    rw [List.getElem?_set_self hl] at h1
    cases h1
    cases h2
  · rw [List.getElem?_set_ne q] at h1 h3
    exact .inl ⟨j, s, h1, h2, h3⟩
section
variable {K : PySem.W.Frag} {W Wo : WX} {l0 : Addr} {F H : Hp} {σ : L2.St} {ρ : En} {D : DEnds} {C : Ends}
theorem lnk_shut (L : Lnk K Wo l0 F H σ ρ D C) (b : Base l0 F H) {oi : Option Nat} {a : Addr} {dd : Option Addr} {x : Xn} (r : Den K l0 F (.ref a) (.exc a dd x.cls x.fs)) (S : Stt K l0 F H σ ρ) : Stt K l0 F H (put oi σ a) (putX oi ρ a dd x) ∧ Lnk K W0 l0 F H (put oi σ a) (putX oi ρ a dd x) (shutD oi D) (shut oi C) := by
  cases oi with
  | none => exact ⟨S, L.nx, L.rt, L.bk, L.ct, fun _ _ _ _ _ _ _ _ _ _ _ q => q.elim, L.rs⟩
  | some i =>
    have w0 : OwS H σ ρ (put (some i) σ a) (putX (some i) ρ a dd x) := .put i
    have L1 := L.trans b (.of (.refl b)) w0
    refine ⟨S.put i r, fun F' H' σ' ρ' g w S' q => ?_, fun F' H' v d g r q => L1.rt F' H' v d g r q, fun F' H' σ' ρ' g w S' q => ?_, fun F' H' σ' ρ' g w S' q => ?_, fun _ _ _ _ _ _ _ _ _ _ _ q => q.elim, fun F' H' σ' ρ' v d g w S' r q => (L1.trans b g w).rs F' H' _ _ v d (.of (.refl g.bs)) (.forget i) (S'.forget i) r q⟩
    · exact (L1.trans b g w).nx F' H' _ _ (.of (.refl g.bs)) (.forget i) (S'.forget i) q
    · exact (L1.trans b g w).bk F' H' _ _ (.of (.refl g.bs)) (.forget i) (S'.forget i) q
    · exact (L1.trans b g w).ct F' H' _ _ (.of (.refl g.bs)) (.forget i) (S'.forget i) q
theorem snd_clz {l : List Clz} {dl : List DClz} (k : DCs K l dl) : ∀ {cls : Value} {d : Option Addr} {x : Xn} {F H : Hp} {σ : L2.St} {ρ : En}, Lnk K Wo l0 F H σ ρ D C → Stt K l0 F H σ ρ → XDen K l0 F H cls d x → dClz dl D x ρ → wClz K Wo C l cls d σ H := by
  induction k with
  | nil =>
    intro cls d x F H σ ρ L S r q
    exact L.ex cls d x F H σ ρ (.of (.refl S.bs)) .refl S r q
  | @cons c oi ts tb t l dl T k _ ih =>
    intro cls d x F H σ ρ L S r q
    obtain ⟨b, m, yes, no⟩ := q
    have e := r.1
    refine ⟨b, by rw [e]; exact T _ m, fun hb a na => ?_, fun hb => ih L S r (no hb)⟩
    obtain ⟨S1, L1⟩ := lnk_shut (oi := oi) (a := a) L S.bs r.den S
    rw [e]
    exact k a _ d _ _ (yes hb a d) l0 F H _ S1 _ L1
end
def DCk (X : Cx) (hs : List ExceptHandler) (l : List Clz) (dl : List DClz) : Prop := ClzOk X hs l ∧ DCs X.K l dl
section
variable {X : Cx} {W : WX} {body su : List Stmt} {st : Stmt} {hs : List ExceptHandler} {h0 : ExceptHandler} {l : List Clz} {dl : List DClz} {pos p q : Pos} {x n : Str} {C : Addr} {tb : List (Addr × Bool)} {t : DSui}
theorem dck_nil : DCk X [] [] [] := ⟨.nil, .nil⟩
def semS (K : PySem.W.Frag) (W : WX) (ds : DS) : TS := fun C σ H => ∃ D ρ l0 F, ds D ρ ∧ Stt K l0 F H σ ρ ∧ Lnk K W l0 F H σ ρ D C
theorem snd_sem {K : PySem.W.Frag} {ds : DS} : SndS K W (semS K W ds) ds := fun D ρ h l0 F H σ S C L => ⟨D, ρ, l0, F, h, S, L⟩
theorem pss_sem {ts : TS} {ds : DS} (h : DSSX X W su ts ds) : PSs X su (semS X.K W ds) := ⟨fun pins s σ H C I ⟨D, ρ, l0, F, q, S, L⟩ => h.1.run pins s σ H C I (h.2 D ρ q l0 F H σ S C L)⟩
theorem dck_bare {ts : Addr → Obj → Value → Option Addr → List (Addr × Obj) → TS} (T : ∀ r ∈ tb, PySem.W.exmOne X.K (.ref r.1) (.ref C) = some r.2) (hg : Gl X x) (hm : X.mg x = some (.ref C))
    (k : ∀ (a : Addr) (oe : Obj) (cls : Value) (d : Option Addr) (pn : List (Addr × Obj)), Zc cls d oe → (∃ vs, oe.data = .fields vs) → DSSX (X.suite a ((a, oe) :: pn)) W0 (st :: su) (ts a oe cls d pn) (t a cls d)) (r : DCk X hs l dl) (hd : (x == ("__debug__" : Str)) = false := by decide) :
    DCk X (.ExceptHandler (some (.Name x p)) none (st :: su) q :: hs) ((.ref C, none, fun a cls d => semS X.K W0 (t a cls d)) :: l) ((tb, none, t) :: dl) :=
  ⟨.bare ⟨hg, hd, .inl hm⟩ (fun a oe cls d pn hz hf => pss_sem (k a oe cls d pn hz hf)) r.1, .cons T (fun a cls d => snd_sem) r.2⟩
theorem dck_named {i : Nat} {ts : Addr → Obj → Value → Option Addr → List (Addr × Obj) → TS} (T : ∀ r ∈ tb, PySem.W.exmOne X.K (.ref r.1) (.ref C) = some r.2) (hg : Gl X x) (hm : X.mg x = some (.ref C))
    (k : ∀ (a : Addr) (oe : Obj) (cls : Value) (d : Option Addr) (pn : List (Addr × Obj)), Zc cls d oe → (∃ vs, oe.data = .fields vs) → DSSX (X.suite a ((a, oe) :: pn)) W0 (st :: su) (ts a oe cls d pn) (t a cls d)) (r : DCk X hs l dl) (hi : X.N[i]? = some n := by rfl) (hn : X.env.kindOf n = some .local := by rfl) (hd : (x == ("__debug__" : Str)) = false := by decide) :
    DCk X (.ExceptHandler (some (.Name x p)) (some n) (st :: su) q :: hs) ((.ref C, some i, fun a cls d => semS X.K W0 (t a cls d)) :: l) ((tb, some i, t) :: dl) :=
  ⟨.named ⟨hg, hd, .inl hm⟩ hi hn (fun a oe cls d pn hz hf => pss_sem (k a oe cls d pn hz hf)) r.1, .cons T (fun a cls d => snd_sem) r.2⟩
theorem ds_try {tb : WX → List (Addr × Obj) → (Value → Shared → Prop) → TS} {db : DS} (nd : X.N.Nodup) (tk : Takes X W)
    (hb : ∀ (W' : WX) (pn : List (Addr × Obj)) (xe : Value → Shared → Prop), Takes (X.tr pn xe) W' → PassesOwn (model X.prog X.w) X.A X.env xe → DSSX (X.tr pn xe) W' body (tb W' pn xe) db) (k : DCk X (h0 :: hs) l dl)
    (est : X.stack = X.env :: X.outer := by rfl) (efr : X.env.frame = some X.env.locals := by rfl) : DSX X W (.Try body (h0 :: hs) [] [] pos) (semS X.K W (dTry db dl)) (dTry db dl) := by
  refine ⟨⟨fun pins s σ H C I ⟨D, ρ, l0, F, q, S, L⟩ => ?_⟩, snd_sem⟩
  refine run_tryG est efr nd tk k.1 I fun xe t po => ?_
  obtain ⟨h1, h2⟩ := hb (wClz X.K W C l) (X.pn ++ pins) xe t po
  refine h1.run [] s σ H C (I.toTry xe) (h2 _ ρ q l0 F H σ S C ⟨L.nx, L.rt, L.bk, L.ct, fun cls d x F' H' σ' ρ' g w S' r q => snd_clz k.2 (L.trans S.bs g w) S' r q, L.rs⟩)
end
def dXf (a : Addr) (cls : Value) (d : Option Addr) (C : Addr) (f : Str) (de : DE) : DE := fun ρ Q E => de ρ (fun s => ∃ gs dt, cls = .ref C ∧ s = .dat (.exc a d C gs) ∧ gs.lookup f = some dt ∧ Q (.dat dt)) E
def dIsX (a : Addr) (cls : Value) (d : Option Addr) (D : V) (tbl : List (Addr × Bool)) : DCl := fun ss Q => ∃ C gs b, ss = [.dat (.exc a d C gs), .dat (.v D)] ∧ cls = .ref C ∧ (C, b) ∈ tbl ∧ Q (.dat (.v (.bl b)))
structure IsTblX (K : PySem.W.Frag) (D : V) (tbl : List (Addr × Bool)) : Prop where
  own : ∀ r ∈ tbl, ExcC K r.1 ∧ (PySem.W.clsIn K r.1).isSome = true
  at_ : ∃ cv : Value, (∀ u, RelV D u → u = cv) ∧ ∀ r ∈ tbl, PySem.W.kitOne K (.ref r.1) cv = some r.2
section
variable {X : Cx} {a C : Addr} {oe : Obj} {cls : Value} {d : Option Addr} {pn : List (Addr × Obj)} {e : Expr} {te : TE} {de : DE} {pos : Pos} {n : Str}
theorem de_xf (T : XfC X.K C) (hno : PySem.W.findIn X.K (.ref C) n = some none) (hz : Zc cls d oe) (hf : ∃ vs, oe.data = .fields vs) (he : DEX (X.suite a ((a, oe) :: pn)) W0 e te de) (hb : attributeBase e n X.env (eval e X.env) = eval e X.env := by rfl) :
    DEX (X.suite a ((a, oe) :: pn)) W0 (.Attribute e n pos) (tXf a cls d C n te) (dXf a cls d C n de) := by
  refine ⟨pe_xf T hno hz hf he.1 hb, fun ρ Q E q l0 F H σ S Qc k kx => ?_⟩
  refine he.2 ρ _ E q l0 F H σ S _ (fun x s F1 H1 g1 r1 q1 => ?_) kx
  obtain ⟨gs, dt, e1, e2, e3, q2⟩ := q1
  subst e2
  cases r1 with
  | @exc _ dd _ fs _ h r =>
    obtain ⟨v, h2, h3⟩ := r.look e3
    exact ⟨rfl, e1, dd, fs, v, rfl, g1.bs.sub _ _ h, h2, k v (.dat dt) F1 H1 g1 h3 q2⟩
  | exc0 => cases e3
def rIsX (K : PySem.W.Frag) (a : Addr) (cls : Value) (d : Option Addr) : List V → Hp → VK → Prop := fun xs H Q => ∃ (C : Addr) (c : V) (cv : Value) (b : Bool), cls = .ref C ∧ ExcC K C ∧ (PySem.W.clsIn K C).isSome = true ∧ (d = none ∨ ∃ dd fs, d = some dd ∧ H dd = some (.xd fs)) ∧ xs = [.ref a, c] ∧ (∀ u, RelV c u → u = cv) ∧ PySem.W.kitOne K (.ref C) cv = some b ∧ Q (.bl b) H
theorem call_isX (hz : Zc cls d oe) (hf : ∃ vs, oe.data = .fields vs) : CallR (X.suite a ((a, oe) :: pn)) (.builtin "isinstance") (rIsX X.K a cls d) := by
  intro pins s σ H xs us Q I r h
  obtain ⟨C, c, cv, b, rfl, T, hcl, hd, rfl, hcv, hk, q⟩ := h
  cases r with
  | cons rx rr =>
    cases rr with
    | cons rt rr =>
      cases rr
      cases rx
      obtain rfl := hcv _ rt
      obtain ⟨hget, _⟩ := I.pin (a, oe) (List.mem_append.mpr (.inl List.mem_cons_self))
      obtain ⟨vs, hv⟩ := hf
      have J : ∃ od, PySem.W.InstAt s.heap a oe C od := by
        rcases hd with rfl | ⟨dd, fs, rfl, hdd⟩
        · exact ⟨none, hget, hz.1, by unfold PySem.W.notCls; rw [hv] <;> rfl, by rw [hz.2]; trivial⟩
        · have hx : ObjOk X.prog X.w H s.heap dd (.xd fs) := I.hok dd _ hdd
          obtain ⟨mA, hns, hr⟩ := hx
          obtain ⟨od, ho, hl⟩ := lookIn_ns hns
          exact ⟨some od, hget, hz.1, by unfold PySem.W.notCls; rw [hv] <;> rfl, by rw [hz.2]; exact ho⟩
      obtain ⟨od, J⟩ := J
      exact PySem.W.kia_one (PySem.W.kitx_exc hcl T.hg T.hk T.hs T.ha T.hn T.ht T.hm) I.kIn J hk (fun z => nomatch z) fun tk => ⟨.bl b, H, I.kept (t' := tk) fun _ _ z => z, rfl, q⟩
theorem sc_isX {K : PySem.W.Frag} {D : V} {tbl : List (Addr × Bool)} (T : IsTblX K D tbl) : SndC K (rIsX K a cls d) (dIsX a cls d D tbl) := fun vs ss Q h l0 F H b r Qc k => by
  obtain ⟨C, gs, v, e, hc, hm, q⟩ := h
  subst e
  obtain ⟨cv, h1, h2⟩ := T.at_
  obtain ⟨h3, h4⟩ := T.own _ hm
  cases r with
  | cons r1 r =>
    cases r with
    | cons r2 r =>
      cases r
      obtain rfl := r2.val
      have e1 : (d = none ∨ ∃ dd fs, d = some dd ∧ H dd = some (.xd fs)) := by
        cases r1 with
        | exc h _ => exact .inr ⟨_, _, rfl, b.sub _ _ h⟩
        | exc0 => exact .inl rfl
      cases r1 with
      | exc h _ => exact ⟨C, _, cv, v, hc, h3, h4, e1, rfl, h1, h2 _ hm, k.here b q⟩
      | exc0 => exact ⟨C, _, cv, v, hc, h3, h4, e1, rfl, h1, h2 _ hm, k.here b q⟩
end
end DW

set_option Elab.async false
set_option linter.all false
set_option maxRecDepth 100000
namespace DW
open PySem PySem.Spec PyProof.Rows L2 NdefX
abbrev FnWX : Type := Option (Str × Str × Arguments × FuncBody × Scope × Addr × List Str × Addr)
def fnWX (K : PySem.W.Frag) (p : Str × Option Str) : FnWX := match K.lookup (He.fAd K p) with
  | some ⟨_, _, .func fd, _⟩ => some (fd.name, fd.qualname, fd.params, fd.body, fd.scope, fd.globals, fd.closure.map (·.1), fd.builtins)
  | _ => none
structure DefX where
  at_ : Str × Option Str
  name : Str
  qual : Str
  params : Arguments
  body : List Stmt
  scope : Scope
  own : Str
def DefX.val (d : DefX) : FnWX := some (d.name, d.qual, d.params, .stmts d.body, d.scope, mainGlobals, ["__class__"], builtinsNs)
def codeB (file : Str) (o : Option Obj) : Bool := match o with
  | some ⟨_, _, .fields vs, _⟩ => (match (vs[2]? : Option Value) with
    | some (Value.str fl _) => (file == fl)
    | _ => false)
  | _ => false
def cellB (D : Addr) (o : Option Obj) : Bool := match o with
  | some ⟨_, _, .cell (some (.ref E)), _⟩ => decide (E = D)
  | _ => false
def codeOf (K : PySem.W.Frag) (p : Str × Option Str) : Addr := match K.lookup (He.fAd K p) with
  | some ⟨_, _, .func fd, _⟩ => (match fd.code with
    | .ref c => c
    | _ => 0)
  | _ => 0
def cellOf (K : PySem.W.Frag) (p : Str × Option Str) : Addr := match K.lookup (He.fAd K p) with
  | some ⟨_, _, .func fd, _⟩ => (match fd.closure with
    | (_, c) :: _ => c
    | _ => 0)
  | _ => 0
def dfNone : Value → Bool
  | .none => true
  | _ => false
theorem dfNone_ok {v : Value} (h : dfNone v = true) : v = .none := by cases v <;> first | rfl | cases h
def codRef (c : Addr) : Value → Bool
  | .ref d => decide (d = c)
  | _ => false
theorem codRef_ok {c : Addr} {v : Value} (h : codRef c v = true) : v = .ref c := by
  cases v with
  | ref d => exact congrArg Value.ref (of_decide_eq_true h)
  | _ => cases h
def DefX.ok (P : Program) (K : PySem.W.Frag) (d : DefX) : Bool := PySem.W.keepIn K (.ref (He.fAd K d.at_)) && ((match K.lookup (He.fAd K d.at_) with
  | some ⟨_, _, .func fd, _⟩ => PySem.W.codeIn K fd.code d.qual && (dfNone fd.defaults && (codRef (codeOf K d.at_) fd.code && decide (fd.closure.map (·.2) = [cellOf K d.at_])))
  | _ => false) && (codeB P.main.file (K.lookup (codeOf K d.at_)) && (cellB (He.ga K d.own) (K.lookup (cellOf K d.at_)) && ((PySem.W.clsIn K (He.ga K d.own)).isSome && (He.eqO (PySem.W.nsIn K mainGlobals "super") (some none) && !(P.main.scope.names.lookup ("super" : Str)).isSome)))))
theorem zip_one {l : List (Str × Addr)} {x : Str} {c : Addr} (h1 : l.map (·.1) = [x]) (h2 : l.map (·.2) = [c]) : l = [(x, c)] := by
  match l, h1, h2 with
  | [(a, b)], h1, h2 =>
    simp only [List.map_cons, List.map_nil, List.cons.injEq, and_true] at h1 h2
    rw [h1, h2]
theorem DefX.funX {P : Program} {K : PySem.W.Frag} {d : DefX} (e : fnWX K d.at_ = d.val) (c : d.ok P K = true) : ∃ fd, FunX P K ⟨d.name, d.qual, d.params, d.body, d.scope, [("__class__", cellOf K d.at_)], codeOf K d.at_⟩ (He.ga K d.own) (He.fAd K d.at_) fd := by
  obtain ⟨kp, c⟩ := He.ba c
  obtain ⟨c2, c⟩ := He.ba c
  obtain ⟨c3, c⟩ := He.ba c
  obtain ⟨c4, c⟩ := He.ba c
  obtain ⟨c5, c⟩ := He.ba c
  obtain ⟨c6, c7⟩ := He.ba c
  unfold fnWX at e
  cases q : K.lookup (He.fAd K d.at_) with
  | none =>
    rw [q] at c2
    cases c2
  | some o =>
    obtain ⟨oc, od, dt, osl⟩ := o
    rw [q] at c2 e
    cases dt with
    | func fd =>
      obtain ⟨n1, n2, n3, n4, n5, n6, n7, n8, n9, n10, n11, n12, n13, n14, n15⟩ := fd
      have e2 : (some (n1, n2, n3, n4, n5, n6, n7.map (·.1), n15) : FnWX) = (some (d.name, d.qual, d.params, FuncBody.stmts d.body, d.scope, mainGlobals, ["__class__"], builtinsNs) : FnWX) := e
      simp only [Option.some.injEq, Prod.mk.injEq] at e2
      obtain ⟨h1, h2, h3, h4, h5, h6, h7, h8⟩ := e2
      have c3' : (PySem.W.codeIn K n13 d.qual && (dfNone n8 && (codRef (codeOf K d.at_) n13 && decide (n7.map (·.2) = [cellOf K d.at_])))) = true := c2
      obtain ⟨k1, k⟩ := He.ba c3'
      obtain ⟨k2, k⟩ := He.ba k
      obtain ⟨k3, k4⟩ := He.ba k
      have k2 := dfNone_ok k2
      have k3 := codRef_ok k3
      have k4 := zip_one h7 (of_decide_eq_true k4)
      subst k2 k3 k4 h1 h2 h3 h4 h5 h6 h8
      refine ⟨_, ⟨⟨oc, od, n9, n10, n11, n12, n14, osl, rfl, q⟩, k1, ?_, ⟨_, rfl, ?_⟩, ?_, He.eqO_ok c6, kp, ?_⟩⟩
      · unfold codeB at c3
        split at c3
        · rename_i cc cd vs sl ho
          split at c3
          · rename_i fl tf hv
            exact ⟨cc, cd, vs, sl, fl, tf, ho, hv, c3⟩
          · cases c3
        · cases c3
      · unfold cellB at c4
        split at c4
        · rename_i cv cd E sl ho
          have := of_decide_eq_true c4
          subst this
          exact ⟨cv, cd, sl, ho⟩
        · cases c4
      · cases z : PySem.W.clsIn K (He.ga K d.own) with
        | some cd => exact ⟨cd, rfl⟩
        | none => rw [z] at c5; cases c5
      · simpa using c7
    | _ => cases c2
structure DefP where
  ad : PySem.W.Frag → Addr
  name : Str
  qual : Str
  params : Arguments
  body : List Stmt
  scope : Scope
  dfl : List He.Dv := []
def fnWP (K : PySem.W.Frag) (a : Addr) : He.FnW := match K.lookup a with
  | some ⟨_, _, .func fd, _⟩ => some (fd.name, fd.qualname, fd.params, fd.body, fd.scope, fd.globals, fd.closure, fd.builtins)
  | _ => none
def DefP.val (d : DefP) : He.FnW := some (d.name, d.qual, d.params, .stmts d.body, d.scope, mainGlobals, [], builtinsNs)
def DefP.dvs (K : PySem.W.Frag) (d : DefP) : List V := d.dfl.map (He.Dv.v K)
def DefP.ok (K : PySem.W.Frag) (d : DefP) : Bool := PySem.W.keepIn K (.ref (d.ad K)) && (match K.lookup (d.ad K) with
  | some ⟨_, _, .func fd, _⟩ => PySem.W.codeIn K fd.code d.qual && He.dflB K fd.defaults (d.dvs K)
  | _ => false)
theorem DefP.funD {K : PySem.W.Frag} {d : DefP} (e : fnWP K (d.ad K) = d.val) (c : d.ok K = true) : ∃ fd, FunD K d.name d.qual d.params d.body d.scope (d.dvs K) [] (d.ad K) fd := by
  obtain ⟨kp, c2⟩ := He.ba c
  unfold fnWP at e
  cases q : K.lookup (d.ad K) with
  | none =>
    rw [q] at c2
    cases c2
  | some o =>
    obtain ⟨oc, od, dt, osl⟩ := o
    rw [q] at c2 e
    cases dt with
    | func fd =>
      obtain ⟨n1, n2, n3, n4, n5, n6, n7, n8, n9, n10, n11, n12, n13, n14, n15⟩ := fd
      have e2 : (some (n1, n2, n3, n4, n5, n6, n7, n15) : He.FnW) = some (d.name, d.qual, d.params, .stmts d.body, d.scope, mainGlobals, [], builtinsNs) := e
      simp only [Option.some.injEq, Prod.mk.injEq] at e2
      obtain ⟨h1, h2, h3, h4, h5, h6, h7, h8⟩ := e2
      subst h1 h2 h3 h4 h5 h6 h7 h8
      have c3 : (PySem.W.codeIn K n13 d.qual && He.dflB K n8 (d.dvs K)) = true := c2
      obtain ⟨k1, k3⟩ := He.ba c3
      exact ⟨_, ⟨oc, od, n8, n9, n10, n11, n12, n13, n14, osl, rfl, q, k1, He.dflB_ok k3, .inl rfl⟩, kp⟩
    | _ => cases c2
abbrev AlX : Type := He.AlD × (List Bool × List FnWX) × List Bool × List Bool × List He.FnW
structure Top where
  fa : List He.Fa
  fn : List He.DefD
  fx : List DefX
  ex : List (PySem.W.Frag → Bool)
  fp : List DefP
def Top.obs (P : Program) (t : Top) (K : PySem.W.Frag) : AlX := (He.obsD t.fa t.fn K, (t.fx.map fun d => d.ok P K, t.fx.map fun d => fnWX K d.at_), t.ex.map fun e => e K, t.fp.map fun d => d.ok K, t.fp.map fun d => fnWP K (d.ad K))
def Top.val (t : Top) : AlX := (He.valD t.fn, (t.fx.map fun _ => true, t.fx.map DefX.val), t.ex.map fun _ => true, t.fp.map fun _ => true, t.fp.map DefP.val)
section
variable {P : Program} {K : PySem.W.Frag} {t : Top}
theorem Top.sd (c : t.obs P K = t.val) : He.SaysD t.fa t.fn K := congrArg (fun z : AlX => z.1) c
theorem all_true {α : Type} {l : List α} {f : α → Bool} (h : l.map f = l.map fun _ => true) {i : Nat} {x : α} (e : l[i]? = some x) : f x = true := by
  have h2 : (l.map f)[i]? = (l.map fun _ => true)[i]? := by rw [h]
  rw [List.getElem?_map, List.getElem?_map, e] at h2
  exact Option.some.inj h2
theorem Top.e (c : t.obs P K = t.val) (i : Nat) {f : PySem.W.Frag → Bool} (e : t.ex[i]? = some f := by rfl) : f K = true :=
  all_true (f := fun f : PySem.W.Frag → Bool => f K) (congrArg (fun z : AlX => z.2.2.1) c) e
theorem Top.x (c : t.obs P K = t.val) (i : Nat) {d : DefX} (e : t.fx[i]? = some d := by rfl) : ∃ fd, FunX P K ⟨d.name, d.qual, d.params, d.body, d.scope, [("__class__", cellOf K d.at_)], codeOf K d.at_⟩ (He.ga K d.own) (He.fAd K d.at_) fd := by
  have h1 : t.fx.map (fun d => d.ok P K) = t.fx.map fun _ => true := congrArg (fun z : AlX => z.2.1.1) c
  have h2 : t.fx.map (fun d => fnWX K d.at_) = t.fx.map DefX.val := congrArg (fun z : AlX => z.2.1.2) c
  have h3 : (t.fx.map (fun d => fnWX K d.at_))[i]? = (t.fx.map DefX.val)[i]? := by rw [h2]
  rw [List.getElem?_map, List.getElem?_map, e] at h3
  exact DefX.funX (Option.some.inj h3) (all_true h1 e)
theorem Top.p (c : t.obs P K = t.val) (i : Nat) {d : DefP} (e : t.fp[i]? = some d := by rfl) : ∃ fd, FunD K d.name d.qual d.params d.body d.scope (d.dvs K) [] (d.ad K) fd := by
  have h1 : t.fp.map (fun d => d.ok K) = t.fp.map fun _ => true := congrArg (fun z : AlX => z.2.2.2.1) c
  have h2 : t.fp.map (fun d => fnWP K (d.ad K)) = t.fp.map DefP.val := congrArg (fun z : AlX => z.2.2.2.2) c
  have h3 : (t.fp.map (fun d => fnWP K (d.ad K)))[i]? = (t.fp.map DefP.val)[i]? := by rw [h2]
  rw [List.getElem?_map, List.getElem?_map, e] at h3
  exact DefP.funD (Option.some.inj h3) (all_true h1 e)
end
section
variable {K : PySem.W.Frag} {C D g : Addr} {m f : Str}
theorem atOk_nil : AtOk K [] f := fun C h => nomatch h
theorem atOk_cons {cs : List Addr} (h1 : Cls K C) (h2 : NoAttr K C f) (r : AtOk K cs f) : AtOk K (C :: cs) f := fun E h => by
  rcases List.mem_cons.mp h with e | h
  · rw [e]
    exact ⟨h1, h2⟩
  · exact r E h
theorem all_nil {α : Type} {p : α → Prop} : ∀ r ∈ ([] : List α), p r := fun r h => nomatch h
theorem all_cons {α : Type} {p : α → Prop} {a : α} {l : List α} (h : p a) (t : ∀ r ∈ l, p r) : ∀ r ∈ a :: l, p r := fun r m => by
  rcases List.mem_cons.mp m with e | m
  · rw [e]
    exact h
  · exact t r m
def mk0B (K : PySem.W.Frag) (C : Addr) : Bool := PySem.W.makesIn K C && (He.eqO (PySem.W.findIn K (.ref C) "__init__") (some (some (.builtin "object.__init__"))) && (decide (PySem.W.mroIn K C (.type "object") = some true) && PySem.W.keepIn K (.ref C)))
theorem mk0B_ok (h : mk0B K C = true) : Mk0 K C := by
  obtain ⟨h1, h⟩ := He.ba h
  obtain ⟨h2, h⟩ := He.ba h
  obtain ⟨h3, h4⟩ := He.ba h
  exact ⟨h1, He.eqO_ok h2, of_decide_eq_true h3, h4⟩
def supMB (K : PySem.W.Frag) (C D : Addr) (m : Str) (g : Addr) : Bool := decide (PySem.W.mroIn K C (.ref D) = some true) && (decide (PySem.W.ks_superIn K C D m = some (some (.ref g))) && (decide (PySem.W.typeIn K (.ref g) = some (.type "function")) && (PySem.W.fnIn K g && He.eqO (PySem.W.nsIn K PySem.cStatics "thirdparty.any") (some none))))
theorem supMB_ok (h : supMB K C D m g = true) : SupM K C D m g := by
  obtain ⟨h1, h⟩ := He.ba h
  obtain ⟨h2, h⟩ := He.ba h
  obtain ⟨h3, h⟩ := He.ba h
  obtain ⟨h4, h5⟩ := He.ba h
  exact ⟨of_decide_eq_true h1, of_decide_eq_true h2, of_decide_eq_true h3, h4, He.eqO_ok h5⟩
def supEB (K : PySem.W.Frag) (C D : Addr) : Bool := decide (PySem.W.mroIn K C (.ref D) = some true) && (decide (PySem.W.ks_superIn K C D "__init__" = some (some (.builtin "ValueError.__init__"))) && (decide (PySem.W.subIn K (.ref C) (.type "ValueError") = some true) && He.eqO (PySem.W.nsIn K PySem.cStatics "thirdparty.any") (some none)))
theorem supEB_ok (h : supEB K C D = true) : SupE K C D := by
  obtain ⟨h1, h⟩ := He.ba h
  obtain ⟨h2, h⟩ := He.ba h
  obtain ⟨h3, h4⟩ := He.ba h
  exact ⟨of_decide_eq_true h1, of_decide_eq_true h2, of_decide_eq_true h3, He.eqO_ok h4⟩
def oexB (K : PySem.W.Frag) (C : Addr) : Bool := (match K.lookup C with
  | some ⟨.type "type", _, .cls cd, sl⟩ => (match cd.mro, sl.toList with
    | .ref E :: bm, [_, _, _, _, some (.builtin n), _] => decide (E = C) && (decide (n = "ValueError.__new__") && (!cd.hasDel && (cd.hasDict && PySem.HandSPX.refsVE bm)))
    | _, _ => false)
  | _ => false) && (He.eqO (PySem.W.findIn K (.ref C) "__setattr__") (some (some (.builtin "object.__setattr__"))) && (decide (PySem.W.subIn K (.ref C) (.type "BaseException") = some true) && (decide (PySem.W.typeIn K (.ref C) = some (.type "type")) && PySem.W.keepIn K (.ref C))))
theorem oexB_ok (h : oexB K C = true) : OexC K C := by
  obtain ⟨h1, h⟩ := He.ba h
  obtain ⟨h2, h⟩ := He.ba h
  obtain ⟨h3, h⟩ := He.ba h
  obtain ⟨h4, h5⟩ := He.ba h
  refine ⟨?_, He.eqO_ok h2, of_decide_eq_true h3, of_decide_eq_true h4, h5⟩
  split at h1
  · rename_i dd cd sl ho
    split at h1
    · rename_i E bm k0 k1 k2 k3 n k5 hm hs
      obtain ⟨c1, c⟩ := He.ba h1
      obtain ⟨c2, c⟩ := He.ba c
      obtain ⟨c3, c⟩ := He.ba c
      obtain ⟨c4, c5⟩ := He.ba c
      have c1 := of_decide_eq_true c1
      have c2 := of_decide_eq_true c2
      have w3 : cd.hasDel = false := by simpa using c3
      subst c1 c2
      obtain ⟨nm, bs, mro, ns, qn, hd, sn, sub, ab, col, del⟩ := cd
      dsimp only at hm w3 c4
      subst hm w3 c4
      have hsl : sl = #[k0, k1, k2, k3, some (.builtin "ValueError.__new__"), k5] := by
        obtain ⟨l⟩ := sl
        simp only at hs
        rw [hs]
      subst hsl
      exact ⟨nm, qn, ns, bs, bm, sn, sub, ab, col, dd, k0, k1, k2, k3, k5, ho, c5⟩
    · cases h1
  · cases h1
def initB (K : PySem.W.Frag) (C f : Addr) : Bool := He.eqO (PySem.W.findIn K (.ref C) "__init__") (some (some (.ref f))) && decide (PySem.W.typeIn K (.ref f) = some (.type "function"))
theorem initB_ok (h : initB K C g = true) : PySem.W.findIn K (.ref C) "__init__" = some (some (.ref g)) ∧ PySem.W.typeIn K (.ref g) = some (.type "function") := by
  obtain ⟨h1, h2⟩ := He.ba h
  exact ⟨He.eqO_ok h1, of_decide_eq_true h2⟩
def noatB (K : PySem.W.Frag) (C : Addr) (f : Str) : Bool := He.eqO (PySem.W.findIn K (.ref C) f) (some none)
theorem noatB_ok (h : noatB K C f = true) : PySem.W.findIn K (.ref C) f = some none := He.eqO_ok h
def excB (K : PySem.W.Frag) (C : Addr) : Bool := He.eqO (PySem.W.findIn K (.ref C) "__getattribute__") (some (some (.builtin "BaseException.__getattribute__"))) && (He.eqO (PySem.W.findIn K (.ref C) "__getattr__") (some none) && (decide (PySem.W.subIn K (.ref C) (.type "BaseException") = some true) && (PySem.W.hasDictIn K C && (He.eqO (PySem.W.findIn K (.ref C) "__class__") (some (some (.builtin "object.__class__"))) &&
  (He.eqO (PySem.W.specialIn K (.builtin "object.__class__") "__get__") (some (some (.builtin "getset_descriptor.__get__"))) && (decide (PySem.W.takesIn K (.builtin "object.__class__") = some true) && (decide (PySem.W.mroIn K C (.type "object") = some true) && (PySem.W.clsIn K C).isSome)))))))
theorem excB_ok (h : excB K C = true) : ExcC K C ∧ (PySem.W.clsIn K C).isSome = true := by
  obtain ⟨h1, h⟩ := He.ba h
  obtain ⟨h2, h⟩ := He.ba h
  obtain ⟨h3, h⟩ := He.ba h
  obtain ⟨h4, h⟩ := He.ba h
  obtain ⟨h5, h⟩ := He.ba h
  obtain ⟨h6, h⟩ := He.ba h
  obtain ⟨h7, h⟩ := He.ba h
  obtain ⟨h8, h9⟩ := He.ba h
  exact ⟨⟨He.eqO_ok h1, He.eqO_ok h2, of_decide_eq_true h3, h4, He.eqO_ok h5, He.eqO_ok h6, of_decide_eq_true h7, of_decide_eq_true h8⟩, h9⟩
theorem excB_xf (h : excB K C = true) : XfC K C := by
  obtain ⟨⟨h1, h2, h3, h4, _, _, _, _⟩, _⟩ := excB_ok h
  exact ⟨h1, h2, h3, h4⟩
def exmB (K : PySem.W.Frag) (C D : Addr) (b : Bool) : Bool := decide (PySem.W.exmOne K (.ref C) (.ref D) = some b)
theorem exmB_ok {b : Bool} (h : exmB K C D b = true) : PySem.W.exmOne K (.ref C) (.ref D) = some b := of_decide_eq_true h
def kiB (K : PySem.W.Frag) (C : Addr) (v : Value) (b : Bool) : Bool := decide (PySem.W.kitOne K (.ref C) v = some b)
theorem kiB_ok {v : Value} {b : Bool} (h : kiB K C v b = true) : PySem.W.kitOne K (.ref C) v = some b := of_decide_eq_true h
def plB (K : PySem.W.Frag) (D : Addr) : Bool := [Ty6.int, .bool, .str, .none, .list, .tuple].all fun t => decide (PySem.W.kitOne K (.type t.nm) (.ref D) = some false)
theorem plB_ok (h : plB K D = true) (t : Ty6) : PySem.W.kitOne K (.type t.nm) (.ref D) = some false := by
  have q := List.all_eq_true.mp h t (by cases t <;> simp)
  exact of_decide_eq_true q
theorem relRef {u : Value} : RelV (.ref D) u → u = .ref D := fun h => h
theorem relTy {n : String} {u : Value} : RelV (.ty n) u → u = .type n := fun h => h
end
theorem MOk.mono {P : Program} {w : World} {K : PySem.W.Frag} {mg : Str → Option Value} {base : Heap} {j k : Nat} {m : Str} {C : Addr} {sd : Sd} (h : MOk P w K mg base j m C sd) (l : j ≤ k) : MOk P w K mg base k m C sd := by
  obtain ⟨g, fd, ps, h1, h2, h3, h4⟩ := h
  exact ⟨g, fd, ps, h1, h2, h3.mono l, h4⟩
theorem MakeOk.mono {P : Program} {w : World} {K : PySem.W.Frag} {mg : Str → Option Value} {base : Heap} {j k : Nat} {x : Str} {C : Addr} {sd : Sd} (h : MakeOk P w K mg base j x C sd) (l : j ≤ k) : MakeOk P w K mg base k x C sd := by
  obtain ⟨f, fd, ps, h1, h2, h3, h4⟩ := h
  exact ⟨f, fd, ps, h1, h2.mono l, h3, h4⟩
end DW

set_option Elab.async false
set_option linter.all false
set_option maxRecDepth 100000
namespace DW
open PySem PySem.Spec PyProof.Rows L2 SlX
def dSeqB (a b : DS) : DS := fun D ρ => a { nx := b D, rt := fun _ => False, bk := fun _ => False, ct := fun _ => False, ex := D.ex } ρ
structure LnkB (K : PySem.W.Frag) (W : WX) (l0 : Addr) (F H : Hp) (σ : L2.St) (ρ : En) (D : DEnds) (C : Ends) : Prop where
  fin : ∀ F' H' σ' ρ' p Cl y d, GoS l0 F H σ ρ F' H' → Stt K l0 F' H' σ' ρ' → ρ'[0]? = some (.oob p Cl []) → Den K l0 F' y d → D.nx (.dat d :: ρ') → ∀ σ'', C.nx σ'' (slH H' p.1 Cl p.2 [some y])
  ex : ∀ cls d x F' H' σ' ρ', GoS l0 F H σ ρ F' H' → OwS H σ ρ σ' ρ' → Stt K l0 F' H' σ' ρ' → XDen K l0 F' H' cls d x → D.ex x ρ' → W cls d σ' H'
theorem LnkB.trans {K : PySem.W.Frag} {W : WX} {l0 : Addr} {F H F1 H1 : Hp} {σ σ1 : L2.St} {ρ ρ1 : En} {D : DEnds} {C : Ends} (L : LnkB K W l0 F H σ ρ D C) (b : Base l0 F H) (g : GoS l0 F H σ ρ F1 H1) (w : OwS H σ ρ σ1 ρ1) : LnkB K W l0 F1 H1 σ1 ρ1 D C where
  fin := fun F' H' σ' ρ' p Cl y d g' S h0 r q => L.fin F' H' σ' ρ' p Cl y d (g.trans b w g') S h0 r q
  ex := fun cls d x F' H' σ' ρ' g' w' S r q => L.ex cls d x F' H' σ' ρ' (g.trans b w g') (OwS.trans b g w w') S r q
def SndB (K : PySem.W.Frag) (W : WX) (ts : TS) (ds : DS) : Prop := ∀ D ρ, ds D ρ → ∀ l0 F H σ, Stt K l0 F H σ ρ → ∀ C : Ends, LnkB K W l0 F H σ ρ D C → ts C σ H
def DSSB (X : Cx) (W : WX) (l : List Stmt) (ts : TS) (ds : DS) : Prop := PSs X l ts ∧ SndB X.K W ts ds
def dSlF (cs : List Addr) (de : DE) : DS := fun D ρ => de ρ (datS fun d => ∃ p Cl, ρ[0]? = some (.oob p Cl []) ∧ Cl ∈ cs ∧ D.nx (.dat d :: ρ)) fun x => D.ex x ρ
def SlOk (K : PySem.W.Frag) (cs : List Addr) (f : Str) : Prop := ∀ C ∈ cs, SCls K C ∧ ∃ p, Slot1 K C f p 0
section
variable {X : Cx} {W : WX} {st : Stmt} {rest : List Stmt} {va vb : TS} {t u : DS}
theorem dssb_cons (h1 : DSX X W st va t) (h2 : DSSB X W rest vb u) : DSSB X W (st :: rest) (tSeq va vb) (dSeqB t u) := by
  obtain ⟨p1, s1⟩ := h1
  obtain ⟨p2, s2⟩ := h2
  refine ⟨pss_cons p1 p2, fun D ρ h l0 F H σ S C L => ?_⟩
  refine s1 _ ρ h l0 F H σ S { C with nx := vb C } ⟨fun F' H' σ' ρ' g w S' q => ?_, fun _ _ _ _ _ _ q => q.elim, fun _ _ _ _ _ _ _ q => q.elim, fun _ _ _ _ _ _ _ q => q.elim, L.ex, fun _ _ _ _ _ _ _ _ _ _ q => q.elim⟩
  exact s2 D ρ' q l0 F' H' σ' S' C (L.trans S.bs g w)
theorem dssb_frz (i : Nat) (h : DSSB X W rest va t) : DSSB X W rest va (dFrz i t) := by
  obtain ⟨p1, s1⟩ := h
  refine ⟨p1, fun D ρ h l0 F H σ S C L => ?_⟩
  unfold dFrz at h
  split at h
  · rename_i ds e
    obtain ⟨F', S', g, w⟩ := S.freeze (getD_own e)
    exact s1 D _ h l0 F' H σ S' C (L.trans S.bs g w)
  · exact h.elim
theorem dssb_slf {value : Expr} {te : TE} {de : DE} {cs : List Addr} {f : Str} (c : SlOk X.K cs f) {y : Str} {p1 p2 pos : Pos} (hv : DEX X W value te de) (hN : X.N[0]? = some y := by rfl) (hvis : Vis X.env.scope y := by first | exact Or.inl rfl | exact Or.inr (Or.inl rfl) | exact Or.inr (Or.inr rfl))
    (hd : (y == ("__debug__" : Str)) = false := by decide) (hcd : (y == ("__classdict__" : Str)) = false := by decide) (hs : swapsWith value (some (.Attribute (.Name y p1) f p2)) pos.line X.env = pure false := by rfl) :
    DSSB X W [.Assign [.Attribute (.Name y p1) f p2] value pos] (sSl X.K (tVar 0) te f) (dSlF cs de) := by
  refine ⟨pss_one (ps_sl (pe_var hN hvis hd hcd) hv.1 hs), fun D ρ h l0 F H σ S C L => ?_⟩
  refine hv.2 ρ _ _ h l0 F H σ S _ (fun v s F1 H1 g1 r1 q1 => ?_) (fun cls d x F' H' g r q => L.ex cls d x F' H' σ ρ (.of g) .refl (S.go g) r q)
  obtain ⟨d, e, q1⟩ := datS_of q1
  subst e
  obtain ⟨p, Cl, hρ, hm, q⟩ := q1
  have S1 := S.go g1
  obtain ⟨gs, hσ, hF, n0, hH, r, _⟩ := S1.oob hρ
  cases r
  obtain ⟨c1, dp, c2⟩ := c Cl hm
  exact ⟨.ref p.1, hσ, p.1, Cl, p.2, dp, [], 0, rfl, .inl ⟨hH, rfl⟩, c1, c2, L.fin F1 H1 σ ρ p Cl v d (.of g1) S1 hρ r1 q σ⟩
end
def spInS (K : PySem.W.Frag) (C : Addr) (sd : Sd) : Sp := fun vs H Q E => ∃ x us l0 F ds Qd Ed dx, vs = V.ref x :: us ∧ Base l0 F H ∧ F x = none ∧ x ≠ l0 ∧ H x = some (.ins C dx []) ∧ (F dx = none ∧ dx ≠ l0 ∧ H dx = some (.own x)) ∧ Dens K l0 F us ds ∧ sd ds Qd Ed ∧
  (∀ y d F' H', GoI l0 x F H F' H' → F' x = none → H' x = some (.ins C dx []) → F' dx = none → H' dx = some (.own x) → Den K l0 F' y d → Qd (.slt C d) → Q .non (slH H' x C dx [some y])) ∧ (∀ cls dct xn F' H', GoI l0 x F H F' H' → XDen K l0 F' H' cls dct xn → Ed xn → E cls dct H')
def dEndsS (p : Addr × Addr) (C : Addr) (Q : Dt → Prop) (E : Xn → Prop) : DEnds := { nx := fun ρ => ∃ d r, ρ = .dat d :: r ∧ r[0]? = some (.oob p C []) ∧ Q (.slt C d), rt := fun _ => False, bk := fun _ => False, ct := fun _ => False, ex := fun x _ => E x }
theorem fn_dSl {P : Program} {w : World} {K : PySem.W.Frag} {mg : Str → Option Value} {base : Heap} {x y qual : Str} {params : Arguments} {body : List Stmt} {scope : Scope} {dvs : List V} {kws : List (Str × V)} {f C : Addr} {fd : FuncData} {N ps : List Str} {k : Nat} {sd : Sd} {ds : DS}
    (F : FunD K x qual params body scope dvs kws f fd) (S : FnScope (y :: N) ps scope) (len : ∀ as Q E, sd as Q E → as.length + 1 = ps.length)
    (hb : ∀ (cdv : Value) (A : Around) (outer : List Env) (s : Shared) (H : Hp) (E : XK), Room k (A.deeper (envOfC qual scope s.heap.objs.size f cdv)) →
      ∃ ts, DSSB (cxOf (L2.CX P w) P w K mg base (y :: N) qual scope f cdv A outer s H E) (fun cls d _ H => E cls d H) body ts ds)
    (hp : ∀ p as Q E, sd as Q E → ds (dEndsS p C Q E) (DW.startI p C (y :: N).length as)) : FnOk P w K mg base (L2.CX P w) (k + 1) f fd ps (spInS K C sd) := by
  refine F.ok S (fun vs H Q E h => ?_) fun cdv A outer s H vs Q E hr h => ?_
  · obtain ⟨x, us, l0, F, as, Qd, Ed, dx, e, b, hF, n0, hH, hd, r, h, _, _⟩ := h
    rw [e, List.length_cons, r.length]
    exact len as Qd Ed h
  · obtain ⟨x, us, l0, F, as, Qd, Ed, dx, e, b, hF, n0, hH, hd, r, h, hq, he⟩ := h
    subst e
    obtain ⟨ts, p, sd⟩ := hb cdv A outer s H E hr
    have toI : ∀ {F' H'}, GoS l0 F H (L2.start (y :: N) (.ref x :: us)) (DW.startI (x, dx) C (y :: N).length as) F' H' → GoI l0 x F H F' H' := fun g =>
      ⟨g.bs, g.ex, fun a h1 h2 => (g.new a h1 h2).imp id startI_ow, fun a o n1 n2 e => g.keep a o n1 (fun z => n2 (startI_ow z)) e⟩
    refine ⟨ts, p, sd _ _ (hp (x, dx) as Qd Ed h) l0 F H _ (Stt.startI b hF n0 hH hd r) _ ⟨fun F' H' σ' ρ' p' Cl v d g S' h0 r q σ'' => ?_, fun cls d x F' H' σ' ρ' g w S' r q => ?_⟩⟩
    · obtain ⟨d', r', e1, e2, q⟩ := q
      cases e1
      rw [h0] at e2
      cases e2
      obtain ⟨gs, _, z1, _, z3, z4, z5, _, z6⟩ := S'.oob h0
      cases z4
      exact hq v d F' H' (toI g) z1 z3 z5 z6 r q
    · exact he cls d x F' H' (toI g) r q
theorem snd_makeSl {K : PySem.W.Frag} {W : WX} {C : Addr} {sd : Sd} {t : TA} {da : DA} (sa : SndA K W t da) : SndE K W (tMakeS C (spInS K C sd) (WE W) t) (dMake sd da) := fun ρ Q E q l0 F H σ S Qc kk kx => by
  refine sa ρ _ E q l0 F H σ S _ (fun vs ss F1 H1 g1 r1 q1 => ?_) kx
  obtain ⟨ds, e, q2⟩ := plain_of q1
  subst e
  intro x dx hx hdx hne
  have b := g1.bs
  have gl : Go l0 F1 H1 F1 (upd (upd H1 dx (.own x)) x (.ins C dx [])) := by
    have ga := Go.loose b (.own x) hdx
    exact ga.trans (Go.loose ga.bs (.ins C dx []) (by rw [upd_ne (Ne.symm hne)]; exact hx))
  have nN : ∀ {a : Addr}, H1 a = none → F1 a = none ∧ a ≠ l0 := fun {a} h => by
    refine ⟨?_, fun e => b.live (by rw [← e]; exact h)⟩
    cases e : F1 a with
    | none => rfl
    | some o => rw [b.sub a o e] at h; cases h
  -- what stood before still stands
  have keepAll : ∀ {F' H'}, GoI l0 x F1 (upd (upd H1 dx (.own x)) x (.ins C dx [])) F' H' → ∀ a o, a ≠ l0 → H1 a = some o → H' a = some o := fun {F' H'} g a o na e => by
    have nx : a ≠ x := fun z => by rw [z, hx] at e; cases e
    exact g.keep a o na nx (gl.keep a o na e)
  have newAll : ∀ {F' H'}, GoI l0 x F1 (upd (upd H1 dx (.own x)) x (.ins C dx [])) F' H' → ∀ a, F1 a = none → F' a ≠ none → H1 a = none := fun {F' H'} g a h1 h2 => by
    rcases g.new a h1 h2 with z | z
    · cases e : H1 a with
      | none => rfl
      | some o =>
        by_cases n : a = l0
        · subst n
          exact absurd z gl.bs.live
        · rw [gl.keep a o n e] at z
          cases z
    · rw [z]
      exact hx
  refine ⟨x, vs, l0, F1, ds, _, E, dx, rfl, gl.bs, (nN hx).1, (nN hx).2, upd_same, ⟨(nN hdx).1, (nN hdx).2, by rw [upd_ne hne, upd_same]⟩, dens_of r1, q2, fun y d F' H' g z1 z3 z4 z5 r q => ⟨rfl, ?_⟩, fun cls dct xn F' H' g r q => ?_⟩
  · have ex : Same F' (upd (upd F' dx (.xd [])) x (SlO x C dx [some y])) := fun a o e => by
      rw [upd_ne (ne_of_none e z1), upd_ne (ne_of_none e z4)]
      exact e
    have hd2 : slH H' x C dx [some y] dx = some (.xd []) := by
      unfold slH
      rw [upd_ne hne, upd_same]
    have hx2 : slH H' x C dx [some y] x = some (SlO x C dx [some y]) := upd_same
    have hne2 : ∀ a, a ≠ x → a ≠ dx → slH H' x C dx [some y] a = H' a := fun a h1 h2 => slH_ne h1 h2
    have go : Go l0 F1 H1 (upd (upd F' dx (.xd [])) x (SlO x C dx [some y])) (slH H' x C dx [some y]) := by
      refine ⟨⟨fun a o e => ?_, by rw [upd_ne (nN hx).2.symm, upd_ne (nN hdx).2.symm]; exact g.bs.nf, ?_⟩, fun a o e => ex a o (g.ex a o e), fun a h1 h2 => ?_, fun a o n e => ?_⟩
      · by_cases w : a = x
        · subst w
          rw [upd_same] at e
          cases e
          exact hx2
        · rw [upd_ne w] at e
          by_cases w2 : a = dx
          · subst w2
            rw [upd_same] at e
            cases e
            exact hd2
          · rw [upd_ne w2] at e
            rw [hne2 a w w2]
            exact g.bs.sub a o e
      · obtain ⟨ns, h1, h2⟩ := g.bs.dr
        exact ⟨ns, by rw [hne2 l0 (nN hx).2.symm (nN hdx).2.symm]; exact h1, h2⟩
      · by_cases w : a = x
        · rw [w]
          exact hx
        · rw [upd_ne w] at h2
          by_cases w2 : a = dx
          · rw [w2]
            exact hdx
          · rw [upd_ne w2] at h2
            exact newAll g a h1 h2
      · have w : a ≠ x := fun z => by rw [z, hx] at e; cases e
        have w2 : a ≠ dx := fun z => by rw [z, hdx] at e; cases e
        rw [hne2 a w w2]
        exact keepAll g a o n e
    refine kk (.ref x) (.dat (.slt C d)) _ _ (g1.trans go) (Den.slt (dx := dx) upd_same ?_ hne (Den.mono ex r)) q
    rw [upd_ne hne, upd_same]
  · have go : Go l0 F1 H1 F' H' := ⟨g.bs, g.ex, newAll g, keepAll g⟩
    exact kx cls dct xn F' H' (g1.trans go) r q
def MakeSl (P : Program) (w : World) (K : PySem.W.Frag) (mg : Str → Option Value) (base : Heap) (k : Nat) (x : Str) (C : Addr) (sd : Sd) : Prop := ∃ (f : Addr) (fd : FuncData) (ps : List Str), Mk K C f ∧ FnOk P w K mg base (L2.CX P w) k f fd ps (spInS K C sd) ∧ mg x = some (.ref C) ∧ Binds K fd ps []
section
variable {X : Cx} {W : WX} {e : Expr} {pos : Pos}
theorem de_makeSl {k : Nat} {C : Addr} {sd : Sd} {x : Str} {p : Pos} {es : List Expr} {t : TA} {da : DA} (M : MakeSl X.prog X.w X.K X.mg X.base k x C sd) (tk : Takes X W) (hr : Room (k + 1) X.A) (hg : Gl X x) (ha : DAX X W (e :: es) t da)
    (hdb : (x == ("__debug__" : Str)) = false := by decide) (he : starEach (e :: es) X.env = (false, eval e X.env) :: starEach es X.env := by rfl) (hpl : (backTo pos (starEach es X.env)).any (·.1) = false := by rfl) :
    DEX X W (.Call (.Name x p) (e :: es) [] pos) (tMakeS C (spInS X.K C sd) (WE W) t) (dMake sd da) := by
  obtain ⟨f, fd, ps, m, F, hm, hb⟩ := M
  exact ⟨pe_makeS m F hr hg hm hb (fun σ => passAt tk σ) ha.1 hdb he hpl, snd_makeSl ha.2⟩
def dSlA (cs : List Addr) (de : DE) : DE := fun ρ Q E => de ρ (fun s => ∃ C d, s = .dat (.slt C d) ∧ C ∈ cs ∧ Q (.dat d)) E
theorem Den.slt_of {K : PySem.W.Frag} {l0 : Addr} {F : Hp} {v : V} {C : Addr} {d : Dt} (r : Den K l0 F v (.slt C d)) : ∃ a dx x, v = .ref a ∧ F a = some (SlO a C dx [some x]) ∧ F dx = some (.xd []) ∧ dx ≠ a ∧ Den K l0 F x d := by
  cases r with
  | slt h h2 ne r => exact ⟨_, _, _, rfl, h, h2, ne, r⟩
theorem de_slA {te : TE} {de : DE} {cs : List Addr} {f : Str} (c : SlOk X.K cs f) (he : DEX X W e te de) (hb : attributeBase e f X.env (eval e X.env) = eval e X.env := by rfl) : DEX X W (.Attribute e f pos) (tSl X.K te f) (dSlA cs de) := by
  refine ⟨pe_sl he.1 hb, fun ρ Q E q l0 F H σ S Qc k kx => ?_⟩
  refine he.2 ρ _ E q l0 F H σ S _ (fun v s F1 H1 g1 r1 q1 => ?_) kx
  obtain ⟨C, d, e1, hm, q2⟩ := q1
  subst e1
  have r1 : Den X.K l0 F1 v (.slt C d) := r1
  obtain ⟨a, dx, x, ev, h, h2, ne, r⟩ := r1.slt_of
  subst ev
  obtain ⟨c1, dp, c2⟩ := c C hm
  exact ⟨a, C, dx, dp, [some x], 0, x, rfl, .inr ⟨g1.bs.sub _ _ h, g1.bs.sub _ _ h2⟩, c1, c2, rfl, k x (.dat d) F1 H1 g1 r q2⟩
end
abbrev prD (p : Int × Int) : Dt := .tup [.v (.int p.1), .v (.int p.2)]
def PrV (K : PySem.W.Frag) (H : Hp) (x : V) (p : Int × Int) : Prop := ∃ t, x = V.ref t ∧ SqT K H t [.int p.1, .int p.2]
def rSortT (K : PySem.W.Frag) : List V → Hp → VK → Prop := fun vs H Q => ∃ (a : Addr) (xs : List V) (ps : List (Int × Int)) (P : V → Int × Int → Prop), vs = [V.ref a] ∧ SqL K H a xs ∧ (∀ x p, P x p → PrV K H x p) ∧ Paired P xs ps ∧
  ∀ ys qs l, SrtO.Srtd SrtO.lexB qs → qs.Perm ps → Paired P ys qs → H l = none → Q (.ref l) (upd H l (.lst ys))
theorem isPair_one {h : Heap} {v : Value} {p q : Int × Int} (a : Srt.IsPair h v p.1 p.2) (b : Srt.IsPair h v q.1 q.2) : p = q := by
  obtain ⟨a1, o1, t1, u1, n1, e1, h1, _, d1⟩ := a
  obtain ⟨a2, o2, t2, u2, n2, e2, h2, _, d2⟩ := b
  rw [e1] at e2
  cases e2
  rw [h1] at h2
  cases h2
  rw [d1] at d2
  injection d2 with d3
  have d4 := congrArg Array.toList d3
  simp at d4
  exact Prod.ext d4.1.1 d4.2.1
theorem Paired.mapBoth {α β γ : Type} {R : β → γ → Prop} {f : α → β} {g : α → γ} : ∀ {l : List α}, (∀ x ∈ l, R (f x) (g x)) → Paired R (l.map f) (l.map g)
  | [], _ => .nil
  | x :: l, h => .cons (h x (by simp)) (Paired.mapBoth fun y hy => h y (by simp [hy]))
theorem paired_map {α β : Type} {R : α → β → Prop} {k : α → β} : ∀ {l : List α} {m : List β}, Paired R l m → (∀ x y, R x y → k x = y) → l.map k = m
  | _, _, .nil, _ => rfl
  | _, _, .cons h t, q => by rw [List.map_cons, q _ _ h, paired_map t q]
theorem paired_mem {α β : Type} {R : α → β → Prop} : ∀ {l : List α} {m : List β} {x : α}, Paired R l m → x ∈ l → ∃ y, R x y
  | _, _, _, .nil, h => by cases h
  | _, _, x, .cons h t, m => by
    rcases List.mem_cons.mp m with e | m
    · subst e
      exact ⟨_, h⟩
    · exact paired_mem t m
theorem pairs_vals {P : V → Int × Int → Prop} {R : Value → Int × Int → Prop} : ∀ {xs : List V} {its : List Value} {ps : List (Int × Int)}, Vals xs its → Paired P xs ps → (∀ x u p, RelV x u → P x p → R u p) → Paired R its ps
  | _, _, _, .nil, .nil, _ => .nil
  | _, _, _, .cons a b, .cons c d, h => .cons (h _ _ _ a c) (pairs_vals b d h)
theorem cr_sortT {X : Cx} : CallR X (.builtin "sorted") (rSortT X.K) := by
  intro pins s σ H vs us Q I r h
  obtain ⟨a, xs, ps, P, rfl, hs, hP, hp, q⟩ := h
  obtain ⟨its, rv, hl, hz⟩ := I.list hs
  obtain ⟨u, rfl, ru⟩ := vals1 r
  obtain rfl : u = Value.ref a := ru
  have one : ∀ (x : V) (u : Value) (p : Int × Int), RelV x u → P x p → Srt.IsPair s.heap u p.1 p.2 ∧ P (backV u) p := fun x u p ru hx => by
    obtain ⟨t, rfl, ht⟩ := hP x p hx
    cases (show u = Value.ref t from ru)
    obtain ⟨its2, r2, ⟨o, ho, hc, n, hd⟩, _⟩ := I.tuple ht
    obtain ⟨u1, u2, rfl, ri, rj⟩ := vals2 r2
    obtain ⟨t1, rfl⟩ := ri
    obtain ⟨t2, rfl⟩ := rj
    exact ⟨⟨t, o, t1, t2, n, rfl, ho, hc, hd⟩, hx⟩
  let k : Value → Int × Int := fun u => Classical.epsilon fun p : Int × Int => Srt.IsPair s.heap u p.1 p.2
  have hk : ∀ (u : Value) (p : Int × Int), Srt.IsPair s.heap u p.1 p.2 → k u = p := fun u p hu => isPair_one (Classical.epsilon_spec (p := fun p : Int × Int => Srt.IsPair s.heap u p.1 p.2) ⟨p, hu⟩) hu
  have pr := pairs_vals rv hp fun x u p r h => one x u p r h
  have ek : its.map k = ps := paired_map pr fun u p h => hk u p h.1
  refine SrtO.sorted_pairsO (k := k) hl.isList (by rw [← rv.length]; exact hz) (fun v hv => ?_) fun h' d out h1 h2 kp hd hn => ?_
  · obtain ⟨p, h, _⟩ := paired_mem pr hv
    rw [hk v p h]
    exact h
  · have mm : ∀ v ∈ out, ∃ p, Srt.IsPair s.heap v p.1 p.2 ∧ P (backV v) p := fun v hv => paired_mem pr (h2.perm.mem_iff.mp hv)
    have h3 : ∀ u ∈ out, ∃ a, u = Value.ref a := fun u hu => by
      obtain ⟨p, ⟨a, _, _, _, _, e, _⟩, _⟩ := mm u hu
      exact ⟨a, e⟩
    obtain ⟨n, hn⟩ := hn
    have hq : (out.map k).Perm ps := by
      rw [← ek]
      exact h2.perm.map k
    refine ⟨.ref d, upd H d (.lst (out.map backV)), I.laid (t' := s.toks) kp hd ⟨?_, out, n, vals_back h3, hn⟩, rfl, q _ _ d (SrtO.srtd_map h1) hq (Paired.mapBoth fun v hv => ?_) (I.hok.fresh hd)⟩
    · rw [List.length_map, h2.len, ← rv.length]
      exact hz
    · obtain ⟨p, h4, h5⟩ := mm v hv
      rw [hk v p h4]
      exact h5
def dSortP : DCl
  | [.dat (.lst ds)], Q => ∃ ps : List (Int × Int), ds = ps.map prD ∧ ∀ qs, SrtO.Srtd SrtO.lexB qs → qs.Perm ps → Q (.dat (.lst (qs.map prD)))
  | [.own ds], Q => ∃ ps : List (Int × Int), ds = ps.map prD ∧ ∀ qs, SrtO.Srtd SrtO.lexB qs → qs.Perm ps → Q (.dat (.lst (qs.map prD)))
  | _, _ => False
theorem den_pr {K : PySem.W.Frag} {l0 : Addr} {F H : Hp} (b : Same F H) {x : V} {p : Int × Int} (h : Den K l0 F x (prD p)) : PrV K H x p := by
  cases h with
  | tup h r =>
    cases r with
    | cons h1 t =>
      cases t with
      | cons h2 t2 =>
        cases t2
        cases h1
        cases h2
        exact ⟨_, rfl, sameT b h⟩
theorem dens_pr {K : PySem.W.Frag} {l0 : Addr} {F : Hp} : ∀ {xs : List V} {ps : List (Int × Int)}, Dens K l0 F xs (ps.map prD) → Paired (fun x p => Den K l0 F x (prD p)) xs ps
  | _, [], .nil => .nil
  | _, p :: ps, .cons h t => .cons h (dens_pr t)
theorem pr_dens {K : PySem.W.Frag} {l0 : Addr} {F : Hp} : ∀ {xs : List V} {ps : List (Int × Int)}, Paired (fun x p => Den K l0 F x (prD p)) xs ps → Dens K l0 F xs (ps.map prD)
  | _, [], .nil => .nil
  | _, p :: ps, .cons h t => .cons h (pr_dens t)
theorem sc_sortP {K : PySem.W.Frag} : SndC K (rSortT K) dSortP := fun vs ss Q h l0 F H b r Qc k => by
  have fin : ∀ {a : Addr} {xs : List V} {ds : List Dt}, SqL K H a xs → Dens K l0 F xs ds → (∃ ps : List (Int × Int), ds = ps.map prD ∧ ∀ qs, SrtO.Srtd SrtO.lexB qs → qs.Perm ps → Q (.dat (.lst (qs.map prD)))) → rSortT K [V.ref a] H Qc := fun {a xs ds} hs r q => by
    obtain ⟨ps, e, q⟩ := q
    subst e
    refine ⟨a, xs, ps, fun x p => Den K l0 F x (prD p), rfl, hs, fun x p h => den_pr b.sub h, dens_pr r, fun ys qs l h1 h2 h3 hl => ?_⟩
    have g := Go.fresh (p := l) b (.lst ys) hl
    exact k (.ref l) (.dat (.lst (qs.map prD))) _ _ g (Den.lst (SqL.of upd_same) (Dens.mono g.ex (pr_dens h3))) (q qs h1 h2)
  unfold dSortP at h
  split at h
  · obtain ⟨⟩ | ⟨r1, ⟨⟩⟩ := r
    obtain ⟨a, xs, e, z1, z2⟩ := r1.list b (.inl rfl)
    subst e
    exact fin z1 z2 h
  · obtain ⟨⟩ | ⟨r1, ⟨⟩⟩ := r
    obtain ⟨a, xs, e, z1, z2⟩ := r1.list b (.inr rfl)
    subst e
    exact fin z1 z2 h
  · exact h.elim
end DW

set_option Elab.async false
set_option linter.all false
set_option maxRecDepth 100000
namespace DW
open PySem PySem.Spec PyProof.Rows L2 SlX
def MSl (P : Program) (w : World) (K : PySem.W.Frag) (mg : Str → Option Value) (base : Heap) (k : Nat) (m : Str) (C : Addr) (sd : Sd) : Prop := ∃ (g : Addr) (fd : FuncData) (ps : List Str), SCls K C ∧ PySem.W.selfFirst K C = true ∧ Meth K C m g ∧ FnOk P w K mg base (L2.CX P w) k g fd ps (spOf K sd) ∧ Binds K fd ps []
theorem noX {X : Cx} {σ : L2.St} : PassesAt (L2.CX X.prog X.w) X σ (fun _ _ _ => False) := fun pins H s e s' I c => by
  obtain ⟨_, _, _, _, _, _, _, _, _, _, _, _, h⟩ := c
  exact h.elim
def IsSl (H : Hp) (C : Addr) (v : V) : Prop := ∃ a dx vs, v = V.ref a ∧ Slt H a C dx vs
theorem isSl_of {K : PySem.W.Frag} {l0 : Addr} {F H : Hp} {v : V} {C : Addr} {d : Dt} (b : Same F H) (r : Den K l0 F v (.slt C d)) : IsSl H C v := by
  obtain ⟨a, dx, x, e, h1, h2, _, _⟩ := r.slt_of
  exact ⟨a, dx, _, e, .inr ⟨b _ _ h1, b _ _ h2⟩⟩
theorem spOf_of {K : PySem.W.Frag} {l0 : Addr} {F H : Hp} {vs : List V} {ds : List Dt} {sd : Sd} {Q : Sl → Prop} {Qc : VK} (b : Base l0 F H) (r : Dens K l0 F vs ds) (h : sd ds (fun z => Q (.dat z)) (fun _ => False)) (k : KV1 K l0 F H Q Qc) : spOf K sd vs H Qc (fun _ _ _ => False) :=
  ⟨l0, F, ds, _, _, b, r, h, fun v d F' H' g r q => k v (.dat d) F' H' g r q, fun _ _ _ _ _ _ _ q => q.elim⟩
section
variable {X : Cx} {k : Nat} {C : Addr} {sd : Sd} {m : Str}
def rSltOp (K : PySem.W.Frag) (C : Addr) (sd : Sd) : R2 := fun x y H Q => (IsSl H C x ∧ IsSl H C y) ∧ spOf K sd [x, y] H Q (fun _ _ _ => False)
theorem op_slt {op : Operator} (M : MSl X.prog X.w X.K X.mg X.base k m C sd) (hr : Room k X.A) (hm : PySem.dunder op.info.2 = m := by decide +kernel) : OpR X (binaryOp op) (rSltOp X.K C sd) := by
  intro pins s σ H x y v u Q I rx ry h
  obtain ⟨⟨⟨a, dx, vs, rfl, ha⟩, ⟨b, dy, ws, rfl, hb⟩⟩, q⟩ := h
  obtain ⟨g, fd, ps, sc, sf, me, F, bd⟩ := M
  subst hm
  cases (show v = Value.ref a from rx)
  cases (show u = Value.ref b from ry)
  obtain ⟨sl, od, _, J, _⟩ := slt_inst I ha
  obtain ⟨sl', od', _, J', _⟩ := slt_inst I hb
  obtain ⟨m, hF⟩ := I.fr
  refine PySem.W.binop_K hF I.ok.mod.kin J J'.type sf me.at_ me.fn ?_
  refine wpAny_mono (run_fnS (us := [.ref a, .ref b]) (vs := [.ref a, .ref b]) (E := fun _ _ _ _ => False) F hr bd noX I (.cons rfl (.cons rfl .nil)) q) (fun w s' z => ?_) fun _ _ x => x
  obtain ⟨z', H', I', rz, qz⟩ := z
  exact cmpback rz ⟨z', H', I', rz, qz⟩
def d2Sl (C : Addr) (sd : Sd) (r : D2) : D2 := fun x y Q => match x with
  | .dat (.slt C' d) => C' = C ∧ ∃ e, y = .dat (.slt C e) ∧ sd [.slt C d, .slt C e] (fun z => Q (.dat z)) (fun _ => False)
  | _ => r x y Q
theorem sr_slt {K : PySem.W.Frag} {r : R2} {rd : D2} (h : SndR K r rd) : SndR K (fun x y H Q => rSltOp K C sd x y H Q ∨ r x y H Q) (d2Sl C sd rd) := fun x y s t Q q l0 F H b r1 r2 Qc k => by
  unfold d2Sl at q
  split at q
  · obtain ⟨e1, e, e2, q⟩ := q
    subst e1 e2
    exact .inl ⟨⟨isSl_of b.sub r1, isSl_of b.sub r2⟩, spOf_of b (.cons r1 (.cons r2 .nil)) q k⟩
  · exact .inr (h x y s t Q q l0 F H b r1 r2 Qc k)
structure IsTblS (K : PySem.W.Frag) (D : Addr) (ts : List (Addr × Bool)) : Prop where
  own : ∀ r ∈ ts, (SCls K r.1 ∧ SIsi K r.1) ∧ PySem.W.kitOne K (.ref r.1) (.ref D) = some r.2
end
section
variable {X : Cx} {W : WX} {pos : Pos}
def MakeSl0 (P : Program) (w : World) (K : PySem.W.Frag) (mg : Str → Option Value) (base : Heap) (k : Nat) (x : Str) (C : Addr) (sd : Sd) (dvs : List V) (dd : List Dt) : Prop := ∃ (f : Addr) (fd : FuncData) (ps : List Str) (ds : List Value), Mk K C f ∧ FnOk P w K mg base (L2.CX P w) k f fd ps (spInS K C sd) ∧ mg x = some (.ref C) ∧ Binds K fd ps ds ∧ Vals dvs ds ∧ ∀ l0 F, Dens K l0 F dvs dd
end
end DW

set_option Elab.async false
set_option linter.all false
set_option maxRecDepth 100000
namespace DW
open PySem PySem.Spec PyProof.Rows L2 SlX
section
variable {K : PySem.W.Frag} {C D : Addr} {f : Str}
def slcB (K : PySem.W.Frag) (C : Addr) : Bool := He.eqO (PySem.W.findIn K (.ref C) "__getattribute__") (some (some (.builtin "object.__getattribute__"))) && (He.eqO (PySem.W.findIn K (.ref C) "__getattr__") (some none) && (PySem.W.isClsIn K C && (PySem.W.plainOver K C && (He.eqO (PySem.W.findIn K (.ref C) "__setattr__") (some (some (.builtin "object.__setattr__"))) && PySem.W.selfFirst K C))))
theorem slcB_ok (h : slcB K C = true) : SCls K C ∧ PySem.W.selfFirst K C = true := by
  obtain ⟨h1, h⟩ := He.ba h
  obtain ⟨h2, h⟩ := He.ba h
  obtain ⟨h3, h⟩ := He.ba h
  obtain ⟨h4, h⟩ := He.ba h
  obtain ⟨h5, h6⟩ := He.ba h
  refine ⟨⟨?_, h3, h4, He.eqO_ok h5⟩, h6⟩
  unfold PySem.W.plainGet
  rw [He.eqO_ok h1, He.eqO_ok h2]
  rfl
def slAt (K : PySem.W.Frag) (C : Addr) (f : Str) : Addr := match PySem.W.findIn K (.ref C) f with
  | some (some (.ref p)) => p
  | _ => 0
def sl1B (K : PySem.W.Frag) (C : Addr) (f : Str) : Bool := He.eqO (PySem.W.findIn K (.ref C) f) (some (some (.ref (slAt K C f)))) && (He.eqO (PySem.W.specialIn K (.ref (slAt K C f)) "__get__") (some (some (.builtin "member_descriptor.__get__"))) && (decide (PySem.W.takesIn K (.ref (slAt K C f)) = some true) && (decide (PySem.W.typeIn K (.ref (slAt K C f)) = some (.type "member_descriptor")) && decide (PySem.W.slotIn K (slAt K C f) C = some 0))))
theorem sl1B_ok (h : sl1B K C f = true) : ∃ p, Slot1 K C f p 0 := by
  obtain ⟨h1, h⟩ := He.ba h
  obtain ⟨h2, h⟩ := He.ba h
  obtain ⟨h3, h⟩ := He.ba h
  obtain ⟨h4, h5⟩ := He.ba h
  exact ⟨slAt K C f, He.eqO_ok h1, He.eqO_ok h2, of_decide_eq_true h3, of_decide_eq_true h4, of_decide_eq_true h5, by decide⟩
theorem slOk_one (h1 : slcB K C = true) (h2 : sl1B K C f = true) : SlOk K [C] f := fun D m => by
  have e : D = C := by simpa using m
  subst e
  exact ⟨(slcB_ok h1).1, sl1B_ok h2⟩
def siB (K : PySem.W.Frag) (C : Addr) : Bool := He.eqO (PySem.W.findIn K (.ref C) "__class__") (some (some (.builtin "object.__class__"))) && (He.eqO (PySem.W.specialIn K (.builtin "object.__class__") "__get__") (some (some (.builtin "getset_descriptor.__get__"))) && (decide (PySem.W.takesIn K (.builtin "object.__class__") = some true) && decide (PySem.W.mroIn K C (.type "object") = some true)))
theorem siB_ok (h : siB K C = true) : SIsi K C := by
  obtain ⟨h1, h⟩ := He.ba h
  obtain ⟨h2, h⟩ := He.ba h
  obtain ⟨h3, h4⟩ := He.ba h
  exact ⟨He.eqO_ok h1, He.eqO_ok h2, of_decide_eq_true h3, of_decide_eq_true h4⟩
theorem isTblS_one {b : Bool} (h1 : slcB K C = true) (h2 : siB K C = true) (h3 : kiB K C (.ref D) b = true) : IsTblS K D [(C, b)] := ⟨fun r m => by
  have e : r = (C, b) := by simpa using m
  subst e
  exact ⟨⟨(slcB_ok h1).1, siB_ok h2⟩, kiB_ok h3⟩⟩
end
theorem MSl.mono {P : Program} {w : World} {K : PySem.W.Frag} {mg : Str → Option Value} {base : Heap} {j k : Nat} {m : Str} {C : Addr} {sd : Sd} (h : MSl P w K mg base j m C sd) (l : j ≤ k) : MSl P w K mg base k m C sd := by
  obtain ⟨g, fd, ps, a, b, c, F, d⟩ := h
  exact ⟨g, fd, ps, a, b, c, F.mono l, d⟩
theorem MakeSl.mono {P : Program} {w : World} {K : PySem.W.Frag} {mg : Str → Option Value} {base : Heap} {j k : Nat} {x : Str} {C : Addr} {sd : Sd} (h : MakeSl P w K mg base j x C sd) (l : j ≤ k) : MakeSl P w K mg base k x C sd := by
  obtain ⟨f, fd, ps, a, F, b, c⟩ := h
  exact ⟨f, fd, ps, a, F.mono l, b, c⟩
theorem MakeSl0.mono {P : Program} {w : World} {K : PySem.W.Frag} {mg : Str → Option Value} {base : Heap} {j k : Nat} {x : Str} {C : Addr} {sd : Sd} {dvs : List V} {dd : List Dt} (h : MakeSl0 P w K mg base j x C sd dvs dd) (l : j ≤ k) : MakeSl0 P w K mg base k x C sd dvs dd := by
  obtain ⟨f, fd, ps, ds, a, F, b, c⟩ := h
  exact ⟨f, fd, ps, ds, a, F.mono l, b, c⟩
theorem slnok_by {P : Program} {w : World} {K : PySem.W.Frag} {mg : Str → Option Value} {base : Heap} {x y qual : Str} {st : Stmt} {N ps : List Str} {k : Nat} {sd : Sd} {ds : DS} {dvs : List V} {C f : Addr} {fd : FuncData} (F : FunD K x qual (defArgs st) (defBody st) (defScope st) dvs [] f fd) (S : FnScope (y :: N) ps (defScope st)) (len : ∀ as Q E, sd as Q E → as.length + 1 = ps.length)
    (hb : ∀ (X : Cx) (W : WX) (f : Addr) (cdv : Value) (A : Around) (outer : List Env) (s : Shared) (H : Hp) (E : XK), X = cxOf (L2.CX P w) P w K mg base (y :: N) qual (defScope st) f cdv A outer s H E → W = WX0 E → Takes (cxOf (L2.CX P w) P w K mg base (y :: N) qual (defScope st) f cdv A outer s H E) (WX0 E) → PassesOwn (model P w) (cxOf (L2.CX P w) P w K mg base (y :: N) qual (defScope st) f cdv A outer s H E).A (cxOf (L2.CX P w) P w K mg base (y :: N) qual (defScope st) f cdv A outer s H E).env (cxOf (L2.CX P w) P w K mg base (y :: N) qual (defScope st) f cdv A outer s H E).xe →
      Room k (cxOf (L2.CX P w) P w K mg base (y :: N) qual (defScope st) f cdv A outer s H E).A → (cxOf (L2.CX P w) P w K mg base (y :: N) qual (defScope st) f cdv A outer s H E).A.units + 64 < cLine → (y :: N).Nodup →
      ∃ ts, DSSB (cxOf (L2.CX P w) P w K mg base (y :: N) qual (defScope st) f cdv A outer s H E) (WX0 E) (defBody st) ts ds)
    (hp : ∀ p as Q E, sd as Q E → ds (dEndsS p C Q E) (startI p C (y :: N).length as)) : FnOk P w K mg base (L2.CX P w) (k + 1) f fd ps (spInS K C sd) :=
  fn_dSl F S len (fun cdv A outer s H E hr => hb _ _ f cdv A outer s H E rfl rfl tk_cx po_cx hr hr.units S.nd) hp
theorem binds_of0 {K : PySem.W.Frag} {fd : FuncData} {ps : List Str} (h : ∃ ds : List Value, Vals [] ds ∧ Binds K fd ps ds) : Binds K fd ps [] := by
  obtain ⟨ds, r, b⟩ := h
  cases r
  exact b
end DW

set_option Elab.async false
set_option linter.all false
set_option maxRecDepth 100000
namespace DW
open PySem PySem.Spec PyProof.Rows L2 SlX
section
variable {X : Cx} {W : WX} {k : Nat} {C : Addr} {sd : Sd} {m : Str} {o e : Expr} {pos apos : Pos} {xo : TE} {dob : DE}
end
theorem dg_sqB {X : Cx} {s : Shared} {H : Hp} {scope : Scope} {env : Env} {fp : List Addr} {pos : Pos} {es : List Expr} {k : Nat} {g : TGs} {t : DGs} {n : Nat} {ns : List Nat} (hc : (X.blk s H scope env fp).calm = true) (h : DGsX (X.blk s H scope env fp) es ns g t) (hn : (assignEach es (X.blk s H scope env fp).env).length = n := by rfl) (hst : (assignEach es (X.blk s H scope env fp).env).findIdx? (·.1) = none := by rfl) :
    DGX (X.blk s H scope env fp) (.Tuple es k pos) ns (gSq X.K n g) (gdSq n t) := dg_sq hc h hn hst
end DW

set_option Elab.async false
set_option linter.all false
set_option maxRecDepth 100000
namespace DW
open PySem PySem.Spec PyProof.Rows L2 SlX
end DW

set_option Elab.async false
set_option linter.all false
set_option maxRecDepth 100000
namespace DW
open PySem PySem.Spec PyProof.Rows L2 SlX
def lstOf : Sl → Option (List Dt)
  | .dat (.lst a) => some a
  | .own a => some a
  | _ => none
theorem lstOf_is {s : Sl} {ds : List Dt} (h : lstOf s = some ds) : IsL s ds := by
  unfold lstOf at h
  split at h
  · cases h; exact .inl rfl
  · cases h; exact .inr rfl
  · cases h
abbrev DF := En → (List Dt → Prop) → (Xn → Prop) → Prop
abbrev DOp := En → (Option Int → Prop) → (Xn → Prop) → Prop
def oNone : DOp := fun _ Q _ => Q none
def oSome (d : DE) : DOp := fun ρ Q E => d ρ (fun s => ∃ i, s = .dat (.v (.int i)) ∧ Q (some i)) E
def cutD {α : Type} (xs : List α) (lo hi : Option Int) : List α := (xs.drop (HT.sIx xs.length 0 lo)).take (HT.sIx xs.length xs.length hi - HT.sIx xs.length 0 lo)
def SndO (K : PySem.W.Frag) (W : WX) (t : TO) (d : DOp) : Prop := ∀ ρ Q E, d ρ Q E → ∀ l0 F H σ, Stt K l0 F H σ ρ → ∀ Qc : Option Int → Hp → Prop, (∀ o F' H', Go l0 F H F' H' → Q o → Qc o H') → KX K W l0 F H σ E → t σ H Qc
def DOX (X : Cx) (W : WX) (e : Option Expr) (t : TO) (d : DOp) : Prop := PO X e t ∧ SndO X.K W t d
def cutSl (s : Sl) (lo hi : Option Int) (Q : Sl → Prop) : Prop := match lstOf s with
  | some ds => Q (.dat (.lst (cutD ds lo hi)))
  | none => ∃ z, s = .dat (.v (.str z)) ∧ z.length ≤ 100000 ∧ Q (.dat (.v (.str (cutS z lo hi))))
def dSlc (da : DE) (lo hi : DOp) : DE := fun ρ Q E => da ρ (fun s => lo ρ (fun l => hi ρ (fun u => cutSl s l u Q) E) E) E
def rSlc (K : PySem.W.Frag) : V → Option Int → Option Int → Hp → VK → Prop := fun x lo hi H Q => rSlL K x lo hi H Q ∨ ∃ z, x = .str z ∧ z.length ≤ sizeLine ∧ Q (.str (cutS z lo hi)) H
theorem Dens.cut {K : PySem.W.Frag} {l0 : Addr} {F : Hp} : ∀ (n : Nat) {xs : List V} {ds : List Dt}, Dens K l0 F xs ds → Dens K l0 F (xs.drop n) (ds.drop n)
  | 0, _, _, r => r
  | n + 1, _, _, .nil => .nil
  | n + 1, _, _, .cons _ t => Dens.cut n t
theorem Dens.tak {K : PySem.W.Frag} {l0 : Addr} {F : Hp} : ∀ (n : Nat) {xs : List V} {ds : List Dt}, Dens K l0 F xs ds → Dens K l0 F (xs.take n) (ds.take n)
  | 0, _, _, r => .nil
  | n + 1, _, _, .nil => .nil
  | n + 1, _, _, .cons h t => .cons h (Dens.tak n t)
theorem Dens.slc {K : PySem.W.Frag} {l0 : Addr} {F : Hp} {xs : List V} {ds : List Dt} (r : Dens K l0 F xs ds) (lo hi : Option Int) : Dens K l0 F (cutV xs lo hi) (cutD ds lo hi) := by
  unfold cutV cutD
  rw [r.length]
  exact (r.cut _).tak _
section
variable {X : Cx} {W : WX} {a b e : Expr} {xa xb xe : TE} {da db de : DE} {pos p2 : Pos} {lo hi : Option Expr} {tl th : TO} {dl dh : DOp}
theorem do_none : DOX X W none tNoPart oNone := ⟨po_none, fun ρ Q E h l0 F H σ S Qc k _ => k none F H (.refl S.bs) h⟩
theorem do_some (ha : DEX X W a xa da) : DOX X W (some a) (tPart xa) (oSome da) := by
  refine ⟨po_some ha.1, fun ρ Q E h l0 F H σ S Qc k kx => ?_⟩
  refine ha.2 ρ _ E h l0 F H σ S _ (fun v s F1 H1 g1 r1 q1 => ?_) kx
  obtain ⟨i, e, q⟩ := q1
  subst e
  cases r1
  exact ⟨i, rfl, k _ F1 H1 g1 q⟩
theorem sl_both : SlR X (rSlc X.K) := SlR.or sl_list sl_str
theorem de_slc (ha : DEX X W a xa da) (hl : DOX X W lo tl dl) (hh : DOX X W hi th dh) : DEX X W (.Subscript a (.Slice lo hi none p2) pos) (tSl (rSlc X.K) xa tl th) (dSlc da dl dh) := by
  refine ⟨pe_slice sl_both ha.1 hl.1 hh.1, fun ρ Q E h l0 F H σ S Qc k kx => ?_⟩
  refine ha.2 ρ _ E h l0 F H σ S _ (fun x s F1 H1 g1 r1 q1 => ?_) kx
  refine hl.2 ρ _ E q1 l0 F1 H1 σ (S.go g1) _ (fun l F2 H2 g2 q2 => ?_) (kx.go g1)
  refine hh.2 ρ _ E q2 l0 F2 H2 σ (S.go (g1.trans g2)) _ (fun u F3 H3 g3 q3 => ?_) (kx.go (g1.trans g2))
  have r3 := (r1.go g2).go g3
  have g13 := (g1.trans g2).trans g3
  unfold cutSl at q3
  split at q3
  · rename_i ds e
    obtain ⟨p, xs, e1, z1, z2⟩ := r3.list g3.bs (lstOf_is e)
    subst e1
    refine .inl ⟨p, xs, rfl, z1, fun q hq => ?_⟩
    have g := Go.fresh (p := q) g3.bs (.lst (cutV xs l u)) hq
    exact k (.ref q) (.dat (.lst _)) _ _ (g13.trans g) (Den.lst (SqL.of upd_same) (Dens.mono g.ex (z2.slc l u))) q3
  · obtain ⟨z, e, hz, q⟩ := q3
    subst e
    obtain rfl := r3.val
    exact .inr ⟨z, rfl, Evl.sz_of hz, k _ (.dat (.v _)) F3 H3 g13 (.v _) q⟩
theorem Dens.set {K : PySem.W.Frag} {l0 : Addr} {F : Hp} {x : V} {d : Dt} (h : Den K l0 F x d) : ∀ {xs : List V} {ds : List Dt} (j : Nat), Dens K l0 F xs ds → Dens K l0 F (xs.set j x) (ds.set j d)
  | _, _, _, .nil => .nil
  | _, _, 0, .cons _ t => .cons h t
  | _, _, j + 1, .cons g t => .cons g (Dens.set h j t)
theorem Dens.rev {K : PySem.W.Frag} {l0 : Addr} {F : Hp} : ∀ {xs : List V} {ds : List Dt}, Dens K l0 F xs ds → Dens K l0 F xs.reverse ds.reverse
  | _, _, .nil => .nil
  | _, _, .cons h t => by
    rw [List.reverse_cons, List.reverse_cons]
    exact (Dens.rev t).append (Dens.one h)
variable {k : Nat} {C : Addr} {sd : Sd}
end
end DW

set_option Elab.async false
set_option linter.all false
set_option maxRecDepth 100000
namespace DW
open PySem PySem.Spec PyProof.Rows L2 ClX StX
theorem Dens.split {K : PySem.W.Frag} {l0 : Addr} {F : Hp} : ∀ {ws rs : List Dt} {vs : List V}, Dens K l0 F vs (ws ++ rs) → ∃ us ts, vs = us ++ ts ∧ Dens K l0 F us ws ∧ Dens K l0 F ts rs
  | [], rs, vs, r => ⟨[], vs, rfl, .nil, r⟩
  | w :: ws, rs, _, .cons h t => by
    obtain ⟨us, ts, e, r1, r2⟩ := Dens.split t
    exact ⟨_ :: us, ts, by rw [e]; rfl, .cons h r1, r2⟩
end DW

set_option Elab.async false
set_option linter.all false
set_option maxRecDepth 100000
set_option maxHeartbeats 2000000
namespace DW
open PySem PySem.Spec PyProof.Rows L2 SlX
def TItO (t it : Addr) (i : Nat) : HO := .ext fun h => h.IsTupleIter it t i
section
variable {X : Cx} {pins : List (Addr × Obj)} {σ : L2.St} {H : Hp} {s : Shared} {t it q a : Addr} {ys : List V}
def spIt (K : PySem.W.Frag) (f : Str) : Sp := fun vs H Q _ => ∃ (a C dx t p : Addr) (ys : List V), vs = [V.ref a] ∧ Slt H a C dx [some (.ref t)] ∧ SCls K C ∧ Slot1 K C f p 0 ∧ SqT K H t ys ∧ ∀ it, H it = none → Q (.ref it) (upd H it (TItO t it 0))
def MIt (P : Program) (w : World) (K : PySem.W.Frag) (mg : Str → Option Value) (base : Heap) (k : Nat) (f : Str) (C : Addr) : Prop := ∃ (g : Addr) (fd : FuncData) (ps : List Str) (p : Addr), SCls K C ∧ Slot1 K C f p 0 ∧ Meth K C "__iter__" g ∧ FnOk P w K mg base (L2.CX P w) k g fd ps (spIt K f) ∧ Binds K fd ps []
end
end DW

set_option Elab.async false
set_option linter.all false
set_option maxRecDepth 100000
set_option maxHeartbeats 2000000
namespace DW
open PySem PySem.Spec PyProof.Rows L2 SlX
section
variable {X : Cx} {pins : List (Addr × Obj)} {σ : L2.St} {H : Hp} {s : Shared} {a C dx g : Addr} {k : Nat} {sd : Sd} {f : Str}
theorem MIt.mono {P : Program} {w : World} {K : PySem.W.Frag} {mg : Str → Option Value} {base : Heap} {j k : Nat} (M : MIt P w K mg base j f C) (h : j ≤ k) : MIt P w K mg base k f C := by
  obtain ⟨g, fd, ps, p, h1, h2, h3, F, b⟩ := M
  exact ⟨g, fd, ps, p, h1, h2, h3, F.mono h, b⟩
end
end DW

set_option Elab.async false
set_option linter.all false
set_option maxRecDepth 100000
set_option maxHeartbeats 2000000
namespace DW
open PySem PySem.Spec PyProof.Rows L2 SlX
section
variable {X : Cx} {pins : List (Addr × Obj)} {σ : L2.St} {H : Hp} {s : Shared} {a C dx g : Addr} {k : Nat} {sd : Sd} {f : Str}
end
end DW

set_option Elab.async false
set_option linter.all false
set_option maxRecDepth 100000
namespace DW
open PySem PySem.Spec PyProof.Rows L2 ClX
theorem pairs_cut {α β : Type} {R : α → β → Prop} : ∀ (n : Nat) {xs : List α} {ys : List β}, Paired R xs ys → Paired R ((xs.drop n).take 1) ((ys.drop n).take 1)
  | _, [], [], .nil => by simpa using Paired.nil
  | 0, _ :: _, _ :: _, .cons h _ => .cons h .nil
  | n + 1, _ :: _, _ :: _, .cons _ t => pairs_cut n t
theorem PE.imp {X : Cx} {e : Expr} {t t' : TE} (h : PE X e t) (k : ∀ σ H Q, t' σ H Q → t σ H Q) : PE X e t' := ⟨fun pins s σ H Q I q => h.run pins s σ H Q I (k σ H Q q)⟩
def DKX (X : Cx) (W : WX) (kws : List Keyword) (ta : TA) (da : DA) : Prop := PK X kws ta ∧ SndA X.K W ta da
section
variable {X : Cx} {W : WX} {k : Nat} {C : Addr} {sd : Sd} {x : Str} {p pos kpos : Pos} {e : Expr} {es : List Expr} {t : TA} {da : DA} {dvs : List V} {dd : List Dt} {kws : List Keyword} {tk : TA} {dk : DA} {nm : Option Str} {te : TE} {de : DE}
theorem dk_nil : DKX X W [] tNil dNil := ⟨pk_nil, da_nil.2⟩
theorem dk_cons (ha : DEX X W e te de) (hr : DKX X W kws t da) : DKX X W (⟨nm, e, kpos⟩ :: kws) (tCons te t) (dCons de da) := by
  obtain ⟨pa, sa⟩ := ha
  obtain ⟨pr, sr⟩ := hr
  refine ⟨pk_cons pa pr, fun ρ Q E h l0 F H σ S Qc k kx => ?_⟩
  refine sa ρ _ E h l0 F H σ S _ (fun x s F1 H1 g1 r1 q1 => ?_) kx
  refine sr ρ _ E q1 l0 F1 H1 σ (S.go g1) _ (fun xs ss F2 H2 g2 r2 q2 => ?_) (kx.go g1)
  exact k (x :: xs) (s :: ss) F2 H2 (g1.trans g2) (.cons (r1.go g2) r2) q2
def MakeOkD (P : Program) (w : World) (K : PySem.W.Frag) (mg : Str → Option Value) (base : Heap) (k : Nat) (x : Str) (C : Addr) (sd : Sd) (dvs : List V) (dd : List Dt) : Prop := ∃ (f : Addr) (fd : FuncData) (ps : List Str) (ds : List Value), Mk K C f ∧ FnOk P w K mg base (L2.CX P w) k f fd ps (spIn K C sd) ∧
  mg x = some (.ref C) ∧ Binds K fd ps ds ∧ Vals dvs ds ∧ ∀ l0 F, Dens K l0 F dvs dd
def MakeOkK (P : Program) (w : World) (K : PySem.W.Frag) (mg : Str → Option Value) (base : Heap) (k : Nat) (x : Str) (C : Addr) (sd : Sd) (ks : List Str) (f : List V → List V) : Prop := ∃ (g : Addr) (fd : FuncData) (ps : List Str) (u : List Value → List Value → List Value) (gV : List V → List V → List V),
  Mk K C g ∧ FnOk P w K mg base (L2.CX P w) k g fd ps (spIn K C sd) ∧ mg x = some (.ref C) ∧ KBn K fd ps 1 ks u gV ∧ ∀ y zs, zs.length = ks.length → gV [y] zs = y :: f zs
end
theorem inokD_by {P : Program} {w : World} {K : PySem.W.Frag} {mg : Str → Option Value} {base : Heap} {x y qual : Str} {st : Stmt} {N ps : List Str} {k : Nat} {sd : Sd} {ds : DS} {C f : Addr} {fd : FuncData} {dvs : List V} (F : FunD K x qual (defArgs st) (defBody st) (defScope st) dvs [] f fd) (S : FnScope (y :: N) ps (defScope st)) (len : ∀ as Q E, sd as Q E → as.length + 1 = ps.length)
    (hb : ∀ (X : Cx) (W : WX) (f : Addr) (cdv : Value) (A : Around) (outer : List Env) (s : Shared) (H : Hp) (E : XK), X = cxOf (L2.CX P w) P w K mg base (y :: N) qual (defScope st) f cdv A outer s H E → W = WX0 E → Takes (cxOf (L2.CX P w) P w K mg base (y :: N) qual (defScope st) f cdv A outer s H E) (WX0 E) → PassesOwn (model P w) (cxOf (L2.CX P w) P w K mg base (y :: N) qual (defScope st) f cdv A outer s H E).A (cxOf (L2.CX P w) P w K mg base (y :: N) qual (defScope st) f cdv A outer s H E).env (cxOf (L2.CX P w) P w K mg base (y :: N) qual (defScope st) f cdv A outer s H E).xe →
      Room k (cxOf (L2.CX P w) P w K mg base (y :: N) qual (defScope st) f cdv A outer s H E).A → (cxOf (L2.CX P w) P w K mg base (y :: N) qual (defScope st) f cdv A outer s H E).A.units + 64 < cLine → (y :: N).Nodup →
      ∃ ts, DSSX (cxOf (L2.CX P w) P w K mg base (y :: N) qual (defScope st) f cdv A outer s H E) (WX0 E) (defBody st) ts ds)
    (hp : ∀ p as Q E, sd as Q E → ds (dEndsI p C Q E) (startI p C (y :: N).length as)) : FnOk P w K mg base (L2.CX P w) (k + 1) f fd ps (spIn K C sd) :=
  fn_dIn F S len (fun cdv A outer s H E hr => hb _ _ f cdv A outer s H E rfl rfl tk_cx po_cx hr hr.units S.nd) hp
theorem vals_cut : ∀ (n : Nat) {vs : List V} {us : List Value}, Vals vs us → Vals ((vs.drop n).take 1) ((us.drop n).take 1)
  | _, [], [], .nil => by simpa using Paired.nil
  | 0, _ :: _, _ :: _, .cons h _ => .cons h .nil
  | n + 1, _ :: _, _ :: _, .cons _ t => vals_cut n t
theorem MakeOkD.mono {P : Program} {w : World} {K : PySem.W.Frag} {mg : Str → Option Value} {base : Heap} {j k : Nat} {x : Str} {C : Addr} {sd : Sd} {dvs : List V} {dd : List Dt} (M : MakeOkD P w K mg base j x C sd dvs dd) (h : j ≤ k) : MakeOkD P w K mg base k x C sd dvs dd := by
  obtain ⟨f, fd, ps, ds, h1, F, h2⟩ := M
  exact ⟨f, fd, ps, ds, h1, F.mono h, h2⟩
theorem MakeOkK.mono {P : Program} {w : World} {K : PySem.W.Frag} {mg : Str → Option Value} {base : Heap} {j k : Nat} {x : Str} {C : Addr} {sd : Sd} {ks : List Str} {f : List V → List V} (M : MakeOkK P w K mg base j x C sd ks f) (h : j ≤ k) : MakeOkK P w K mg base k x C sd ks f := by
  obtain ⟨g, fd, ps, u, gV, h1, F, h2⟩ := M
  exact ⟨g, fd, ps, u, gV, h1, F.mono h, h2⟩
end DW

set_option Elab.async false
set_option linter.all false
set_option maxRecDepth 100000
namespace DW
open PySem PySem.Spec PyProof.Rows L2 StX SlX
def MakeOkR (P : Program) (w : World) (K : PySem.W.Frag) (mg : Str → Option Value) (base : Heap) (k : Nat) (x : Str) (C : Addr) (sd : Sd) : Prop := ∃ f, Mk K C f ∧ FnR P w K mg base (L2.CX P w) k f (spIn K C sd) ∧ mg x = some (.ref C)
theorem MakeOkR.mono {P : Program} {w : World} {K : PySem.W.Frag} {mg : Str → Option Value} {base : Heap} {j k : Nat} {x : Str} {C : Addr} {sd : Sd} (M : MakeOkR P w K mg base j x C sd) (h : j ≤ k) : MakeOkR P w K mg base k x C sd := by
  obtain ⟨f, h1, F, h2⟩ := M
  exact ⟨f, h1, F.mono h, h2⟩
section
variable {X : Cx} {W : WX} {k : Nat} {C : Addr} {sd : Sd} {x : Str} {p pos p1 p2 : Pos} {e e1 e2 : Expr} {es : List Expr} {t : TA} {da : DA}
def CallM (P : Program) (w : World) (K : PySem.W.Frag) (mg : Str → Option Value) (base : Heap) (k : Nat) (C : Addr) (sd : Sd) : Prop := ∃ (g : Addr) (fd : FuncData) (ps : List Str), CallO K C g ∧ FnOk P w K mg base (L2.CX P w) k g fd ps (spOf K sd) ∧ Binds K fd ps []
def OpM (P : Program) (w : World) (K : PySem.W.Frag) (mg : Str → Option Value) (base : Heap) (k : Nat) (m : Str) (C : Addr) (sd : Sd) : Prop := PySem.W.selfFirst K C = true ∧ MOk P w K mg base k m C sd
end
end DW

set_option Elab.async false
set_option linter.all false
set_option maxRecDepth 100000
namespace DW
open PySem PySem.Spec PyProof.Rows L2 StX SlX
theorem CallM.mono {P : Program} {w : World} {K : PySem.W.Frag} {mg : Str → Option Value} {base : Heap} {j k : Nat} {C : Addr} {sd : Sd} (M : CallM P w K mg base j C sd) (h : j ≤ k) : CallM P w K mg base k C sd := by
  obtain ⟨g, fd, ps, c, F, b⟩ := M
  exact ⟨g, fd, ps, c, F.mono h, b⟩
theorem OpM.mono {P : Program} {w : World} {K : PySem.W.Frag} {mg : Str → Option Value} {base : Heap} {j k : Nat} {m : Str} {C : Addr} {sd : Sd} (M : OpM P w K mg base j m C sd) (h : j ≤ k) : OpM P w K mg base k m C sd := ⟨M.1, M.2.mono h⟩
end DW

set_option Elab.async false
set_option linter.all false
set_option maxRecDepth 100000
namespace DW
open PySem PySem.Spec PyProof.Rows L2 StX SlX
end DW

set_option Elab.async false
set_option linter.all false
set_option maxRecDepth 100000
namespace DW
open PySem PySem.Spec PyProof.Rows L2 StX SlX
def OwnA (σ : L2.St) (ρ : En) (a : Addr) : Prop := Ow σ ρ a ∨ ∃ (i : Nat) (p : Addr × Addr) (C : Addr) (fs : List (Str × Dt)), ρ[i]? = some (.oob p C fs) ∧ a = p.2
def OwnK : HO → Prop
  | .lst _ => True
  | .ins _ _ _ => True
  | .own _ => True
  | .dK _ => True
  | .ext φ => ∃ w a ep es, φ = rawN w a ep es
  | _ => False
theorem relV_ex : ∀ v : V, ∃ u, RelV v u
  | .non => ⟨_, rfl⟩
  | .bl _ => ⟨_, rfl⟩
  | .int _ => ⟨.int _ default, default, rfl⟩
  | .str _ => ⟨.str _ default, default, rfl⟩
  | .byt _ => ⟨.bytes _ default, default, rfl⟩
  | .flt _ => ⟨.float _ default, default, rfl⟩
  | .ref _ => ⟨_, rfl⟩
  | .ty _ => ⟨_, rfl⟩
theorem raw_no {φ : Heap → Prop} {a : Addr} (ob : Obj) (hn : ob.cls ≠ .type "dict") (hf : (match some ob with
    | some ⟨_, _, .freed, _⟩ => none
    | o => o) = some ob) (h : ∀ hp : Heap, hp.get? a = some ob → φ hp) {w : World} {b : Addr} {ep : Nat} {es : List NEnt} (e : φ = rawN w b ep es) : False := by
  let hp : Heap := { objs := Array.replicate (a + 1) ob }
  have g : ∀ c, c ≤ a → hp.get? c = some ob := fun c hc => by
    show (match (Array.replicate (a + 1) ob)[c]? with
      | some ⟨_, _, .freed, _⟩ => none
      | o => o) = some ob
    rw [Array.getElem?_replicate, if_pos (Nat.lt_succ_of_le hc)]
    exact hf
  have g2 : ∀ c, a < c → hp.get? c = none := fun c hc => by
    show (match (Array.replicate (a + 1) ob)[c]? with
      | some ⟨_, _, .freed, _⟩ => none
      | o => o) = none
    rw [Array.getElem?_replicate, if_neg (Nat.not_lt.mpr (Nat.succ_le_of_lt hc))]
  have y : rawN w b ep es hp := by
    rw [← e]
    exact h hp (g a (Nat.le_refl _))
  obtain ⟨o, xs, h1, h2, _⟩ := y
  rcases Nat.lt_or_ge a b with c | c
  · rw [g2 b c] at h1
    cases h1
  · rw [g b c] at h1
    cases h1
    exact hn h2.1
theorem slo_raw {a C dx : Addr} {vs : List (Option V)} {w : World} {b : Addr} {ep : Nat} {es : List NEnt} (h : SlO a C dx vs = .ext (rawN w b ep es)) : False := by
  have e : (fun h : Heap => ∃ sl : Array (Option Value), h.get? a = some { PySem.W.instObj C dx with slots := sl } ∧ SlR vs sl) = rawN w b ep es := HO.ext.inj h
  let sl : Array (Option Value) := (vs.map fun o => o.map fun v => Classical.choose (relV_ex v)).toArray
  refine raw_no (a := a) { PySem.W.instObj C dx with slots := sl } (by simp [PySem.W.instObj]) rfl (fun hp h1 => ?_) e
  refine ⟨sl, h1, fun i v hv => ⟨Classical.choose (relV_ex v), ?_, Classical.choose_spec (relV_ex v)⟩⟩
  show (vs.map fun o => o.map fun v => Classical.choose (relV_ex v)).toArray[i]? = _
  rw [List.getElem?_toArray, List.getElem?_map, hv]
  rfl
theorem nk_tup {xs : List V} : ¬ OwnK (.tup xs) := fun z => z
theorem nk_frz {o : Obj} {u : HO} : ¬ OwnK (.frz o u) := fun z => z
theorem nk_xd {fs : List (Str × V)} : ¬ OwnK (.xd fs) := fun z => z
theorem nk_slo {a C dx : Addr} {vs : List (Option V)} : ¬ OwnK (SlO a C dx vs) := fun ⟨_, _, _, _, e⟩ => slo_raw (congrArg HO.ext e)
section
variable {K : PySem.W.Frag} {l0 : Addr} {F H F' H' : Hp} {σ : L2.St} {ρ : En}
mutual
theorem TreV.kin : ∀ {v : V} {t : OT}, TreV K l0 F H v t → ∀ a ∈ t.ads, ∃ o, H a = some o ∧ OwnK o
  | _, _, .dat _, a, m => nomatch m
  | _, _, .lst h1 h2 h3 r, a, m => (List.mem_cons.mp m).elim (fun e => by subst e; exact ⟨_, h3, trivial⟩) (TreVs.kin r a)
  | _, _, .ins h1 h2 h3 k1 k2 k3 r, a, m => (List.mem_cons.mp m).elim (fun e => by subst e; exact ⟨_, h3, trivial⟩) fun m => (List.mem_cons.mp m).elim (fun e => by subst e; exact ⟨_, k3, trivial⟩) (TreVf.kin r a)
  | _, _, .dct h1 h2 h3 r, a, m => (List.mem_cons.mp m).elim (fun e => by subst e; exact ⟨_, h3, _, _, _, _, rfl⟩) (TreVk.kin r a)
theorem TreVs.kin : ∀ {v : List V} {t : List OT}, TreVs K l0 F H v t → ∀ a ∈ adsL t, ∃ o, H a = some o ∧ OwnK o
  | _, _, .nil, a, m => nomatch m
  | _, _, .cons h r, a, m => (List.mem_append.mp m).elim (TreV.kin h a) (TreVs.kin r a)
theorem TreVf.kin : ∀ {v : List (Str × V)} {t : List (Str × OT)}, TreVf K l0 F H v t → ∀ a ∈ adsF t, ∃ o, H a = some o ∧ OwnK o
  | _, _, .nil, a, m => nomatch m
  | _, _, .cons h r, a, m => (List.mem_append.mp m).elim (TreV.kin h a) (TreVf.kin r a)
theorem TreVk.kin : ∀ {v : List NEnt} {t : List (Dt × OT)}, TreVk K l0 F H v t → ∀ a ∈ adsK t, ∃ o, H a = some o ∧ OwnK o
  | _, _, .nil, a, m => nomatch m
  | _, _, .cons _ _ h r, a, m => (List.mem_append.mp m).elim (TreV.kin h a) (TreVk.kin r a)
end
theorem Stt.ownA (S : Stt K l0 F H σ ρ) {a : Addr} (h : OwnA σ ρ a) : F a = none ∧ a ≠ l0 ∧ ∃ o, H a = some o ∧ OwnK o := by
  rcases h with ⟨i, s, h1, h2, h3⟩ | ⟨i, p, C, fs, h1, e⟩
  · have lv := S.ownL h1 ⟨h2, h3⟩
    refine ⟨lv.1, lv.2.1, ?_⟩
    rcases S.sl i s h1 with z | ⟨v, k1, k2⟩
    · subst z
      cases h2
    · rw [k1] at h3
      cases s with
      | emp => cases h2
      | dat d => cases h2
      | own ds =>
        obtain ⟨l, xs, e, a1, a2, a3, _⟩ := k2
        rcases h3 with h3 | h3
        · subst e; cases h3; exact ⟨_, a3, trivial⟩
        · exact nomatch h3
      | oob p C fs =>
        obtain ⟨l, dx, gs, e, a1, a2, a3, _⟩ := k2
        rcases h3 with h3 | h3
        · subst e; cases h3; exact ⟨_, a3, trivial⟩
        · exact nomatch h3
      | odc kvs =>
        obtain ⟨l, xs, e, a1, a2, a3, _⟩ := k2
        rcases h3 with h3 | h3
        · subst e; cases h3; exact ⟨_, a3, trivial⟩
        · exact nomatch h3
      | tre t =>
        obtain ⟨r, _, n⟩ := k2
        rcases h3 with h3 | h3
        · obtain ⟨b, e, m⟩ := r.root n
          subst e; cases h3
          exact r.kin _ m
        · exact r.kin a h3
  · subst e
    obtain ⟨gs, _, _, _, _, _, w1, w2, w3⟩ := S.oob h1
    exact ⟨w1, w2, _, w3, trivial⟩
open Classical in
noncomputable def lendF (F H : Hp) (σ : L2.St) (ρ : En) : Hp := fun a => if OwnA σ ρ a then H a else F a
open Classical in
noncomputable def lendB (F' : Hp) (σ : L2.St) (ρ : En) : Hp := fun a => if OwnA σ ρ a then none else F' a
theorem lend_own {a : Addr} (h : OwnA σ ρ a) : lendF F H σ ρ a = H a := by
  unfold lendF
  rw [if_pos h]
theorem lend_not {a : Addr} (h : ¬ OwnA σ ρ a) : lendF F H σ ρ a = F a := by
  unfold lendF
  rw [if_neg h]
theorem lendB_not {a : Addr} (h : ¬ OwnA σ ρ a) : lendB F' σ ρ a = F' a := by
  unfold lendB
  rw [if_neg h]
theorem lendB_own {a : Addr} (h : OwnA σ ρ a) : lendB F' σ ρ a = none := by
  unfold lendB
  rw [if_pos h]
theorem Stt.lend_same (S : Stt K l0 F H σ ρ) : Same F (lendF F H σ ρ) := fun a o e => by
  by_cases q : OwnA σ ρ a
  · rw [(S.ownA q).1] at e
    cases e
  · rw [lend_not q]
    exact e
theorem Stt.lend_base (S : Stt K l0 F H σ ρ) : Base l0 (lendF F H σ ρ) H := by
  refine ⟨fun a o e => ?_, ?_, S.bs.dr⟩
  · by_cases q : OwnA σ ρ a
    · rw [lend_own q] at e
      exact e
    · rw [lend_not q] at e
      exact S.bs.sub a o e
  · rw [lend_not fun q => (S.ownA q).2.1 rfl]
    exact S.bs.nf
def lendEn (ρ : En) : En := ρ.map fun s => match s with
  | .own ds => .dat (.lst ds)
  | .oob _ C fs => .dat (.obj C fs)
  | .odc kvs => .dat (.dct kvs)
  | .tre t => .dat t.toD
  | s => s
theorem Stt.lend (S : Stt K l0 F H σ ρ) : Stt K l0 (lendF F H σ ρ) H σ (lendEn ρ) := by
  refine ⟨S.lend_base, by unfold lendEn; rw [List.length_map]; exact S.len, fun i s e => ?_, fun i j s t a h1 h2 ⟨o1, e1⟩ ⟨o2, e2⟩ => ?_⟩
  · unfold lendEn at e
    rw [List.getElem?_map] at e
    cases q : ρ[i]? with
    | none => rw [q] at e; cases e
    | some u =>
      rw [q] at e
      have e := Option.some.inj e
      rcases S.sl i u q with z | ⟨v, h1, h2⟩
      · subst z
        subst e
        exact .inl rfl
      · cases u with
        | emp => exact h2.elim
        | dat d =>
          subst e
          exact .inr ⟨v, h1, Den.mono S.lend_same h2⟩
        | oob p0 C fs =>
          subst e
          obtain ⟨l, dx, gs, e1, a1, a2, a3, r, _⟩ := h2
          subst e1
          refine .inr ⟨.ref l, h1, Den.obj (dx := dx) ?_ (DenF.mono S.lend_same r)⟩
          rw [lend_own (.inl ⟨i, _, q, rfl, .inl h1⟩)]
          exact a3
        | own ds =>
          subst e
          obtain ⟨l, xs, e1, _, n0, hl, r⟩ := h2
          subst e1
          refine .inr ⟨.ref l, h1, Den.lst (.inl (.inl ?_)) (Dens.mono S.lend_same r)⟩
          rw [lend_own (.inl ⟨i, _, q, rfl, .inl h1⟩)]
          exact hl
        | odc kvs =>
          subst e
          obtain ⟨l, xs, e1, _, n0, hl, r⟩ := h2
          subst e1
          refine .inr ⟨.ref l, h1, Den.dct ?_ (DenK.mono S.lend_same r)⟩
          rw [lend_own (.inl ⟨i, _, q, rfl, .inl h1⟩)]
          exact hl
        | tre t =>
          subst e
          exact .inr ⟨v, h1, h2.1.den S.lend_same fun a m => lend_own (.inl ⟨i, _, q, rfl, .inr m⟩)⟩
  · unfold lendEn at h1
    rw [List.getElem?_map] at h1
    cases q : ρ[i]? with
    | none => rw [q] at h1; cases h1
    | some u =>
      rw [q] at h1
      have h1 := Option.some.inj h1
      cases u <;> subst h1 <;> cases o1
theorem Stt.lend_go (S : Stt K l0 F H σ ρ) (g : Go l0 (lendF F H σ ρ) H F' H') : Go l0 F H (lendB F' σ ρ) H' := by
  refine ⟨⟨fun a o e => ?_, ?_, g.bs.dr⟩, fun a o e => ?_, fun a h1 h2 => ?_, g.keep⟩
  · by_cases q : OwnA σ ρ a
    · rw [lendB_own q] at e
      cases e
    · rw [lendB_not q] at e
      exact g.bs.sub a o e
  · by_cases q : OwnA σ ρ l0
    · exact lendB_own q
    · rw [lendB_not q]
      exact g.bs.nf
  · have q : ¬ OwnA σ ρ a := fun q => by
      rw [(S.ownA q).1] at e
      cases e
    rw [lendB_not q]
    exact g.ex a o (by rw [lend_not q]; exact e)
  · have q : ¬ OwnA σ ρ a := fun q => h2 (lendB_own q)
    rw [lendB_not q] at h2
    exact g.new a (by rw [lend_not q]; exact h1) h2
inductive Clean : Dt → Prop
  | v (x : V) : Clean (.v x)
  | tup {ds : List Dt} (h : ∀ d ∈ ds, Clean d) : Clean (.tup ds)
  | slt {C : Addr} {d : Dt} (h : Clean d) : Clean (.slt C d)
theorem Stt.lend_at (S : Stt K l0 F H σ ρ) (g : Go l0 (lendF F H σ ρ) H F' H') {a : Addr} {o : HO} (h : F' a = some o) (n : ¬ OwnK o) : lendB F' σ ρ a = some o := by
  have q : ¬ OwnA σ ρ a := fun q => by
    obtain ⟨_, _, u, hu, ku⟩ := S.ownA q
    have := g.ex a u (by rw [lend_own q]; exact hu)
    rw [h] at this
    cases this
    exact n ku
  rw [lendB_not q]
  exact h
mutual
theorem Stt.lend_den (S : Stt K l0 F H σ ρ) (g : Go l0 (lendF F H σ ρ) H F' H') : ∀ {v : V} {d : Dt}, Den K l0 F' v d → Clean d → Den K l0 (lendB F' σ ρ) v d
  | _, _, .v x, _ => .v x
  | _, _, .tup h r, c => by
    refine .tup ?_ (Stt.lend_dens S g r (by cases c with | tup h => exact h))
    rcases h with (h | ⟨o, h⟩) | h
    · exact .inl (.inl (S.lend_at g h nk_tup))
    · exact .inl (.inr ⟨o, S.lend_at g h nk_frz⟩)
    · exact .inr h
  | _, _, .slt h h2 ne r, c => .slt (S.lend_at g h nk_slo) (S.lend_at g h2 nk_xd) ne (Stt.lend_den S g r (by cases c with | slt h => exact h))
  | _, _, .lst h r, c => nomatch c
  | _, _, .obj h r, c => nomatch c
  | _, _, .exc h r, c => nomatch c
  | _, _, .exc0, c => nomatch c
  | _, _, .dct h r, c => nomatch c
  | _, _, .drw, c => nomatch c
theorem Stt.lend_dens (S : Stt K l0 F H σ ρ) (g : Go l0 (lendF F H σ ρ) H F' H') : ∀ {vs : List V} {ds : List Dt}, Dens K l0 F' vs ds → (∀ d ∈ ds, Clean d) → Dens K l0 (lendB F' σ ρ) vs ds
  | _, _, .nil, _ => .nil
  | _, _, .cons h t, c => .cons (Stt.lend_den S g h (c _ List.mem_cons_self)) (Stt.lend_dens S g t fun d m => c d (List.mem_cons_of_mem _ m))
end
def CleanX (x : Xn) : Prop := ∀ f ∈ x.fs, Clean f.2
theorem Stt.lend_denF (S : Stt K l0 F H σ ρ) (g : Go l0 (lendF F H σ ρ) H F' H') : ∀ {gs : List (Str × V)} {fs : List (Str × Dt)}, DenF K l0 F' gs fs → (∀ f ∈ fs, Clean f.2) → DenF K l0 (lendB F' σ ρ) gs fs
  | _, _, .nil, _ => .nil
  | _, _, .cons h t, c => .cons (S.lend_den g h (c _ List.mem_cons_self)) (Stt.lend_denF S g t fun f m => c f (List.mem_cons_of_mem _ m))
theorem Stt.lend_x (S : Stt K l0 F H σ ρ) (g : Go l0 (lendF F H σ ρ) H F' H') {cls : Value} {d : Option Addr} {x : Xn} (h : XDen K l0 F' H' cls d x) (c : CleanX x) : XDen K l0 (lendB F' σ ρ) H' cls d x := by
  obtain ⟨e, h | ⟨dd, gs, e2, h2, r⟩⟩ := h
  · exact ⟨e, .inl h⟩
  · exact ⟨e, .inr ⟨dd, gs, e2, S.lend_at g h2 nk_xd, S.lend_denF g r c⟩⟩
end
def dLend (de : DE) : DE := fun ρ Q E => de (lendEn ρ) (fun s => ∃ d, s = .dat d ∧ Clean d ∧ Q s) fun x => CleanX x ∧ E x
def dLendT (dt : DTt) : DTt := fun ρ Q E => dt (lendEn ρ) Q fun x => CleanX x ∧ E x
section
variable {X : Cx} {W : WX} {e : Expr} {xe : TE} {de : DE} {yt : TT} {dt : DTt}
theorem de_lend (h : DEX X W e xe de) : DEX X W e xe (dLend de) := ⟨h.1, fun ρ Q E q l0 F H σ S Qc k kx => by
  refine h.2 (lendEn ρ) _ _ q l0 (lendF F H σ ρ) H σ S.lend Qc (fun v s F' H' g r q => ?_) (fun cls d x F' H' g r q => kx cls d x _ H' (S.lend_go g) (S.lend_x g r q.1) q.2)
  obtain ⟨d, e, c, q⟩ := q
  subst e
  exact k v (.dat d) _ H' (S.lend_go g) (S.lend_den g r c) q⟩
theorem dt_lend (h : DTX X W e yt dt) : DTX X W e yt (dLendT dt) := ⟨h.1, fun ρ Q E q l0 F H σ S Qc k kx =>
  h.2 (lendEn ρ) _ _ q l0 (lendF F H σ ρ) H σ S.lend Qc (fun b F' H' g q => k b _ H' (S.lend_go g) q) (fun cls d x F' H' g r q => kx cls d x _ H' (S.lend_go g) (S.lend_x g r q.1) q.2)⟩
def dAtO (cs : List Addr) (i : Nat) (f : Str) : DE := fun ρ Q _ => ∃ p C fs d, ρ[i]? = some (.oob p C fs) ∧ C ∈ cs ∧ fs.lookup f = some d ∧ Q (.dat d)
theorem de_atO {cs : List Addr} {f y : Str} {p1 pos : Pos} (c : AtOk X.K cs f) (i : Nat) (hN : X.N[i]? = some y := by rfl) (hvis : Vis X.env.scope y := by first | exact Or.inl rfl | exact Or.inr (Or.inl rfl) | exact Or.inr (Or.inr rfl))
    (hd : (y == ("__debug__" : Str)) = false := by decide) (hcd : (y == ("__classdict__" : Str)) = false := by decide) (hb : attributeBase (.Name y p1) f X.env (eval (.Name y p1) X.env) = eval (.Name y p1) X.env := by rfl) :
    DEX X W (.Attribute (.Name y p1) f pos) (tFld X.K (tVar i) f) (dAtO cs i f) :=
  ⟨pe_fld (pe_var hN hvis hd hcd) hb, fun ρ Q E q l0 F H σ S Qc k kx => by
    obtain ⟨p, C, fs, d, h, hm, hl, q⟩ := q
    obtain ⟨gs, hσ, hF, n0, hH, r, _⟩ := S.oob h
    obtain ⟨v, h2, h3⟩ := r.look hl
    exact ⟨.ref p.1, hσ, p.1, C, p.2, gs, v, rfl, hH, (c C hm).1, (c C hm).2, h2, k v (.dat d) F H (.refl S.bs) h3 q⟩⟩
end
abbrev SdM := List (Str × Dt) → List Dt → (List (Str × Dt) → Prop) → (Xn → Prop) → Prop
def spMu (K : PySem.W.Frag) (C : Addr) (sd : SdM) : Sp := fun vs H Q E => ∃ x us l0 F fs gs ds Qd Ed dx, vs = V.ref x :: us ∧ Base l0 F H ∧ F x = none ∧ x ≠ l0 ∧ H x = some (.ins C dx gs) ∧ DenF K l0 F gs fs ∧ (F dx = none ∧ dx ≠ l0 ∧ H dx = some (.own x)) ∧ Dens K l0 F us ds ∧ sd fs ds Qd Ed ∧
  (∀ gs' fs' F' H', GoI l0 x F H F' H' → F' x = none → H' x = some (.ins C dx gs') → DenF K l0 F' gs' fs' → Qd fs' → Q .non H') ∧ (∀ cls dct xn F' H', GoI l0 x F H F' H' → XDen K l0 F' H' cls dct xn → Ed xn → E cls dct H')
def startM (p : Addr × Addr) (C : Addr) (fs : List (Str × Dt)) (n : Nat) (ds : List Dt) : En := .oob p C fs :: startD (n - 1) ds
def dEndsM (p : Addr × Addr) (C : Addr) (Q : List (Str × Dt) → Prop) (E : Xn → Prop) : DEnds := { nx := fun ρ => ∃ gs, ρ[0]? = some (.oob p C gs) ∧ Q gs, rt := fun _ => False, bk := fun _ => False, ct := fun _ => False, ex := fun x _ => E x }
section
variable {K : PySem.W.Frag} {l0 : Addr} {F H : Hp}
theorem Stt.startM {N : List Str} {y : Str} {x C dx : Addr} {vs : List V} {ds : List Dt} {fs : List (Str × Dt)} {gs : List (Str × V)} (b : Base l0 F H) (hF : F x = none) (n0 : x ≠ l0) (hH : H x = some (.ins C dx gs)) (rf : DenF K l0 F gs fs) (hd : F dx = none ∧ dx ≠ l0 ∧ H dx = some (.own x)) (r : Dens K l0 F vs ds) : Stt K l0 F H (L2.start (y :: N) (.ref x :: vs)) (DW.startM (x, dx) C fs (y :: N).length ds) := by
  have S0 := Stt.start (N := N) b r
  have e1 : L2.start (y :: N) (.ref x :: vs) = some (.ref x) :: L2.start N vs := by
    unfold L2.start
    simp
  have e2 : DW.startM (x, dx) C fs (y :: N).length ds = .oob (x, dx) C fs :: startD N.length ds := rfl
  rw [e1, e2]
  refine ⟨b, by rw [List.length_cons, List.length_cons, S0.len], fun i s h => ?_, fun i j s t a h1 h2 ⟨o1, z1⟩ ⟨o2, z2⟩ => ?_⟩
  · cases i with
    | zero =>
      cases h
      exact .inr ⟨.ref x, rfl, x, dx, gs, rfl, hF, n0, hH, rf, rfl, rfl, hd⟩
    | succ i => exact S0.sl i s h
  · cases i with
    | zero =>
      cases j with
      | zero => rfl
      | succ j => exact (startD_plain h2 o2).elim
    | succ i => exact (startD_plain h1 o1).elim
theorem startM_ow {N : List Str} {y : Str} {x dx C : Addr} {vs : List V} {ds : List Dt} {fs : List (Str × Dt)} {a : Addr} (h : Ow (L2.start (y :: N) (.ref x :: vs)) (DW.startM (x, dx) C fs (y :: N).length ds) a) : a = x := by
  obtain ⟨i, s, h1, h2, h3⟩ := h
  cases i with
  | zero =>
    have e1 : L2.start (y :: N) (.ref x :: vs) = some (.ref x) :: L2.start N vs := by
      unfold L2.start
      simp
    rw [e1] at h3
    cases h1
    rcases h3 with h3 | h3
    · cases h3
      rfl
    · exact nomatch h3
  | succ i => exact (startD_plain h1 h2).elim
end
theorem fn_dMu {P : Program} {w : World} {K : PySem.W.Frag} {mg : Str → Option Value} {base : Heap} {x y qual : Str} {params : Arguments} {body : List Stmt} {scope : Scope} {dvs : List V} {kws : List (Str × V)} {f C : Addr} {fd : FuncData} {N ps : List Str} {k : Nat} {sd : SdM} {ds : DS}
    (F : FunD K x qual params body scope dvs kws f fd) (S : FnScope (y :: N) ps scope) (len : ∀ fs as Q E, sd fs as Q E → as.length + 1 = ps.length)
    (hb : ∀ (cdv : Value) (A : Around) (outer : List Env) (s : Shared) (H : Hp) (E : XK), Room k (A.deeper (envOfC qual scope s.heap.objs.size f cdv)) →
      ∃ ts, DSSX (cxOf (L2.CX P w) P w K mg base (y :: N) qual scope f cdv A outer s H E) (fun cls d _ H => E cls d H) body ts ds)
    (hp : ∀ p fs as Q E, sd fs as Q E → ds (dEndsM p C Q E) (DW.startM p C fs (y :: N).length as)) : FnOk P w K mg base (L2.CX P w) (k + 1) f fd ps (spMu K C sd) := by
  refine F.ok S (fun vs H Q E h => ?_) fun cdv A outer s H vs Q E hr h => ?_
  · obtain ⟨x, us, l0, F, fs, gs, as, Qd, Ed, dx, e, b, hF, n0, hH, rf, hd, r, h, _, _⟩ := h
    rw [e, List.length_cons, r.length]
    exact len fs as Qd Ed h
  · obtain ⟨x, us, l0, F, fs, gs, as, Qd, Ed, dx, e, b, hF, n0, hH, rf, hd, r, h, hq, he⟩ := h
    subst e
    obtain ⟨ts, p, sd⟩ := hb cdv A outer s H E hr
    have toI : ∀ {F' H'}, GoS l0 F H (L2.start (y :: N) (.ref x :: us)) (DW.startM (x, dx) C fs (y :: N).length as) F' H' → GoI l0 x F H F' H' := fun g =>
      ⟨g.bs, g.ex, fun a h1 h2 => (g.new a h1 h2).imp id startM_ow, fun a o n1 n2 e => g.keep a o n1 (fun z => n2 (startM_ow z)) e⟩
    refine ⟨ts, p, sd _ _ (hp (x, dx) fs as Qd Ed h) l0 F H _ (Stt.startM b hF n0 hH rf hd r) _ ⟨fun F' H' σ' ρ' g w S' q => ?_, fun F' H' v d g r q => q.elim, fun F' H' σ' ρ' g w S' q => q.elim, fun F' H' σ' ρ' g w S' q => q.elim, fun cls d x F' H' σ' ρ' g w S' r q => ?_, fun F' H' σ' ρ' v d g w S' r q => q.elim⟩⟩
    · obtain ⟨gs', h0, q⟩ := q
      obtain ⟨fs', _, z1, _, z3, z4, _⟩ := S'.oob h0
      exact hq fs' gs' F' H' (toI g) z1 z3 z4 q
    · exact he cls d x F' H' (toI g) r q
end DW

set_option Elab.async false
set_option linter.all false
set_option maxRecDepth 100000
namespace DW
open PySem PySem.Spec PyProof.Rows L2 StX SlX ClX
section
variable {K : PySem.W.Frag} {l0 : Addr} {F H F' H' : Hp} {σ : L2.St} {ρ : En}
theorem Stt.afterI {i : Nat} {p : Addr × Addr} {C : Addr} {fs : List (Str × Dt)} (S : Stt K l0 F H σ ρ) (hρ : ρ[i]? = some (.oob p C fs)) (gi : GoI l0 p.1 F H F' H') {s' : Sl} (hs : s' = .emp ∨ ((∃ fs', s' = .oob p C fs') ∧ SlV K l0 F' H' (.ref p.1) s')) :
    Stt K l0 F' H' σ (ρ.set i s') ∧ GoS l0 F H σ ρ F' H' ∧ OwS H σ ρ σ (ρ.set i s') := by
  obtain ⟨gs0, hσ, hF, n0, hH, _, w1, w2, w3⟩ := S.oob hρ
  have ow : Ow σ ρ p.1 := ⟨i, _, hρ, rfl, .inl hσ⟩
  have stay : ∀ {a : Addr} {o : HO}, a ≠ p.1 → F a = none → H a = some o → F' a = none := fun {a o} ne h1 h2 => by
    cases e : F' a with
    | none => rfl
    | some u =>
      rcases gi.new a h1 (by rw [e]; exact fun z => nomatch z) with z | z
      · rw [h2] at z
        cases z
      · exact absurd z ne
  have other : ∀ {j : Nat} {s : Sl} {v : V}, i ≠ j → ρ[j]? = some s → σ[j]? = some (some v) → SlV K l0 F H v s → SlV K l0 F' H' v s := fun {j s v} q h h1 h2 => by
    cases s with
    | emp => exact h2
    | dat d => exact Den.mono gi.ex h2
    | own ds' =>
      obtain ⟨l', xs', e', a1, a2, h3, a3⟩ := h2
      subst e'
      have ne : l' ≠ p.1 := fun e => q (S.ap i j _ _ p.1 hρ h rfl rfl hσ (by rw [h1, e]))
      exact ⟨l', xs', rfl, stay ne a1 h3, a2, gi.keep _ _ a2 ne h3, Dens.mono gi.ex a3⟩
    | oob p0 C0 fs0 =>
      obtain ⟨l', dx', gs, e', a1, a2, h3, a3, e1, e2, z1, z2, z3⟩ := h2
      subst e'
      have ne : l' ≠ p.1 := fun e => q (S.ap i j _ _ p.1 hρ h rfl rfl hσ (by rw [h1, e]))
      have nd : dx' ≠ p.1 := fun z => by rw [z, hH] at z3; cases z3
      exact ⟨l', dx', gs, rfl, stay ne a1 h3, a2, gi.keep _ _ a2 ne h3, DenF.mono gi.ex a3, e1, e2, stay nd z1 z3, z2, gi.keep _ _ z2 nd z3⟩
    | odc kvs =>
      obtain ⟨l', xs', e', a1, a2, h3, a3⟩ := h2
      subst e'
      have ne : l' ≠ p.1 := fun e => q (S.ap i j _ _ p.1 hρ h rfl rfl hσ (by rw [h1, e]))
      exact ⟨l', xs', rfl, stay ne a1 h3, a2, gi.keep _ _ a2 ne h3, DenK.mono gi.ex a3⟩
    | tre t =>
      obtain ⟨r, nd, n⟩ := h2
      have ne : ∀ a ∈ t.ads, a ≠ p.1 := fun a m e => q (S.ap2 i j _ _ p.1 hρ h ⟨rfl, .inl hσ⟩ ⟨rfl, .inr (by rw [← e]; exact m)⟩)
      exact ⟨r.frm gi.ex (fun a m => by obtain ⟨k1, _, o, k3⟩ := r.liv a m; exact stay (ne a m) k1 k3) fun a m o e => gi.keep a o (r.liv a m).2.1 (ne a m) e, nd, n⟩
  have back : ∀ {j : Nat} {s : Sl} {a : Addr}, (ρ.set i s')[j]? = some s → s.owns σ[j]? a → ∃ u, ρ[j]? = some u ∧ u.owns σ[j]? a := fun {j s a} h o => by
    by_cases q : i = j
    · subst q
      rw [List.getElem?_set_self (lt_of_get hρ)] at h
      cases h
      refine ⟨_, hρ, rfl, ?_⟩
      rcases o.2 with o2 | o2
      · exact .inl o2
      · rcases hs with e | ⟨⟨fs', e⟩, _⟩
        · subst e
          exact nomatch o2
        · subst e
          exact nomatch o2
    · rw [List.getElem?_set_ne q] at h
      exact ⟨s, h, o⟩
  refine ⟨⟨gi.bs, by rw [List.length_set]; exact S.len, fun j s h => ?_, fun j k s t a h1 h2 ⟨o1, e1⟩ ⟨o2, e2⟩ => ?_⟩, ⟨gi.bs, gi.ex, fun a h1 h2 => (gi.new a h1 h2).imp id fun e => by rw [e]; exact ow, fun a o n h e => gi.keep a o n (fun z => h (by rw [z]; exact ow)) e⟩, fun a ⟨j, s, h1, h2, h3⟩ => ?_⟩
  · by_cases q : i = j
    · subst q
      rw [List.getElem?_set_self (lt_of_get hρ)] at h
      cases h
      rcases hs with e | ⟨_, e⟩
      · exact .inl e
      · exact .inr ⟨.ref p.1, hσ, e⟩
    · rw [List.getElem?_set_ne q] at h
      rcases S.sl j s h with z | ⟨v, h1, h2⟩
      · exact .inl z
      · exact .inr ⟨v, h1, other q h h1 h2⟩
  · obtain ⟨u, z1, z2⟩ := back h1 ⟨o1, e1⟩
    obtain ⟨w, z3, z4⟩ := back h2 ⟨o2, e2⟩
    exact S.ap2 j k u w a z1 z3 z2 z4
  · obtain ⟨u, z1, z2⟩ := back h1 ⟨h2, h3⟩
    exact .inl ⟨j, u, z1, z2⟩
end
def MuM (P : Program) (w : World) (K : PySem.W.Frag) (mg : Str → Option Value) (base : Heap) (k : Nat) (m : Str) (C : Addr) (sd : SdM) : Prop := ∃ (g : Addr) (fd : FuncData) (ps : List Str), Cls K C ∧ Meth K C m g ∧ FnOk P w K mg base (L2.CX P w) k g fd ps (spMu K C sd) ∧ Binds K fd ps []
theorem MuM.mono {P : Program} {w : World} {K : PySem.W.Frag} {mg : Str → Option Value} {base : Heap} {j k : Nat} {m : Str} {C : Addr} {sd : SdM} (M : MuM P w K mg base j m C sd) (h : j ≤ k) : MuM P w K mg base k m C sd := by
  obtain ⟨g, fd, ps, c, me, F, b⟩ := M
  exact ⟨g, fd, ps, c, me, F.mono h, b⟩
def tMut (X : Cx) (m : Str) (C : Addr) (sp : Sp) (E : L2.St → XK) (ta : TE) (t : TA) : TE := fun σ H Q => ta σ H fun x H1 => ∃ a dx fs, x = .ref a ∧ H1 a = some (.ins C dx fs) ∧ fs.lookup m = none ∧ t σ H1 fun vs H2 => sp (x :: vs) H2 Q (E σ)
def dMut (i : Nat) (m : Str) (C : Addr) (sd : SdM) (da : DA) : DS := fun D ρ => ∃ p fs, ρ[i]? = some (.oob p C fs) ∧ fs.lookup m = none ∧ da ρ (fun ss => plain ss fun ds => sd fs ds (fun fs' => D.nx (ρ.set i (.oob p C fs'))) fun x => D.ex x (ρ.set i .emp)) fun x => D.ex x ρ
section
variable {X : Cx} {W : WX} {k : Nat} {C : Addr} {m x y : Str} {p1 p pos apos epos : Pos} {e : Expr} {es : List Expr} {kws : List Keyword} {t : TA} {da : DA} {tk : TA} {dk : DA}
theorem ds_mut {sd : SdM} {pl : Sem Bool} (M : MuM X.prog X.w X.K X.mg X.base k m C sd) (tk : Takes X W) (hr : Room k X.A) (i : Nat) (ha : DAX X W (e :: es) t da) (hN : X.N[i]? = some y := by rfl) (hvis : Vis X.env.scope y := by first | exact Or.inl rfl | exact Or.inr (Or.inl rfl) | exact Or.inr (Or.inr rfl))
    (hd : (y == ("__debug__" : Str)) = false := by decide) (hcd : (y == ("__classdict__" : Str)) = false := by decide) (hst : starEach (e :: es) X.env = (false, eval e X.env) :: starEach es X.env := by rfl) (hpl : (backTo pos (starEach es X.env)).any (·.1) = false := by rfl)
    (ht : eval (.Call (.Attribute (.Name y p1) m apos) (e :: es) [] pos) X.env = (do
      let ov ← eval (.Name y p1) X.env
      standAt apos.atName
      let (f, first) ← holding [ov] (getMethod ov m pl)
      callWith pos f first (backTo pos (starEach (e :: es) X.env)) (backToKw pos (keywordEach [] X.env))) := by rfl)
    (hs : swapsWith (.Call (.Attribute (.Name y p1) m apos) (e :: es) [] pos) none epos.line X.env = pure false := by rfl) :
    DSX X W (.Expr (.Call (.Attribute (.Name y p1) m apos) (e :: es) [] pos) epos) (tDrop (tMut X m C (spMu X.K C sd) (WE W) (tVar i) t)) (dMut i m C sd da) := by
  obtain ⟨g, fd, ps, c, hm, F, hb⟩ := M
  refine ⟨ps_expr ⟨fun pins s σ H Q I h => ?_⟩ hs, fun D ρ h l0 F H σ S Cc L => ?_⟩
  · have he : PE X (.Name y p1) (tVar i) := pe_var hN hvis hd hcd
    refine PySem.W.methodCall_KW (pl := pl) (thn (he.run pins s σ H _ I h) fun u s1 ⟨x, H1, I1, rx, a, dx, fs, ex, ea, l, q⟩ => ?_) ht
    subst ex
    obtain rfl : u = Value.ref a := rx
    refine getmeth_ok I1 ea c hm l ?_
    refine PySem.W.callWith_K (first := [.ref a]) (h₀ := X.base) I.ok.mod.kin hm.kp (thn (ha.1.run pos pins s1 σ H1 _ I1 q) fun us s2 ⟨vs, H2, I2, r, q2⟩ => ⟨I2.kIn, ?_⟩) hst hpl
    exact run_fnS (us := .ref a :: us) (vs := .ref a :: vs) F hr hb (passAt tk σ) I2 (.cons rfl r) q2
  · obtain ⟨p, fs, hρ, hl, q⟩ := h
    obtain ⟨gs, hσ, hF, n0, hH, r, w1, w2, w3⟩ := S.oob hρ
    refine ⟨.ref p.1, hσ, p.1, p.2, gs, rfl, hH, r.none hl, ?_⟩
    refine ha.2 ρ _ _ q l0 F H σ S _ (fun vs ss F1 H1 g1 r1 q1 => ?_) (L.kx S)
    obtain ⟨ds, e, q2⟩ := plain_of q1
    subst e
    have S1 := S.go g1
    have L1 := L.trans S.bs (.of g1) .refl
    obtain ⟨gs1, hσ1, hF1, n01, hH1, r2, z1, z2, z3⟩ := S1.oob hρ
    refine ⟨p.1, vs, l0, F1, fs, gs1, ds, _, _, p.2, rfl, S1.bs, hF1, n01, hH1, r2, ⟨z1, z2, z3⟩, dens_of r1, q2, fun gs' fs' F' H' gi k1 k2 k3 qd => ?_, fun cls dct xn F' H' gi rx ex => ?_⟩
    · have nd : p.2 ≠ p.1 := fun z => by rw [z, hH1] at z3; cases z3
      have fd' : F' p.2 = none := by
        cases e : F' p.2 with
        | none => rfl
        | some u =>
          rcases gi.new p.2 z1 (by rw [e]; exact fun z => nomatch z) with z | z
          · rw [z3] at z
            cases z
          · exact absurd z nd
      obtain ⟨S2, g2, w2⟩ := S1.afterI hρ gi (s' := .oob p C fs') (.inr ⟨⟨_, rfl⟩, p.1, p.2, gs', rfl, k1, n01, k2, k3, rfl, rfl, fd', z2, gi.keep _ _ z2 nd z3⟩)
      exact L1.nx F' H' σ _ g2 w2 S2 qd
    · obtain ⟨S2, g2, w2⟩ := S1.afterI hρ gi (s' := .emp) (.inl rfl)
      exact L1.ex cls dct xn F' H' σ _ g2 w2 S2 rx ex
def MakeOkN (P : Program) (w : World) (K : PySem.W.Frag) (mg : Str → Option Value) (base : Heap) (k : Nat) (x : Str) (C : Addr) (sd : Sd) (n : Nat) (ks : List Str) (f : List V → List V → List V) : Prop := ∃ (g : Addr) (fd : FuncData) (ps : List Str) (u : List Value → List Value → List Value) (gV : List V → List V → List V),
  Mk K C g ∧ FnOk P w K mg base (L2.CX P w) k g fd ps (spIn K C sd) ∧ mg x = some (.ref C) ∧ KBn K fd ps (n + 1) ks u gV ∧ ∀ y vs zs, vs.length = n → zs.length = ks.length → gV (y :: vs) zs = y :: f vs zs
def tKwN (t tk : TA) (n m : Nat) (f : List V → List V → List V) : TA := fun σ H Q => t σ H fun vs H1 => tk σ H1 fun zs H2 => (vs.length = n ∧ zs.length = m) ∧ Q (f vs zs) H2
def dKwN (da dk : DA) (n m : Nat) (f : List Sl → List Sl → List Sl) : DA := fun ρ Q E => da ρ (fun ss => dk ρ (fun ts => (ss.length = n ∧ ts.length = m) ∧ Q (f ss ts)) E) E
theorem snd_kwN {K : PySem.W.Frag} {n m : Nat} {f : List V → List V → List V} {g : List Sl → List Sl → List Sl} (h1 : SndA K W t da) (h2 : SndA K W tk dk) (hf : ∀ {l0 F H vs ss zs ts}, Paired (SlV K l0 F H) vs ss → Paired (SlV K l0 F H) zs ts → Paired (SlV K l0 F H) (f vs zs) (g ss ts)) : SndA K W (tKwN t tk n m f) (dKwN da dk n m g) := fun ρ Q E q l0 F H σ S Qc k kx => by
  refine h1 ρ _ E q l0 F H σ S _ (fun vs ss F1 H1 g1 r1 q1 => ?_) kx
  refine h2 ρ _ E q1 l0 F1 H1 σ (S.go g1) _ (fun zs ts F2 H2 g2 r2 q2 => ?_) (kx.go g1)
  have r1' : Paired (SlV K l0 F2 H2) vs ss := by
    clear q1 q2 q
    induction r1 with
    | nil => exact .nil
    | cons h _ ih => exact .cons (h.go g2) ih
  exact ⟨⟨by rw [pairs_len r1]; exact q2.1.1, by rw [pairs_len r2]; exact q2.1.2⟩, k _ _ F2 H2 (g1.trans g2) (hf r1' r2) q2.2⟩
theorem run_makeKA {n : Nat} {f : Addr} {fd : FuncData} {ps ks : List Str} {sp : Sp} {E : L2.St → XK} {g : List Value → List Value → List Value} {gV : List V → List V → List V} {pins : List (Addr × Obj)} {σ : L2.St} {H : Hp} {s : Shared} {Q : VK} {us ws : List Value} {vs zs : List V} (M : Mk X.K C f) (F : FnOk X.prog X.w X.K X.mg X.base (L2.CX X.prog X.w) k f fd ps sp) (hr : Room (k + 1) X.A) (hb : KBn X.K fd ps (n + 1) ks g gV) (hx : PassesAt (L2.CX X.prog X.w) X σ (E σ))
    (I : Inv X pins σ H s) (r : Vals vs us) (rz : Vals zs ws) (lv : vs.length = n) (lz : zs.length = ks.length)
    (h : ∀ y dx, H y = none → H dx = none → dx ≠ y → sp (gV (V.ref y :: vs) zs) (upd (upd H dx (.own y)) y (.ins C dx [])) (fun v H2 => v = .non ∧ Q (.ref y) H2) (E σ)) :
    wpAny (model X.prog X.w) X.A (call (.ref C) us (ks.zip ws)) (EP X pins σ Q) X.xe s := by
  have q0 := h (s.heap.objs.size + 1) s.heap.objs.size (I.hok.fresh (Nat.le_succ _)) (I.hok.fresh (Nat.le_refl _)) (Nat.ne_of_lt (Nat.lt_succ_self _))
  have J := Inv.made (C := C) I
  have ru : Vals (V.ref (s.heap.objs.size + 1) :: vs) (Value.ref (s.heap.objs.size + 1) :: us) := .cons rfl r
  have lu : (Value.ref (s.heap.objs.size + 1) :: us).length = n + 1 := by rw [← ru.length, List.length_cons, lv]
  have body := F.run _ X.stack _ _ ⟨Value.ref (s.heap.objs.size + 1) :: us, ks.zip ws⟩ (g (Value.ref (s.heap.objs.size + 1) :: us) ws) _ _ (E σ) (hr.make C us (ks.zip ws)) (J.env0.make C us (ks.zip ws)) (hb.to _ _ ws J.kIn lu (by rw [← rz.length]; exact lz)) (hb.rel ru rz) q0
  refine wpAny_call (make_map (f := f) I.kIn M.makes M.init (beq_iff_eq.mp M.fn) (codeAny_mono body fun r s' z => ?_))
  cases r with
  | error e => exact hx pins _ _ e s' J z
  | ok fl =>
    cases fl with
    | ret u =>
      obtain ⟨v, H', J', rv, ev, q3⟩ := J.after z
      subst ev
      exact ⟨rv, ⟨V.ref (s.heap.objs.size + 1), H', J', rfl, q3⟩⟩
    | next => exact z.elim
    | brk => exact z.elim
    | cont => exact z.elim
theorem de_makeN {sd : Sd} {n : Nat} {ks : List Str} {f : List V → List V → List V} {fd : List Sl → List Sl → List Sl} (M : MakeOkN X.prog X.w X.K X.mg X.base k x C sd n ks f) (tak : Takes X W) (hr : Room (k + 1) X.A) (hg : Gl X x) (ha : DAX X W (e :: es) t da) (hk : DKX X W kws tk dk)
    (hf : ∀ {l0 F H vs ss zs ts}, Paired (SlV X.K l0 F H) vs ss → Paired (SlV X.K l0 F H) zs ts → Paired (SlV X.K l0 F H) (f vs zs) (fd ss ts))
    (hall : (backToKw pos (keywordEach kws X.env)).all (·.1.isSome) = true := by rfl) (hks : (backToKw pos (keywordEach kws X.env)).filterMap (·.1) = ks := by rfl) (hdb : (x == ("__debug__" : Str)) = false := by decide)
    (he : starEach (e :: es) X.env = (false, eval e X.env) :: starEach es X.env := by rfl) (hpl : ((backTo pos (starEach (e :: es) X.env)).any (·.1) || (backToKw pos (keywordEach kws X.env)).any (·.1.isNone)) = false := by rfl) :
    DEX X W (.Call (.Name x p) (e :: es) kws pos) (tMakeS C (spIn X.K C sd) (WE W) (tKwN t tk n ks.length f)) (dMake sd (dKwN da dk n ks.length fd)) := by
  obtain ⟨g, fd', ps, u, gV, m, F, hm, hb, hv⟩ := M
  refine ⟨⟨fun pins s σ H Q I h => ?_⟩, snd_make (snd_kwN ha.2 hk.2 hf)⟩
  refine wpAny_Call_Name_kw (ld_glob I hg hm ?_ hdb)
  refine PySem.W.callWith_KW (h₀ := X.base) I.ok.mod.kin m.kp hall (thn (ha.1.run pos pins s σ H _ I h) fun us s1 ⟨vs, H1, I1, r, q⟩ => ?_) hpl he
  refine thn (hk.1.run pos pins s1 σ H1 _ I1 q) fun ws s2 ⟨zs, H2, I2, rz, ⟨l1, l2⟩, q2⟩ => ⟨I2.kIn, ?_⟩
  rw [hks]
  exact run_makeKA m F hr hb (passAt tak σ) I2 r rz l1 l2 fun y dx a b c => by
    rw [hv _ _ _ l1 l2]
    exact q2 y dx a b c
end
end DW

set_option Elab.async false
set_option linter.all false
set_option maxRecDepth 100000
namespace DW
open PySem PySem.Spec PyProof.Rows L2 StX SlX ClX
def kwdAt (f : Str × Option Str) (x : Str) (K : PySem.W.Frag) : Addr := match K.lookup (He.fAd K f) with
  | some ⟨_, _, .func fd, _⟩ => (match fd.kwdefaults with
    | .ref D => (match PySem.W.nsIn K D x with
      | some (some (.ref a)) => a
      | _ => 0)
    | _ => 0)
  | _ => 0
def PrOb (P : Program) (w : World) (K : PySem.W.Frag) (mg : Str → Option Value) (base : Heap) (k : Nat) (f : Str) (C : Addr) (sd : Sd) : Prop := ∃ (p g : Addr) (fd : FuncData) (ps : List Str), Cls K C ∧ PropOf K C f p g ∧ FnOk P w K mg base (L2.CX P w) k g fd ps (spOf K sd) ∧ Binds K fd ps []
theorem PrOb.mono {P : Program} {w : World} {K : PySem.W.Frag} {mg : Str → Option Value} {base : Heap} {j k : Nat} {f : Str} {C : Addr} {sd : Sd} (M : PrOb P w K mg base j f C sd) (h : j ≤ k) : PrOb P w K mg base k f C sd := by
  obtain ⟨p, g, fd, ps, c, o, F, b⟩ := M
  exact ⟨p, g, fd, ps, c, o, F.mono h, b⟩
theorem mumok_by {P : Program} {w : World} {K : PySem.W.Frag} {mg : Str → Option Value} {base : Heap} {x y qual m : Str} {st : Stmt} {N ps : List Str} {k : Nat} {sd : SdM} {ds : DS} {C f : Addr} {fd : FuncData} (F : FunD K x qual (defArgs st) (defBody st) (defScope st) [] [] f fd) (cl : Cls K C) (hm : Meth K C m f) (S : FnScope (y :: N) ps (defScope st)) (len : ∀ fs as Q E, sd fs as Q E → as.length + 1 = ps.length)
    (hbd : ∀ (kV doc pm : Value) (an : Option Addr) (cdv ct : Value) (us : List Value), us.length = ps.length → bindArgs (PySem.W.fnOf x qual (defArgs st) (defBody st) (defScope st) .none kV doc pm an cdv ct) ⟨us, []⟩ = pure (ps.zip us))
    (hb : ∀ (X : Cx) (W : WX) (f : Addr) (cdv : Value) (A : Around) (outer : List Env) (s : Shared) (H : Hp) (E : XK), X = cxOf (L2.CX P w) P w K mg base (y :: N) qual (defScope st) f cdv A outer s H E → W = WX0 E → Takes (cxOf (L2.CX P w) P w K mg base (y :: N) qual (defScope st) f cdv A outer s H E) (WX0 E) → PassesOwn (model P w) (cxOf (L2.CX P w) P w K mg base (y :: N) qual (defScope st) f cdv A outer s H E).A (cxOf (L2.CX P w) P w K mg base (y :: N) qual (defScope st) f cdv A outer s H E).env (cxOf (L2.CX P w) P w K mg base (y :: N) qual (defScope st) f cdv A outer s H E).xe →
      Room k (cxOf (L2.CX P w) P w K mg base (y :: N) qual (defScope st) f cdv A outer s H E).A → (cxOf (L2.CX P w) P w K mg base (y :: N) qual (defScope st) f cdv A outer s H E).A.units + 64 < cLine → (y :: N).Nodup →
      ∃ ts, DSSX (cxOf (L2.CX P w) P w K mg base (y :: N) qual (defScope st) f cdv A outer s H E) (WX0 E) (defBody st) ts ds)
    (hp : ∀ p fs as Q E, sd fs as Q E → ds (dEndsM p C Q E) (DW.startM p C fs (y :: N).length as)) : MuM P w K mg base (k + 1) m C sd :=
  ⟨f, fd, ps, cl, hm, fn_dMu F S len (fun cdv A outer s H E hr => hb _ _ f cdv A outer s H E rfl rfl tk_cx po_cx hr hr.units S.nd) hp, FunD.bindsN F (fun kV doc pm an cdv ct us hl => hbd kV doc pm an cdv ct us hl)⟩
theorem inokW_by {P : Program} {w : World} {K : PySem.W.Frag} {mg : Str → Option Value} {base : Heap} {x y qual : Str} {st : Stmt} {N ps : List Str} {k : Nat} {sd : Sd} {ds : DS} {C f : Addr} {fd : FuncData} {dvs : List V} {kws : List (Str × V)} (F : FunD K x qual (defArgs st) (defBody st) (defScope st) dvs kws f fd) (S : FnScope (y :: N) ps (defScope st)) (len : ∀ as Q E, sd as Q E → as.length + 1 = ps.length)
    (hb : ∀ (X : Cx) (W : WX) (f : Addr) (cdv : Value) (A : Around) (outer : List Env) (s : Shared) (H : Hp) (E : XK), X = cxOf (L2.CX P w) P w K mg base (y :: N) qual (defScope st) f cdv A outer s H E → W = WX0 E → Takes (cxOf (L2.CX P w) P w K mg base (y :: N) qual (defScope st) f cdv A outer s H E) (WX0 E) → PassesOwn (model P w) (cxOf (L2.CX P w) P w K mg base (y :: N) qual (defScope st) f cdv A outer s H E).A (cxOf (L2.CX P w) P w K mg base (y :: N) qual (defScope st) f cdv A outer s H E).env (cxOf (L2.CX P w) P w K mg base (y :: N) qual (defScope st) f cdv A outer s H E).xe →
      Room k (cxOf (L2.CX P w) P w K mg base (y :: N) qual (defScope st) f cdv A outer s H E).A → (cxOf (L2.CX P w) P w K mg base (y :: N) qual (defScope st) f cdv A outer s H E).A.units + 64 < cLine → (y :: N).Nodup →
      ∃ ts, DSSX (cxOf (L2.CX P w) P w K mg base (y :: N) qual (defScope st) f cdv A outer s H E) (WX0 E) (defBody st) ts ds)
    (hp : ∀ p as Q E, sd as Q E → ds (dEndsI p C Q E) (startI p C (y :: N).length as)) : FnOk P w K mg base (L2.CX P w) (k + 1) f fd ps (spIn K C sd) :=
  fn_dIn F S len (fun cdv A outer s H E hr => hb _ _ f cdv A outer s H E rfl rfl tk_cx po_cx hr hr.units S.nd) hp
theorem MakeOkN.mono {P : Program} {w : World} {K : PySem.W.Frag} {mg : Str → Option Value} {base : Heap} {j k : Nat} {x : Str} {C : Addr} {sd : Sd} {n : Nat} {ks : List Str} {f : List V → List V → List V} (M : MakeOkN P w K mg base j x C sd n ks f) (h : j ≤ k) : MakeOkN P w K mg base k x C sd n ks f := by
  obtain ⟨g, fd, ps, u, gV, h1, F, h2⟩ := M
  exact ⟨g, fd, ps, u, gV, h1, F.mono h, h2⟩
end DW

set_option Elab.async false
set_option linter.all false
set_option maxRecDepth 100000
namespace DW
open PySem PySem.Spec PyProof.Rows L2 StX SlX ClX
section
variable {X : Cx} {k : Nat} {C : Addr} {sd : Sd}
def rNiS (K : PySem.W.Frag) (C : Addr) (sd : Sd) : R2 := fun x y H Q => IsSl H C y ∧ spOf K sd [y, x] H (fun v H' => ∃ b : Bool, v = .bl b ∧ Q (.bl (!b)) H') (fun _ _ _ => False)
theorem op_niS (M : MSl X.prog X.w X.K X.mg X.base k "__contains__" C sd) (hr : Room k X.A) : L2.OpR X (compareOp .NotIn) (rNiS X.K C sd) := by
  intro pins s σ H x y v u Q I rx ry h
  obtain ⟨⟨b, dy, ws, rfl, hb⟩, q⟩ := h
  obtain ⟨g, fd, ps, sc, sf, me, F, bd⟩ := M
  cases (show u = Value.ref b from ry)
  obtain ⟨_, _, _, J, _⟩ := slt_inst I hb
  obtain ⟨_, hF⟩ := I.fr
  refine PySem.W.notIn_K hF I.ok.mod.kin J me.at_ me.fn (wpAny_mono (run_fnS (us := [.ref b, v]) (vs := [.ref b, x]) (E := fun _ _ _ _ => False) F hr bd noX I (.cons rfl (.cons rx .nil)) q) (fun w s' z => ?_) fun _ _ x => x)
  obtain ⟨_, H', I', rz, c, e, qz⟩ := z
  subst e
  cases (show w = Value.bool c from rz)
  exact wpAny_of_eq (by rfl) ⟨.bl (!c), H', I', rfl, qz⟩
def dNiS (C : Addr) (sd : Sd) (rd : D2) : D2 := fun x y Q => match y with
  | .dat (.slt C' d) => C' = C ∧ ∃ e, x = .dat e ∧ sd [.slt C d, e] (fun z => ∃ b : Bool, z = .v (.bl b) ∧ Q (.dat (.v (.bl (!b))))) (fun _ => False)
  | _ => rd x y Q
theorem sr_niS {K : PySem.W.Frag} {r : R2} {rd : D2} (h : SndR K r rd) : SndR K (fun x y H Q => rNiS K C sd x y H Q ∨ r x y H Q) (dNiS C sd rd) := fun x y s t Q q l0 F H b r1 r2 Qc kk => by
  unfold dNiS at q
  split at q
  · obtain ⟨e1, e, e2, q⟩ := q
    subst e1 e2
    refine .inl ⟨isSl_of b.sub r2, l0, F, _, _, _, b, .cons r2 (.cons r1 .nil), q, fun v d F' H' g r q => ?_, fun _ _ _ _ _ _ _ q => q.elim⟩
    obtain ⟨c, e, q⟩ := q
    subst e
    have rv : v = .bl c := by cases r; rfl
    subst rv
    exact ⟨c, rfl, kk (.bl (!c)) (.dat (.v (.bl (!c)))) F' H' g (Den.v _) q⟩
  · exact .inr (h x y s t Q q l0 F H b r1 r2 Qc kk)
end
end DW

set_option Elab.async false
set_option linter.all false
set_option maxRecDepth 100000
namespace DW
open PySem PySem.Spec PyProof.Rows L2 StX SlX ClX
def dctOf : List Str → List Dt → List (Key × Dt)
  | k :: ks, d :: ds => (.inr k, d) :: dctOf ks ds
  | _, _ => []
def vtOf : List Str → List V → List (Key × V)
  | k :: ks, d :: ds => (.inr k, d) :: vtOf ks ds
  | _, _ => []
def dDisp (ks : List Str) (dr : DA) : DE := fun ρ Q E => dr ρ (fun ss => plain ss fun ds => Q (.dat (.dct (dctOf ks ds)))) E
def atS : List (Key × Dt) → Str → Option Dt
  | (.inr x, d) :: r, k => if x = k then some d else atS r k
  | _ :: r, k => atS r k
  | [], _ => none
def keyS (k : Str) : Sl → (Sl → Prop) → Prop
  | .dat (.dct kvs), Q => ∃ d, atS kvs k = some d ∧ Q (.dat d)
  | _, _ => False
def dKey (k : Str) (da : DE) : DE := fun ρ Q E => da ρ (fun s => keyS k s Q) E
section
variable {X : Cx} {W : WX} {K : PySem.W.Frag} {l0 : Addr} {F H : Hp} {pos : Pos}
theorem DenK.at : ∀ {xs : List (Key × V)} {ds : List (Key × Dt)} {k : Str} {d : Dt}, DenK K l0 F xs ds → atS ds k = some d → ∃ v, valV xs (.inr k : Key) = some v ∧ Den K l0 F v d
  | _, _, _, _, .nil, e => by simp [atS] at e
  | _, _, k, d, .cons (f := .inl i) (x := y) (d := b) h t, e => by
    have e : atS _ k = some d := e
    obtain ⟨v, h1, h2⟩ := DenK.at t e
    exact ⟨v, by rw [valV_neg (by simp)]; exact h1, h2⟩
  | _, _, k, d, .cons (f := .inr g) (x := y) (d := b) h t, e => by
    by_cases q : g = k
    · subst q
      simp only [atS, if_true] at e
      cases e
      exact ⟨y, by unfold valV; simp, h⟩
    · simp only [atS, if_neg q] at e
      obtain ⟨v, h1, h2⟩ := DenK.at t e
      exact ⟨v, by rw [valV_neg (by simpa using q)]; exact h1, h2⟩
theorem DenK.of : ∀ {ks : List Str} {vs : List V} {ds : List Dt}, Dens K l0 F vs ds → DenK K l0 F (vtOf ks vs) (dctOf ks ds)
  | [], _, _, .nil => .nil
  | [], _, _, .cons _ _ => .nil
  | _ :: _, _, _, .nil => .nil
  | _ :: ks, _, _, .cons h t => .cons h (DenK.of t)
theorem valV_app {kvs more : List (Key × V)} {k : Key} (h : valV kvs k = none) (h2 : valV more k = none) : valV (kvs ++ more) k = none := by
  unfold valV at *
  rw [List.find?_append]
  cases e : kvs.find? (fun kv => decide (kv.1 = k)) with
  | none => simpa using h2
  | some p => rw [e] at h; cases h
theorem merge_vt : ∀ {ks : List Str} {vs : List V} {acc : List (Key × V)}, ks.Nodup → (∀ k ∈ ks, valV acc (.inr k : Key) = none) → mergeK acc (vtOf ks vs) = acc ++ vtOf ks vs
  | [], vs, acc, _, _ => by show acc = acc ++ []; rw [List.append_nil]
  | _ :: _, [], acc, _, _ => by show acc = acc ++ []; rw [List.append_nil]
  | k :: ks, v :: vs, acc, nd, h => by
    show mergeK (putK acc (.inr k) v) (vtOf ks vs) = acc ++ ((.inr k, v) :: vtOf ks vs)
    rw [putK_new v (h k (List.mem_cons_self ..)), merge_vt (List.nodup_cons.mp nd).2 (fun j m => valV_app (h j (List.mem_cons_of_mem _ m)) (by
      rw [valV_neg (by intro e; cases e; exact (List.nodup_cons.mp nd).1 m)]
      rfl)), List.append_assoc]
    rfl
theorem vt_len : ∀ {ks : List Str} {vs : List V}, (vtOf ks vs).length ≤ ks.length
  | [], _ => Nat.le_refl _
  | _ :: _, [] => Nat.zero_le _
  | _ :: ks, _ :: vs => Nat.succ_le_succ (vt_len (ks := ks) (vs := vs))
structure DPX (X : Cx) (W : WX) (pos : Pos) (keys : List (Option Expr)) (values : List Expr) (ks : List Str) (trs : List (TE × TE)) (da : DA) : Prop where
  pp : PPs X pos keys values trs
  sd : ∀ ρ Q E, da ρ Q E → ∀ l0 F H σ, Stt X.K l0 F H σ ρ → ∀ Qc : List (V × V) → Hp → Prop,
    (∀ vs ss F' H', Go l0 F H F' H' → Paired (SlV X.K l0 F' H') vs ss → Q ss → Qc ((vtOf ks vs).map fun p => (kV p.1, p.2)) H') → KX X.K W l0 F H σ E → tPairs trs σ H Qc
theorem dp_nil : DPX X W pos [] [] [] [] dNil := ⟨pps_nil, fun ρ Q E h l0 F H σ S Qc k _ => k [] [] F H (.refl S.bs) .nil h⟩
theorem dp_cons {x : Str} {j p} {v : Expr} {keys : List (Option Expr)} {values : List Expr} {ks : List Str} {trs : List (TE × TE)} {tv : TE} {dv : DE} {dr : DA} (hv : DEX X W v tv dv) (hr : DPX X W pos keys values ks trs dr) :
    DPX X W pos (some (.Constant (.str x) j p) :: keys) (v :: values) (x :: ks) ((tC (.str x), tv) :: trs) (dCons dv dr) :=
  ⟨pps_cons pe_str hv.1 hr.1, fun ρ Q E h l0 F H σ S Qc k kx => by
    refine hv.2 ρ _ E h l0 F H σ S _ (fun y s F1 H1 g1 r1 q1 => ?_) kx
    refine hr.2 ρ _ E q1 l0 F1 H1 σ (S.go g1) _ (fun vs ss F2 H2 g2 r2 q2 => ?_) (kx.go g1)
    exact k (y :: vs) (s :: ss) F2 H2 (g1.trans g2) (.cons (r1.go g2) r2) q2⟩
theorem de_disp {keys : List (Option Expr)} {values : List Expr} {ks : List Str} {trs : List (TE × TE)} {dr : DA} (h : DPX X W pos keys values ks trs dr) (nd : ks.Nodup := by decide) (hall : keys.all (·.isSome) = true := by rfl) (hl : keys.length = values.length := by rfl)
    (h0 : keys ≠ [] := by simp) (h15 : keys.length ≤ 15 := by decide) (hk : ks.length ≤ 15 := by decide) : DEX X W (.Dict keys values pos) (tDisp trs) (dDisp ks dr) := by
  refine ⟨pe_disp h.1 hall hl h0 h15, fun ρ Q E q l0 F H σ S Qc k kx p hp => ?_⟩
  have g0 := Go.loose (p := p) S.bs (.dK []) hp
  have n0 : p ≠ l0 := fun e => S.bs.live (by rw [← e]; exact hp)
  have nF : F p = none := by
    cases e : F p with
    | none => rfl
    | some u =>
      have := S.bs.sub p u e
      rw [hp] at this
      cases this
  refine h.2 ρ _ E q l0 _ _ σ (S.go g0) _ (fun vs ss F2 H2 g2 r2 q2 => ?_) (kx.go g0)
  obtain ⟨ds, e, q3⟩ := plain_of q2
  subst e
  clear q2
  have h2 : H2 p = some (.dK []) := g2.keep _ _ n0 upd_same
  have f2 : F2 p = none := g2.stays nF upd_same
  refine ⟨h2, vtOf ks vs, rfl, Nat.le_trans vt_len hk, ?_⟩
  have e : mergeK [] (vtOf ks vs) = vtOf ks vs := by rw [merge_vt nd (fun _ _ => rfl)]; rfl
  rw [e]
  have g3 := ((g0.trans g2).modNew (o := .dK (vtOf ks vs)) hp f2 n0).frzNew (D := p) (o := .dK (vtOf ks vs)) hp f2 n0 upd_same
  refine k (.ref p) (.dat (.dct (dctOf ks ds))) _ _ g3 ?_ q3
  refine Den.dct upd_same (DenK.mono (F := F2) (fun a o h => ?_) (DenK.of (dens_of r2)))
  rw [upd_ne (ne_of_none h f2)]
  exact h
theorem keyS_of {k : Str} {s : Sl} {Q : Sl → Prop} (h : keyS k s Q) : ∃ kvs d, s = .dat (.dct kvs) ∧ atS kvs k = some d ∧ Q (.dat d) := by
  unfold keyS at h
  split at h
  · obtain ⟨d, e1, q⟩ := h
    exact ⟨_, d, rfl, e1, q⟩
  · exact h.elim
theorem de_key {e : Expr} {k : Str} {te : TE} {de : DE} {j p} (hu : X.A.units + 64 < cLine) (he : DEX X W e te de) : DEX X W (.Subscript e (.Constant (.str k) j p) pos) (tDGet te (tC (.str k))) (dKey k de) := by
  refine ⟨pe_dget (by omega) he.1 pe_str (fun _ _ => rfl), fun ρ Q E q l0 F H σ S Qc kk kx => ?_⟩
  refine he.2 ρ _ E q l0 F H σ S _ (fun x s F1 H1 g1 r1 q1 => ?_) kx
  have q1 : keyS k s Q := q1
  obtain ⟨kvs, d, e0, e1, q5⟩ := keyS_of q1
  subst e0
  cases r1 with
  | dct h r =>
    obtain ⟨v, e2, r2⟩ := r.at e1
    exact ⟨_, v, rfl, by rw [← e2]; exact DGet.k (k := .inr k) (g1.bs.sub _ _ h), kk v (.dat d) _ _ g1 r2 q5⟩
end
end DW

set_option Elab.async false
set_option linter.all false
set_option maxRecDepth 100000
namespace DW
open PySem PySem.Spec PyProof.Rows L2 NdefX ClX
section
variable {X : Cx} {W : WX} {b l : List Stmt} {st : Stmt} {e e2 : Expr} {pos : Pos} {xa xb : TE} {da db : DE} {t : TS} {u : DS}
theorem pea_op {op : Operator} {r : R2} (ho : L2.OpR X (binaryOp op) r) (ha : PEA X b e xa) (hb : PE X e2 xb) : PEA X b (.BinOp e op e2 pos) (tOp r xa xb) := fun pins s σ H Q I h => by
  refine ks_wpAt_BinOp (ks_wpAt_mono (ha pins s σ H _ I h) (fun u s1 hs => ?_) fun _ _ z => z)
  obtain ⟨x, H1, I1, rx, q1⟩ := hs
  exact thn (hb.run pins s1 σ H1 _ I1 q1) fun w s2 ⟨y, H2, I2, ry, q2⟩ => ho pins s2 σ H2 x y u w Q I2 rx ry q2
theorem dea_op {op : Operator} {r : R2} {rd : D2} (ho : L2.OpR X (binaryOp op) r) (hs : SndR X.K r rd) (ha : DEA X W b e xa da) (hb : DEX X W e2 xb db) : DEA X W b (.BinOp e op e2 pos) (tOp r xa xb) (dOp rd da db) :=
  ⟨pea_op ho ha.1 hb.1, snd_op hs ha.2 hb.2⟩
end
end DW

set_option Elab.async false
set_option linter.all false
set_option maxRecDepth 100000
namespace DW
open PySem PySem.Spec PyProof.Rows L2
def refsZ (o : Obj) : List Addr := match o.data with
  | .seq its _ => its.toList.flatMap He.refV
  | .dict es _ => es.toList.flatMap fun e => He.refV e.val
  | .func fd => He.refV fd.code ++ He.refV fd.defaults ++ He.refV fd.kwdefaults ++ fd.closure.map (·.2)
  | .cls cd => [cd.ns]
  | .fields vs => vs.toList.flatMap He.refV
  | _ => []
def nxZ (g : Addr → Option Obj) (as : List Addr) : List Addr := as.flatMap fun a => match g a with
  | some o => refsZ o
  | none => []
end DW

set_option Elab.async false
set_option linter.all false
set_option maxRecDepth 100000
namespace DW
open PySem L2
end DW

set_option Elab.async false
set_option linter.all false
set_option maxRecDepth 100000
namespace DW
open PySem PySem.Spec PyProof.Rows L2
def CDivM (_ j : Int) : Prop := j ≠ 0 ∧ j.natAbs < 2 ^ 250
theorem op_fdivM {X : Cx} : L2.OpR X (binaryOp .FloorDiv) (rI CDivM fun i j => .int (i.fdiv j)) := opI fun i j _ _ _ _ _ hc q => floordiv_int hc.1 q (.inl (PyProof.noPylong_of_log2 (Nat.lt_trans (PySem.Flt.log2_lt_of (by decide) hc.2) (by decide))))
def dFdivM : D2 := d2I (fun _ j => j ≠ 0 ∧ j.natAbs < 2 ^ 250) fun i j => .int (i.fdiv j)
theorem de_fdivM {X : Cx} {W : WX} {a b : Expr} {xa xb : TE} {da db : DE} {pos : Pos} (ha : DEX X W a xa da) (hb : DEX X W b xb db) : DEX X W (.BinOp a .FloorDiv b pos) (tOp (rI CDivM fun i j => .int (i.fdiv j)) xa xb) (dOp dFdivM da db) := de_op op_fdivM (sr_I fun _ _ h => h) ha hb
end DW

set_option Elab.async false
set_option linter.all false
set_option maxRecDepth 100000
namespace DW
open PySem PySem.Spec PyProof.Rows L2
end DW

set_option Elab.async false
set_option linter.all false
set_option maxRecDepth 100000
namespace DW
open PySem PySem.Spec PyProof.Rows L2 SlX
end DW

set_option Elab.async false
set_option linter.all false
set_option maxRecDepth 100000
namespace DW
open PySem PySem.Spec PyProof.Rows L2 SlX
end DW

set_option Elab.async false
set_option linter.all false
set_option maxRecDepth 100000
namespace DW
open PySem PySem.Spec PyProof.Rows L2
end DW

set_option Elab.async false
set_option linter.all false
set_option maxRecDepth 100000
namespace DW
open PySem PySem.Spec PyProof.Rows L2 StX SlX ClX
structure LnkT (K : PySem.W.Frag) (W : WX) (D : DEnds) (C : Ends) : Prop where
  nx : ∀ l0 F H σ ρ, Stt K l0 F H σ ρ → D.nx ρ → C.nx σ H
  rt : ∀ l0 F H v d, Den K l0 F v d → D.rt d → C.rt v H
  bk : ∀ l0 F H σ ρ, Stt K l0 F H σ ρ → D.bk ρ → C.bk σ H
  ct : ∀ l0 F H σ ρ, Stt K l0 F H σ ρ → D.ct ρ → C.ct σ H
  ex : ∀ cls d x l0 F H σ ρ, Stt K l0 F H σ ρ → XDen K l0 F H cls d x → D.ex x ρ → W cls d σ H
  rs : ∀ l0 F H σ ρ v d, Stt K l0 F H σ ρ → Den K l0 F v d → D.rs d ρ → C.rt v H
def SndL (K : PySem.W.Frag) (W : WX) (ts : TS) (ds : DS) : Prop := ∀ D ρ, ds D ρ → ∀ l0 F H σ, Stt K l0 F H σ ρ → ∀ C, LnkT K W D C → ts C σ H
theorem LnkT.lnk {K : PySem.W.Frag} {W : WX} {D : DEnds} {C : Ends} (L : LnkT K W D C) {l0 : Addr} {F H : Hp} {σ : L2.St} {ρ : En} : Lnk K W l0 F H σ ρ D C :=
  ⟨fun F' H' σ' ρ' _ _ S q => L.nx l0 F' H' σ' ρ' S q, fun F' H' v d _ r q => L.rt l0 F' H' v d r q, fun F' H' σ' ρ' _ _ S q => L.bk l0 F' H' σ' ρ' S q, fun F' H' σ' ρ' _ _ S q => L.ct l0 F' H' σ' ρ' S q, fun cls d x F' H' σ' ρ' _ _ S r q => L.ex cls d x l0 F' H' σ' ρ' S r q, fun F' H' σ' ρ' v d _ _ S r q => L.rs l0 F' H' σ' ρ' v d S r q⟩
def DSL (X : Cx) (W : WX) (st : Stmt) (ts : TS) (ds : DS) : Prop := PS X st ts ∧ SndL X.K W ts ds
def DSSL (X : Cx) (W : WX) (st : List Stmt) (ts : TS) (ds : DS) : Prop := PSs X st ts ∧ SndL X.K W ts ds
section
variable {X : Cx} {W : WX} {st : Stmt} {rest p q : List Stmt} {va vb : TS} {t u : DS} {c : Expr} {ya : TT} {ta : DTt} {pos : Pos}
theorem dsl_of (h : DSX X W st va t) : DSL X W st va t := ⟨h.1, fun D ρ q l0 F H σ S C L => h.2 D ρ q l0 F H σ S C L.lnk⟩
theorem dssl_of (h : DSSX X W rest va t) : DSSL X W rest va t := ⟨h.1, fun D ρ q l0 F H σ S C L => h.2 D ρ q l0 F H σ S C L.lnk⟩
theorem dssl_cons (h1 : DSL X W st va t) (h2 : DSSL X W rest vb u) : DSSL X W (st :: rest) (tSeq va vb) (dSeq t u) := by
  obtain ⟨p1, s1⟩ := h1
  obtain ⟨p2, s2⟩ := h2
  refine ⟨pss_cons p1 p2, fun D ρ h l0 F H σ S C L => ?_⟩
  exact s1 { D with nx := u D } ρ h l0 F H σ S { C with nx := vb C } ⟨fun l0 F H σ ρ S q => s2 D ρ q l0 F H σ S C L, L.rt, L.bk, L.ct, L.ex, L.rs⟩
theorem dssl_one (h1 : DSL X W st va t) : DSSL X W [st] va t := ⟨pss_one h1.1, h1.2⟩
theorem dssl_nil : DSSL X W [] tNext dNext := dssl_of dss_nil
theorem dsl_if (hc : DTX X W c ya ta) (ha : DSSL X W p va t) (hb : DSSL X W q vb u) : DSL X W (.If c p q pos) (tIfS ya va vb) (dIfS ta t u) := by
  obtain ⟨pc, sc⟩ := hc
  obtain ⟨p1, s1⟩ := ha
  obtain ⟨p2, s2⟩ := hb
  refine ⟨ps_if pc p1 p2, fun D ρ h l0 F H σ S C L => ?_⟩
  refine sc ρ _ _ h l0 F H σ S _ (fun b F1 H1 g1 q1 => ?_) (L.lnk.kx S)
  cases b with
  | true =>
    rw [if_pos rfl] at q1 ⊢
    exact s1 D ρ q1 l0 F1 H1 σ (S.go g1) C L
  | false =>
    rw [if_neg Bool.false_ne_true] at q1 ⊢
    exact s2 D ρ q1 l0 F1 H1 σ (S.go g1) C L
end
inductive NoDct : Dt → Prop
  | v (x : V) : NoDct (.v x)
  | lst {ds : List Dt} (h : ∀ d ∈ ds, NoDct d) : NoDct (.lst ds)
  | tup {ds : List Dt} (h : ∀ d ∈ ds, NoDct d) : NoDct (.tup ds)
  | obj {C : Addr} {fs : List (Str × Dt)} (h : ∀ x ∈ fs, NoDct x.2) : NoDct (.obj C fs)
  | slt {C : Addr} {d : Dt} (h : NoDct d) : NoDct (.slt C d)
  | drw : NoDct .drw
theorem NoDct.lstI {ds : List Dt} : NoDct (.lst ds) → ∀ d ∈ ds, NoDct d
  | .lst h => h
theorem NoDct.tupI {ds : List Dt} : NoDct (.tup ds) → ∀ d ∈ ds, NoDct d
  | .tup h => h
theorem NoDct.objI {C : Addr} {fs : List (Str × Dt)} : NoDct (.obj C fs) → ∀ x ∈ fs, NoDct x.2
  | .obj h => h
theorem NoDct.sltI {C : Addr} {d : Dt} : NoDct (.slt C d) → NoDct d
  | .slt h => h
theorem NoDct.excN {a : Addr} {dd : Option Addr} {C : Addr} {fs : List (Str × Dt)} (h : NoDct (.exc a dd C fs)) : False := nomatch h
theorem NoDct.dctN {kvs : List (Key × Dt)} (h : NoDct (.dct kvs)) : False := nomatch h
section
variable {K : PySem.W.Frag} {l0 : Addr} {F F2 : Hp}
theorem rd_mv (m : ∀ a o, F a = some o → (∀ xs, o ≠ .dK xs) → F2 a = some o) {a : Addr} {o : HO} (h : Rd F a o) (n1 : ∀ xs, o ≠ .dK xs) : Rd F2 a o := by
  rcases h with h | ⟨ob, h⟩
  · exact .inl (m a o h n1)
  · exact .inr ⟨ob, m a _ h fun xs e => nomatch e⟩
theorem sql_mv (m : ∀ a o, F a = some o → (∀ xs, o ≠ .dK xs) → F2 a = some o) {a : Addr} {xs : List V} (h : SqL K F a xs) : SqL K F2 a xs := h.imp (fun h => rd_mv m h fun _ e => nomatch e) id
theorem sqt_mv (m : ∀ a o, F a = some o → (∀ xs, o ≠ .dK xs) → F2 a = some o) {a : Addr} {xs : List V} (h : SqT K F a xs) : SqT K F2 a xs := h.imp (fun h => rd_mv m h fun _ e => nomatch e) id
theorem slo_mv (m : ∀ a o, F a = some o → (∀ xs, o ≠ .dK xs) → F2 a = some o) {a C dx : Addr} {vs : List (Option V)} (h : F a = some (SlX.SlO a C dx vs)) : F2 a = some (SlX.SlO a C dx vs) := m _ _ h fun _ e => by cases e
mutual
theorem Den.mv (m : ∀ a o, F a = some o → (∀ xs, o ≠ .dK xs) → F2 a = some o) : ∀ {v : V} {d : Dt}, NoDct d → Den K l0 F v d → Den K l0 F2 v d
  | _, _, _, .v x => .v x
  | _, _, n, .lst h r => .lst (sql_mv m h) (Dens.mv m n.lstI r)
  | _, _, n, .tup h r => .tup (sqt_mv m h) (Dens.mv m n.tupI r)
  | _, _, n, .obj h r => .obj (m _ _ h (fun _ e => nomatch e)) (DenF.mv m n.objI r)
  | _, _, n, .slt h h2 ne r => .slt (slo_mv m h) (m _ _ h2 (fun _ e => nomatch e)) ne (Den.mv m n.sltI r)
  | _, _, n, .exc h r => n.excN.elim
  | _, _, n, .exc0 => n.excN.elim
  | _, _, n, .dct h r => n.dctN.elim
  | _, _, _, .drw => .drw
theorem Dens.mv (m : ∀ a o, F a = some o → (∀ xs, o ≠ .dK xs) → F2 a = some o) : ∀ {v : List V} {d : List Dt}, (∀ x ∈ d, NoDct x) → Dens K l0 F v d → Dens K l0 F2 v d
  | _, _, _, .nil => .nil
  | _, _, n, .cons h t => .cons (Den.mv m (n _ List.mem_cons_self) h) (Dens.mv m (fun x y => n x (List.mem_cons_of_mem _ y)) t)
theorem DenF.mv (m : ∀ a o, F a = some o → (∀ xs, o ≠ .dK xs) → F2 a = some o) : ∀ {v : List (Str × V)} {d : List (Str × Dt)}, (∀ x ∈ d, NoDct x.2) → DenF K l0 F v d → DenF K l0 F2 v d
  | _, _, _, .nil => .nil
  | _, _, n, .cons h t => .cons (Den.mv m (n _ List.mem_cons_self) h) (DenF.mv m (fun x y => n x (List.mem_cons_of_mem _ y)) t)
end
theorem DenK.mv (m : ∀ a o, F a = some o → (∀ xs, o ≠ .dK xs) → F2 a = some o) : ∀ {v : List (Key × V)} {d : List (Key × Dt)}, (∀ x ∈ d, NoDct x.2) → DenK K l0 F v d → DenK K l0 F2 v d
  | _, _, _, .nil => .nil
  | _, _, n, .cons h t => .cons (Den.mv m (n _ List.mem_cons_self) h) (DenK.mv m (fun x y => n x (List.mem_cons_of_mem _ y)) t)
def putKD (kvs : List (Key × Dt)) (k : Key) (d : Dt) : List (Key × Dt) :=
  if (kvs.any fun kv => decide (kv.1 = k)) = true then kvs.map (fun kv => if kv.1 = k then (kv.1, d) else kv) else kvs ++ [(k, d)]
theorem DenK.any (k : Key) : ∀ {xs : List (Key × V)} {kvs : List (Key × Dt)}, DenK K l0 F xs kvs → (xs.any fun kv => decide (kv.1 = k)) = (kvs.any fun kv => decide (kv.1 = k))
  | _, _, .nil => rfl
  | _, _, .cons h t => by rw [List.any_cons, List.any_cons, DenK.any k t]
theorem DenK.mapP {k : Key} {v : V} {d : Dt} (r : Den K l0 F v d) : ∀ {xs : List (Key × V)} {kvs : List (Key × Dt)}, DenK K l0 F xs kvs → DenK K l0 F (xs.map fun kv => if kv.1 = k then (kv.1, v) else kv) (kvs.map fun kv => if kv.1 = k then (kv.1, d) else kv)
  | _, _, .nil => .nil
  | _, _, .cons (f := f) h t => by
    rw [List.map_cons, List.map_cons]
    by_cases c : f = k
    · rw [if_pos c, if_pos c]
      exact .cons r (DenK.mapP r t)
    · rw [if_neg c, if_neg c]
      exact .cons h (DenK.mapP r t)
theorem DenK.snoc {k : Key} {v : V} {d : Dt} (r : Den K l0 F v d) : ∀ {xs : List (Key × V)} {kvs : List (Key × Dt)}, DenK K l0 F xs kvs → DenK K l0 F (xs ++ [(k, v)]) (kvs ++ [(k, d)])
  | _, _, .nil => .cons r .nil
  | _, _, .cons h t => .cons h (DenK.snoc r t)
theorem DenK.put {k : Key} {v : V} {d : Dt} (r : Den K l0 F v d) {xs : List (Key × V)} {kvs : List (Key × Dt)} (h : DenK K l0 F xs kvs) : DenK K l0 F (putK xs k v) (putKD kvs k d) := by
  unfold putK putKD
  rw [h.any k]
  split
  · exact h.mapP r
  · exact h.snoc r
theorem DenK.length : ∀ {xs : List (Key × V)} {kvs : List (Key × Dt)}, DenK K l0 F xs kvs → xs.length = kvs.length
  | _, _, .nil => rfl
  | _, _, .cons _ t => congrArg (· + 1) (DenK.length t)
end
def NoDS : Sl → Prop
  | .emp => True
  | .dat d => NoDct d
  | _ => False
theorem NoDS.own {s : Sl} (h : NoDS s) : s.isOwn = false := by
  cases s with
  | emp => rfl
  | dat d => rfl
  | own ds => exact h.elim
  | oob p C fs => exact h.elim
  | odc kvs => exact h.elim
  | tre t => exact h.elim
theorem NoDct.put {kvs : List (Key × Dt)} {k : Key} {d : Dt} (h : ∀ x ∈ kvs, NoDct x.2) (n : NoDct d) : ∀ x ∈ putKD kvs k d, NoDct x.2 := fun x m => by
  unfold putKD at m
  split at m
  · obtain ⟨y, my, rfl⟩ := List.mem_map.mp m
    split
    · exact n
    · exact h y my
  · rcases List.mem_append.mp m with m | m
    · exact h x m
    · rw [List.mem_singleton.mp m]
      exact n
def dSetK (i : Nat) (k : Str) (de : DE) : DS := fun D ρ => de ρ (fun s => ∃ d kvs, s = .dat d ∧ NoDct d ∧ ρ[i]? = some (.dat (.dct kvs)) ∧ (∀ x ∈ kvs, NoDct x.2) ∧ (∀ j t, j ≠ i → ρ[j]? = some t → NoDS t) ∧ kvs.length ≤ 1000 ∧ D.nx (ρ.set i (.dat (.dct (putKD kvs (.inr k) d))))) fun x => D.ex x ρ
section
variable {X : Cx} {W : WX} {pos : Pos}
theorem dsl_setK (i : Nat) {x k : Str} {p p2 pos' : Pos} {j : Nat} {e : Expr} {te : TE} {de : DE} (hu : X.A.units + 1 < cLine) (he : DEX X W e te de) (hN : X.N[i]? = some x := by rfl) (hv : Vis X.env.scope x := by first | exact Or.inl rfl | exact Or.inr (Or.inl rfl) | exact Or.inr (Or.inr rfl)) (hd : (x == ("__debug__" : Str)) = false := by decide)
    (hcd : (x == ("__classdict__" : Str)) = false := by decide) (hs : swapsWith e (some (.Subscript (.Name x p) (.Constant (.str k) j p2) pos')) pos.line X.env = pure false := by rfl) :
    DSL X W (.Assign [.Subscript (.Name x p) (.Constant (.str k) j p2) pos'] e pos) (sDPut (tVar i) (tC (.str k)) te) (dSetK i k de) := by
  refine ⟨ps_dput hu (pe_var hN hv hd hcd) pe_str he.1 hs, fun D ρ h l0 F H σ S C L => ?_⟩
  refine he.2 ρ _ _ h l0 F H σ S _ (fun v s F1 H1 g1 r1 q1 => ?_) (L.lnk.kx S)
  obtain ⟨d, kvs, e0, nd, hi, ni, no, hl, q⟩ := q1
  subst e0
  have S1 := S.go g1
  rcases S1.sl i _ hi with z | ⟨y, hσ, ry⟩
  · cases z
  have ry : Den X.K l0 F1 y (.dct kvs) := ry
  have r1 : Den X.K l0 F1 v d := r1
  cases ry with
  | dct hF rk =>
    rename_i a xs
    have hH := g1.bs.sub _ _ hF
    have ne : a ≠ l0 := fun z => by rw [z, g1.bs.nf] at hF; cases hF
    refine ⟨_, hσ, a, _, rfl, DPut.k (k := .inr k) hH (by rw [rk.length]; exact Nat.lt_of_le_of_lt hl (by decide)), ?_⟩
    let F2 := upd F1 a (.dK (putK xs (.inr k) v))
    have m : ∀ b o, F1 b = some o → (∀ ys, o ≠ .dK ys) → F2 b = some o := fun b o e n => by
      have nb : b ≠ a := fun z => by
        rw [z, hF] at e
        cases e
        exact n xs rfl
      show upd F1 a _ b = _
      rw [upd_ne nb]
      exact e
    have bs : Base l0 F2 (upd H1 a (.dK (putK xs (.inr k) v))) := by
      refine ⟨fun b o e => ?_, ?_, ?_⟩
      · have e : upd F1 a (.dK (putK xs (.inr k) v)) b = some o := e
        by_cases c : b = a
        · subst c
          rw [upd_same] at e ⊢
          exact e
        · rw [upd_ne c] at e ⊢
          exact g1.bs.sub b o e
      · show upd F1 a _ l0 = none
        rw [upd_ne ne.symm]
        exact g1.bs.nf
      · obtain ⟨ns, h1, h2⟩ := g1.bs.dr
        exact ⟨ns, by rw [upd_ne ne.symm]; exact h1, h2⟩
    have rk2 : DenK X.K l0 F2 (putK xs (.inr k) v) (putKD kvs (.inr k) d) := DenK.mv m (NoDct.put ni nd) (rk.put (k := .inr k) r1)
    have none_own : ∀ (j : Nat) (s : Sl), (ρ.set i (.dat (.dct (putKD kvs (.inr k) d))))[j]? = some s → s.isOwn = true → False := fun j s h o => by
      by_cases c : i = j
      · subst c
        rw [List.getElem?_set_self (List.getElem?_eq_some_iff.mp hi).1] at h
        cases h
        cases o
      · rw [List.getElem?_set_ne c] at h
        rw [(no j s (fun z => c z.symm) h).own] at o
        cases o
    refine L.nx l0 F2 _ σ _ ⟨bs, by rw [List.length_set]; exact S1.len, fun j s h => ?_, fun j k' s t b h1 h2 o1 _ => (none_own j s h1 o1.1).elim⟩ q
    by_cases c : i = j
    · subst c
      rw [List.getElem?_set_self (List.getElem?_eq_some_iff.mp hi).1] at h
      cases h
      exact .inr ⟨_, hσ, Den.dct (show F2 a = _ from upd_same) rk2⟩
    · rw [List.getElem?_set_ne c] at h
      have n := no j s (fun z => c z.symm) h
      rcases S1.sl j s h with z | ⟨w, e1, r⟩
      · exact .inl z
      · refine .inr ⟨w, e1, ?_⟩
        cases s with
        | emp => exact r
        | dat dd => exact Den.mv m (show NoDct dd from n) r
        | own ds => exact n.elim
        | oob p C fs => exact n.elim
        | odc kvs => exact n.elim
        | tre t => exact n.elim
end
theorem fn_lawL {P : Program} {w : World} {K : PySem.W.Frag} {mg : Str → Option Value} {base : Heap} {st : Stmt} {N : List Str} {k : Nat} {ds : DS} {f : Addr} {fd : FuncData}
    (F : FunD K "law" "law" (defArgs st) (defBody st) (defScope st) [] [] f fd) (S : FnScope N ["_law_script"] (defScope st)) (hN : 2 ≤ N.length)
    (hb : ∀ (cdv : Value) (A : Around) (outer : List Env) (s : Shared) (H : Hp) (E : XK), Room k (A.deeper (envOfC "law" (defScope st) s.heap.objs.size f cdv)) →
      ∃ ts, PSs (cxOf (L2.CX P w) P w K mg base N "law" (defScope st) f cdv A outer s H E) (defBody st) (tSeq (tAsg (tCallSD (spDraws K) [] (WE fun cls d _ H => E cls d H) (tCons (tVar 0) tNil)) (gName 1)) ts) ∧ SndL K (fun cls d _ H => E cls d H) ts ds)
    (hp : ∀ ns : List Int, ns.length ≤ 63 → ds (dEnds isTrue fun _ => False) (lawEn N.length ns)) : FnOk P w K mg base (L2.CX P w) (k + 1) f fd ["_law_script"] (spLaw K) := by
  refine F.ok S (fun vs H Q E h => ?_) fun cdv A outer s H vs Q E hr h => ?_
  · obtain ⟨a, ns, rfl, _⟩ := h
    rfl
  · obtain ⟨a, ns, rfl, hS, hl, hq⟩ := h
    obtain ⟨ts, p, sd⟩ := hb cdv A outer s H E hr
    refine ⟨_, p, ?_⟩
    have e0 : (start N [V.ref a])[0]? = some (some (.ref a)) := rfl
    refine ⟨.ref a, e0, a, ns, rfl, hS, fun l ms H' h1 h2 h3 h4 h5 => ?_⟩
    have bs : Base l H H' := ⟨h2, h1, ms, h3, h4, h5⟩
    have dn : Dens K l H [.ref a] [.lst (ns.map Dt.int)] := .cons (.lst hS (Dens.ofInts ns)) .nil
    have S0 := (Stt.start (N := N) bs dn).put (v := .ref l) 1 (d := .drw) .drw
    refine sd _ _ (hp ns hl) l H H' _ S0 _ ⟨fun l0 F' H' σ' ρ' S' q => ?_, fun l0 F' H' v d r q => ?_, fun l0 F' H' σ' ρ' S' q => q.elim, fun l0 F' H' σ' ρ' S' q => q.elim, fun cls d x l0 F' H' σ' ρ' S' r q => q.elim, fun l0 F' H' σ' ρ' v d S' r q => q.elim⟩
    · cases q
    · have q : d = .v (.bl true) := q
      subst q
      cases r
      exact hq H'
end DW

set_option Elab.async false
set_option linter.all false
set_option maxRecDepth 100000
set_option maxHeartbeats 2000000
namespace DW
open PySem PySem.Spec PySem.Froz PyProof.Rows L2 PpSet
def txtOf (v : Value) : Str := match v with | .str x _ => x | _ => Str.empty
def WlkD (w : World) (D : SD) : Prop := Ris D.2.2.place.toList ∧ (w.params.followText "set-order" = true ∨ D.2.2.led = true)
structure SetT (P : Program) (w : World) (h : Heap) (a : Addr) (l : List Str) : Prop where
  ok : ∃ D, h.get? a = some (sObj "set" D) ∧ TxOk P w D l ∧ WlkD w D ∧ List.Perm (D.1.toList.map fun e => txtOf e.2) l ∧ l.Nodup
section
variable {P : Program} {w : World} {A : Around} {E : Value → Shared → Prop} {s : Shared} {a : Addr} {l : List Str}
theorem SetT.at {h h' : Heap} (R : SetT P w h a l) (k : ∀ o, h.get? a = some o → h'.get? a = some o) : SetT P w h' a l := by
  obtain ⟨D, ho, r⟩ := R
  exact ⟨D, k _ ho, r⟩
theorem SetT.live {h : Heap} (R : SetT P w h a l) : ∃ o, h.get? a = some o := by
  obtain ⟨D, ho, r⟩ := R
  exact ⟨_, ho⟩
end
end DW

set_option Elab.async false
set_option linter.all false
set_option maxRecDepth 100000
namespace DW
open PySem PySem.Spec PyProof.Rows L2
end DW

set_option Elab.async false
set_option linter.all false
set_option maxRecDepth 100000
namespace DW
open PySem PySem.Spec PyProof.Rows L2 StX
end DW

set_option Elab.async false
set_option linter.all false
set_option maxRecDepth 100000
namespace DW
open PySem PySem.Spec PyProof.Rows L2
def PrTb (P : Program) (w : World) (K : PySem.W.Frag) (mg : Str → Option Value) (base : Heap) (k : Nat) (f : Str) (tbl : List (Addr × Sd)) : Prop := ∀ r ∈ tbl, PrOb P w K mg base k f r.1 r.2
theorem PrTb.mono {P : Program} {w : World} {K : PySem.W.Frag} {mg : Str → Option Value} {base : Heap} {j k : Nat} {f : Str} {tbl : List (Addr × Sd)} (M : PrTb P w K mg base j f tbl) (h : j ≤ k) : PrTb P w K mg base k f tbl := fun r m => (M r m).mono h
end DW

set_option Elab.async false
set_option linter.all false
set_option maxRecDepth 100000
namespace DW
open PySem PySem.Spec PyProof.Rows L2
theorem DenK.keys {K : PySem.W.Frag} {l0 : Addr} {F : Hp} : ∀ {xs : List (Key × V)} {kvs : List (Key × Dt)}, DenK K l0 F xs kvs → xs.map (·.1) = kvs.map (·.1)
  | _, _, .nil => rfl
  | _, _, .cons _ t => by
    rw [List.map_cons, List.map_cons, DenK.keys t]
theorem DenK.flat {K : PySem.W.Frag} {l0 : Addr} {F : Hp} : ∀ {xs : List (Key × V)} {kvs : List (Key × Dt)}, DenK K l0 F xs kvs → (∀ p ∈ kvs, ∃ i : Int, p.2 = .v (.int i)) → ∀ q ∈ xs, ∃ i : Int, q.2 = .int i
  | _, _, .nil, _ => fun q h => nomatch h
  | _, _, .cons h t, g => fun q m => by
    rcases List.mem_cons.mp m with e | m
    · subst e
      obtain ⟨i, e⟩ := g _ (.head _)
      cases e
      cases h
      exact ⟨i, rfl⟩
    · exact DenK.flat t (fun p hp => g p (.tail _ hp)) q m
theorem DenK.same {K : PySem.W.Frag} {l0 : Addr} {F : Hp} : ∀ {xs ys : List (Key × V)} {kvs : List (Key × Dt)}, DenK K l0 F xs kvs → DenK K l0 F ys kvs → (∀ p ∈ kvs, ∃ i : Int, p.2 = .v (.int i)) → xs = ys
  | _, _, _, .nil, .nil, _ => rfl
  | _, _, _, .cons h t, .cons h2 t2, g => by
    obtain ⟨i, e⟩ := g _ (.head _)
    cases e
    cases h
    cases h2
    rw [DenK.same t t2 fun p hp => g p (.tail _ hp)]
end DW
namespace DW
open PySem PySem.W
open PySem.Sem (wp)
end DW
namespace DW
open PySem PySem.Spec PyProof.Rows L2
section
variable {K : PySem.W.Frag} {W : WX} {l0 : Addr} {F H F' H' : Hp} {σ : L2.St} {ρ : En}
theorem GoI.refl {x : Addr} (b : Base l0 F H) : GoI l0 x F H F H := ⟨b, fun _ _ h => h, fun _ h1 h2 => absurd h1 h2, fun _ _ _ _ h => h⟩
theorem GoI.trans {x : Addr} {F1 H1 F2 H2 : Hp} {o : HO} (hx : F1 x = none) (g : GoI l0 x F H F1 H1) (k : Go l0 F1 H1 F2 H2) : GoI l0 x F H F2 H2 where
  bs := k.bs
  ex := fun a o h => k.ex a o (g.ex a o h)
  new := fun a h1 h2 => by
    by_cases q : F1 a = none
    · have z := k.new a q h2
      cases e : H a with
      | none => exact .inl rfl
      | some o =>
        by_cases w : a = l0
        · subst w
          exact absurd z g.bs.live
        · by_cases w2 : a = x
          · exact .inr w2
          · rw [g.keep a o w w2 e] at z
            cases z
    · exact g.new a h1 q
  keep := fun a o n1 n2 h => k.keep a o n1 (g.keep a o n1 n2 h)
theorem GoI.mod {x : Addr} {o : HO} (g : GoI l0 x F H F' H') (hF : F' x = none) (n0 : x ≠ l0) : GoI l0 x F H F' (upd H' x o) := by
  refine ⟨⟨fun a u e => ?_, g.bs.nf, ?_⟩, g.ex, g.new, fun a u n1 n2 e => ?_⟩
  · rw [upd_ne (ne_of_none e hF)]
    exact g.bs.sub a u e
  · obtain ⟨ns, h1, h2⟩ := g.bs.dr
    exact ⟨ns, by rw [upd_ne n0.symm]; exact h1, h2⟩
  · rw [upd_ne n2]
    exact g.keep a u n1 n2 e
end
end DW

set_option Elab.async false
set_option linter.all false
set_option maxRecDepth 100000
namespace DW
theorem gdN {i : Nat} {d : Dt} {ρ : En} {R : En → Prop} (h : R (ρ.set i (.dat d))) : gdName i (.dat d) ρ R := h
theorem nxN {K : En → Prop} {rt : Dt → Prop} {bk ct : En → Prop} {ex : Xn → En → Prop} {rs : Dt → En → Prop} {ρ : En} (h : K ρ) : DEnds.nx { nx := K, rt := rt, bk := bk, ct := ct, ex := ex, rs := rs } ρ := h
theorem if_cut {c : DTt} {t1 t2 u : DS} {D : DEnds} {ρ : En} (P : En → Prop) (h1 : ∀ K : En → Prop, (∀ ρ', P ρ' → K ρ') → dIfS c t1 t2 { D with nx := K } ρ) (h2 : ∀ ρ', P ρ' → u D ρ') : dSeq (dIfS c t1 t2) u D ρ := h1 _ h2
theorem sq_cut {t u : DS} {D : DEnds} {ρ : En} (P : En → Prop) (h1 : ∀ K : En → Prop, (∀ ρ', P ρ' → K ρ') → t { D with nx := K } ρ) (h2 : ∀ ρ', P ρ' → u D ρ') : dSeq t u D ρ := h1 _ h2
end DW

set_option Elab.async false
set_option linter.all false
set_option maxRecDepth 100000
namespace DW
open PySem PySem.Spec PyProof.Rows L2 StX
section
variable {K : PySem.W.Frag} {l0 : Addr} {F H F' H' : Hp} {σ : L2.St} {ρ : En} {s s' : Sl} {i : Nat} {l p : Addr} {o : HO} {v : V}
mutual
theorem TreV.hold : ∀ {v : V} {t : OT}, TreV K l0 F H v t → ∀ x ∈ t.ads, ∀ a, H x = some (.own a) → a ∈ t.ads
  | _, _, .dat _, x, m, _, _ => nomatch m
  | _, _, .lst h1 h2 h3 r, x, m, a, e => by
    rcases List.mem_cons.mp m with rfl | m
    · rw [h3] at e; cases e
    · exact List.mem_cons_of_mem _ (TreVs.hold r x m a e)
  | _, _, .ins h1 h2 h3 k1 k2 k3 r, x, m, a, e => by
    rcases List.mem_cons.mp m with rfl | m
    · rw [h3] at e; cases e
    · rcases List.mem_cons.mp m with rfl | m
      · rw [k3] at e; cases e; exact List.mem_cons_self
      · exact List.mem_cons_of_mem _ (List.mem_cons_of_mem _ (TreVf.hold r x m a e))
  | _, _, .dct h1 h2 h3 r, x, m, a, e => by
    rcases List.mem_cons.mp m with rfl | m
    · rw [h3] at e; cases e
    · exact List.mem_cons_of_mem _ (TreVk.hold r x m a e)
theorem TreVs.hold : ∀ {v : List V} {t : List OT}, TreVs K l0 F H v t → ∀ x ∈ adsL t, ∀ a, H x = some (.own a) → a ∈ adsL t
  | _, _, .nil, x, m, _, _ => nomatch m
  | _, _, .cons h r, x, m, a, e => (List.mem_append.mp m).elim (fun m => List.mem_append_left _ (TreV.hold h x m a e)) fun m => List.mem_append_right _ (TreVs.hold r x m a e)
theorem TreVf.hold : ∀ {v : List (Str × V)} {t : List (Str × OT)}, TreVf K l0 F H v t → ∀ x ∈ adsF t, ∀ a, H x = some (.own a) → a ∈ adsF t
  | _, _, .nil, x, m, _, _ => nomatch m
  | _, _, .cons h r, x, m, a, e => (List.mem_append.mp m).elim (fun m => List.mem_append_left _ (TreV.hold h x m a e)) fun m => List.mem_append_right _ (TreVf.hold r x m a e)
theorem TreVk.hold : ∀ {v : List NEnt} {t : List (Dt × OT)}, TreVk K l0 F H v t → ∀ x ∈ adsK t, ∀ a, H x = some (.own a) → a ∈ adsK t
  | _, _, .nil, x, m, _, _ => nomatch m
  | _, _, .cons _ _ h r, x, m, a, e => (List.mem_append.mp m).elim (fun m => List.mem_append_left _ (TreV.hold h x m a e)) fun m => List.mem_append_right _ (TreVk.hold r x m a e)
end
theorem SlV.hold {x a : Addr} (h : SlV K l0 F H v s) (w : s.owns (some (some v)) x) (e : H x = some (.own a)) : s.owns (some (some v)) a := by
  obtain ⟨o, w⟩ := w
  cases s with
  | emp => cases o
  | dat d => cases o
  | own ds =>
    obtain ⟨l, xs, e', h1, h2, h3, _⟩ := h
    rcases w with w | w
    · subst e'; cases w; rw [h3] at e; cases e
    · exact nomatch w
  | oob p0 C fs =>
    obtain ⟨l, dx, gs, e', h1, h2, h3, _⟩ := h
    rcases w with w | w
    · subst e'; cases w; rw [h3] at e; cases e
    · exact nomatch w
  | odc kvs =>
    obtain ⟨l, xs, e', h1, h2, h3, _⟩ := h
    rcases w with w | w
    · subst e'; cases w; rw [h3] at e; cases e
    · exact nomatch w
  | tre t =>
    obtain ⟨r, _, n⟩ := h
    refine ⟨rfl, .inr ?_⟩
    rcases w with w | w
    · obtain ⟨b, e', m⟩ := r.root n
      subst e'; cases w
      exact r.hold _ m a e
    · exact r.hold x w a e
theorem SlV.far {A : Addr → Prop} (h : SlV K l0 F H v s) (ex : Same F F') (new : ∀ a, F a = none → F' a ≠ none → H a = none ∨ A a) (keep : ∀ a u, a ≠ l0 → ¬ A a → H a = some u → H' a = some u)
    (no : ∀ a, s.owns (some (some v)) a → ¬ A a) (hd : ∀ x a, A x → H x = some (.own a) → A a) : SlV K l0 F' H' v s := by
  have stay : ∀ {l : Addr} {o : HO}, F l = none → H l = some o → ¬ A l → F' l = none := fun {l o} h1 h2 h3 => by
    cases e : F' l with
    | none => rfl
    | some u =>
      rcases new l h1 (by rw [e]; exact fun z => nomatch z) with z | z
      · rw [h2] at z
        cases z
      · exact absurd z h3
  cases s with
  | emp => exact h
  | dat d => exact Den.mono ex h
  | own ds =>
    obtain ⟨l', xs, e, a1, a2, a3, a4⟩ := h
    have ne : ¬ A l' := no l' ⟨rfl, .inl (by rw [e])⟩
    exact ⟨l', xs, e, stay a1 a3 ne, a2, keep _ _ a2 ne a3, Dens.mono ex a4⟩
  | oob p0 C fs =>
    obtain ⟨l', dx, gs, e, a1, a2, a3, a4, e1, e2, a5, a6, a7⟩ := h
    have ne : ¬ A l' := no l' ⟨rfl, .inl (by rw [e])⟩
    have nd : ¬ A dx := fun z => ne (hd dx l' z a7)
    exact ⟨l', dx, gs, e, stay a1 a3 ne, a2, keep _ _ a2 ne a3, DenF.mono ex a4, e1, e2, stay a5 a7 nd, a6, keep _ _ a6 nd a7⟩
  | odc kvs =>
    obtain ⟨l', xs, e, a1, a2, a3, a4⟩ := h
    have ne : ¬ A l' := no l' ⟨rfl, .inl (by rw [e])⟩
    exact ⟨l', xs, e, stay a1 a3 ne, a2, keep _ _ a2 ne a3, DenK.mono ex a4⟩
  | tre t =>
    obtain ⟨r, nd, n⟩ := h
    have ne : ∀ a ∈ t.ads, ¬ A a := fun a m => no a ⟨rfl, .inr m⟩
    exact ⟨r.frm ex (fun a m => by obtain ⟨h1, _, o, h3⟩ := r.liv a m; exact stay h1 h3 (ne a m)) fun a m o e => keep a o (r.liv a m).2.1 (ne a m) e, nd, n⟩
theorem owns_root {a : Addr} (hi : s.inn = []) (w : s.owns (some (some (.ref p))) a) : a = p := by
  rcases w.2 with z | z
  · cases z
    rfl
  · rw [hi] at z
    cases z
theorem Base.updO (b : Base l0 F H) (hF : F l = none) (n0 : l ≠ l0) : Base l0 F (upd H l o) := by
  refine ⟨fun a u e => ?_, b.nf, ?_⟩
  · rw [upd_ne (ne_of_none e hF)]
    exact b.sub a u e
  · obtain ⟨ns, h1, h2⟩ := b.dr
    exact ⟨ns, by rw [upd_ne n0.symm]; exact h1, h2⟩
theorem Stt.mutT (S : Stt K l0 F H σ ρ) (hρ : ρ[i]? = some s) (hσ : σ[i]? = some (some v)) (b : Base l0 F' H') (ex : Same F F')
    (new : ∀ a, F a = none → F' a ≠ none → H a = none ∨ s.owns (some (some v)) a) (keep : ∀ a u, a ≠ l0 → ¬ s.owns (some (some v)) a → H a = some u → H' a = some u)
    (sv : SlV K l0 F' H' v s') (nw : ∀ a, s'.owns (some (some v)) a → s.owns (some (some v)) a ∨ H a = none) :
    Stt K l0 F' H' σ (ρ.set i s') ∧ GoS l0 F H σ ρ F' H' ∧ OwS H σ ρ σ (ρ.set i s') := by
  have own : ∀ {a : Addr}, s.owns (some (some v)) a → Ow σ ρ a := fun {a} w => ⟨i, s, hρ, by rw [hσ]; exact w⟩
  have hd : ∀ x a, s.owns (some (some v)) x → H x = some (.own a) → s.owns (some (some v)) a := fun x a w e => by
    rcases S.sl i s hρ with z | ⟨u, h1, h2⟩
    · subst z
      cases w.1
    · rw [hσ] at h1
      cases h1
      exact h2.hold w e
  have one : ∀ {j : Nat} {t : Sl} {a : Addr}, (ρ.set i s')[j]? = some t → t.owns σ[j]? a → (i = j ∧ s'.owns (some (some v)) a) ∨ (i ≠ j ∧ ρ[j]? = some t ∧ t.owns σ[j]? a) := fun {j t a} h w => by
    by_cases q : i = j
    · subst q
      rw [List.getElem?_set_self (lt_of_get hρ)] at h
      cases h
      rw [hσ] at w
      exact .inl ⟨rfl, w⟩
    · rw [List.getElem?_set_ne q] at h
      exact .inr ⟨q, h, w⟩
  have not2 : ∀ {j : Nat} {t : Sl} {a : Addr}, i ≠ j → ρ[j]? = some t → t.owns σ[j]? a → s'.owns (some (some v)) a → False := fun {j t a} q h w w' => by
    rcases nw a w' with z | z
    · exact q (S.ap2 i j s t a hρ h (by rw [hσ]; exact z) w)
    · obtain ⟨_, _, u, hu⟩ := S.ownL h w
      rw [z] at hu
      cases hu
  refine ⟨⟨b, by rw [List.length_set]; exact S.len, fun j t h => ?_, fun j k t u a h1 h2 w1 w2 => ?_⟩, ⟨b, ex, fun a h1 h2 => (new a h1 h2).imp id own, fun a u n0 h e => keep a u n0 (fun z => h (own z)) e⟩, fun a ⟨j, t, h1, h2⟩ => ?_⟩
  · by_cases q : i = j
    · subst q
      rw [List.getElem?_set_self (lt_of_get hρ)] at h
      cases h
      exact .inr ⟨v, hσ, sv⟩
    · rw [List.getElem?_set_ne q] at h
      rcases S.sl j t h with z | ⟨x, h1, h2⟩
      · exact .inl z
      · exact .inr ⟨x, h1, h2.far ex new keep (fun a w z => q (S.ap2 i j s t a hρ h (by rw [hσ]; exact z) (by rw [h1]; exact w))) hd⟩
  · rcases one h1 w1 with ⟨e1, y1⟩ | ⟨e1, z1, y1⟩
    · rcases one h2 w2 with ⟨e2, y2⟩ | ⟨e2, z2, y2⟩
      · exact e1.symm.trans e2
      · exact (not2 e2 z2 y2 y1).elim
    · rcases one h2 w2 with ⟨e2, y2⟩ | ⟨e2, z2, y2⟩
      · exact (not2 e1 z1 y1 y2).elim
      · exact S.ap2 j k t u a z1 z2 y1 y2
  · rcases one h1 h2 with ⟨e1, y1⟩ | ⟨e1, z1, y1⟩
    · exact (nw a y1).imp own id
    · exact .inl ⟨j, t, z1, y1⟩
theorem Stt.mutO (S : Stt K l0 F H σ ρ) (hρ : ρ[i]? = some s) (hs : s.isOwn = true) (hσ : σ[i]? = some (some (.ref l))) (sv : SlV K l0 F (upd H l o) (.ref l) s') (hi : s'.inn = [] := by rfl) :
    Stt K l0 F (upd H l o) σ (ρ.set i s') ∧ GoS l0 F H σ ρ F (upd H l o) ∧ OwS H σ ρ σ (ρ.set i s') := by
  have wl : s.owns (some (some (.ref l))) l := ⟨hs, .inl rfl⟩
  obtain ⟨hF, n0, nl⟩ := S.ownL hρ (by rw [hσ]; exact wl)
  exact S.mutT hρ hσ (S.bs.updO (o := o) hF n0) (fun _ _ h => h) (fun a h1 h2 => absurd h1 h2) (fun a u _ h e => by rw [upd_ne (fun z => h (by rw [z]; exact wl))]; exact e) sv fun a w => .inl (by rw [owns_root hi w]; exact wl)
theorem Stt.frzO {d : Dt} (S : Stt K l0 F H σ ρ) (hρ : ρ[i]? = some s) (hs : s.isOwn = true) (hσ : σ[i]? = some (some (.ref l))) (hl : H l = some o) (r : Den K l0 (upd F l o) (.ref l) d) :
    Stt K l0 (upd F l o) H σ (ρ.set i (.dat d)) ∧ GoS l0 F H σ ρ (upd F l o) H ∧ OwS H σ ρ σ (ρ.set i (.dat d)) := by
  have wl : s.owns (some (some (.ref l))) l := ⟨hs, .inl rfl⟩
  obtain ⟨hF, n0, nl⟩ := S.ownL hρ (by rw [hσ]; exact wl)
  have ex : Same F (upd F l o) := fun a w e => by
    rw [upd_ne (ne_of_none e hF)]
    exact e
  have bs : Base l0 (upd F l o) H := by
    refine ⟨fun a u e => ?_, by rw [upd_ne n0.symm]; exact S.bs.nf, S.bs.dr⟩
    by_cases q : a = l
    · subst q
      rw [upd_same] at e
      cases e
      exact hl
    · rw [upd_ne q] at e
      exact S.bs.sub a u e
  refine S.mutT hρ hσ bs ex (fun a h1 h2 => ?_) (fun a u _ _ e => e) r fun a w => nomatch w.1
  by_cases q : a = l
  · subst q
    exact .inr wl
  · rw [upd_ne q] at h2
    exact absurd h1 h2
end
def dOdSet (i : Nat) (dk dv : DE) : DS := fun D ρ => dv ρ (datS fun d => ∃ kvs : List (Key × Dt), ρ[i]? = some (.odc kvs) ∧ kvs.length ≤ 100000 ∧ dk ρ (fun t => ∃ x : Str, t = .dat (.v (.str x)) ∧ D.nx (ρ.set i (.odc (putKD kvs (.inr x) d)))) fun x => D.ex x ρ) fun x => D.ex x ρ
def dOdKey (i : Nat) (dk : DE) : DE := fun ρ Q E => ∃ kvs : List (Key × Dt), ρ[i]? = some (.odc kvs) ∧ dk ρ (fun t => ∃ (x : Str) (d : Dt), t = .dat (.v (.str x)) ∧ atS kvs x = some d ∧ Q (.dat d)) E
def dFrzD (i : Nat) (t : DS) : DS := fun D ρ => match ρ.getD i .emp with
  | .odc kvs => t D (ρ.set i (.dat (.dct kvs)))
  | _ => False
theorem getD_odc {ρ : En} {i : Nat} {kvs : List (Key × Dt)} (e : ρ.getD i .emp = .odc kvs) : ρ[i]? = some (.odc kvs) := by
  rw [List.getD_eq_getElem?_getD] at e
  cases h : ρ[i]? with
  | none => rw [h] at e; cases e
  | some s => rw [h] at e; exact congrArg some e
section
variable {K : PySem.W.Frag} {l0 : Addr} {F H : Hp} {σ : L2.St} {ρ : En} {X : Cx} {W : WX} {i : Nat} {e ke : Expr} {xe tk : TE} {de dk dv : DE} {pos : Pos}
theorem Stt.odc {kvs : List (Key × Dt)} (S : Stt K l0 F H σ ρ) (h : ρ[i]? = some (.odc kvs)) : ∃ l xs, σ[i]? = some (some (.ref l)) ∧ F l = none ∧ l ≠ l0 ∧ H l = some (.dK xs) ∧ DenK K l0 F xs kvs := by
  rcases S.sl i _ h with z | ⟨v, h1, l, xs, e, h2, h3, h4, h5⟩
  · cases z
  · subst e
    exact ⟨l, xs, h1, h2, h3, h4, h5⟩
theorem ds_odSet (i : Nat) {x : Str} {p pos' : Pos} {ve : Expr} {tv : TE} (hu : X.A.units + 64 < cLine) (hk : DEX X W ke tk dk) (hv : DEX X W ve tv dv) (hN : X.N[i]? = some x := by rfl) (hvis : Vis X.env.scope x := by first | exact Or.inl rfl | exact Or.inr (Or.inl rfl) | exact Or.inr (Or.inr rfl)) (hd : (x == ("__debug__" : Str)) = false := by decide)
    (hcd : (x == ("__classdict__" : Str)) = false := by decide) (hs : swapsWith ve (some (.Subscript (.Name x p) ke pos')) pos.line X.env = pure false := by rfl) :
    DSX X W (.Assign [.Subscript (.Name x p) ke pos'] ve pos) (sDPut (tVar i) tk tv) (dOdSet i dk dv) := by
  refine ⟨ps_dput (Nat.lt_of_le_of_lt (Nat.add_le_add_left (by decide) _) hu) (pe_var hN hvis hd hcd) hk.1 hv.1 hs, fun D ρ h l0 F H σ S C L => ?_⟩
  refine hv.2 ρ _ _ h l0 F H σ S _ (fun v s F1 H1 g1 r1 q1 => ?_) (L.kx S)
  obtain ⟨d, e0, q2⟩ := datS_of q1
  subst e0
  have S1 := S.go g1
  have L1 := L.trans S.bs (.of g1) .refl
  obtain ⟨kvs, hρ, hl, q3⟩ := q2
  obtain ⟨l, xs, hσ, hF, n0, hH, rk⟩ := S1.odc hρ
  refine ⟨.ref l, hσ, ?_⟩
  refine hk.2 ρ _ _ q3 l0 F1 H1 σ S1 _ (fun y t F2 H2 g2 r2 q4 => ?_) (L1.kx S1)
  obtain ⟨x0, e2, q5⟩ := q4
  subst e2
  have e0 : y = .str x0 := by
    cases (show Den X.K l0 F2 y (.v (.str x0)) from r2)
    rfl
  subst e0
  have S2 := S1.go g2
  have L2 := L1.trans S1.bs (.of g2) .refl
  have hH2 := g2.keep _ _ n0 hH
  refine ⟨l, _, rfl, DPut.k (k := .inr x0) hH2 (by rw [rk.length]; exact Nat.lt_of_le_of_lt hl (by decide)), ?_⟩
  obtain ⟨S3, g3, w3⟩ := S2.mutO (o := .dK (putK xs (.inr x0) v)) (s' := .odc (putKD kvs (.inr x0) d)) hρ rfl hσ ⟨l, _, rfl, g2.stays hF hH, n0, upd_same, DenK.put (k := .inr x0) (Den.mono g2.ex r1) (DenK.mono g2.ex rk)⟩
  exact L2.nx _ _ _ _ g3 w3 S3 q5
theorem de_odKey (i : Nat) {x : Str} {p : Pos} (hu : X.A.units + 64 < cLine) (hk : DEX X W ke tk dk) (hN : X.N[i]? = some x := by rfl) (hvis : Vis X.env.scope x := by first | exact Or.inl rfl | exact Or.inr (Or.inl rfl) | exact Or.inr (Or.inr rfl)) (hd : (x == ("__debug__" : Str)) = false := by decide)
    (hcd : (x == ("__classdict__" : Str)) = false := by decide) (hs : NoSl ke := by exact fun _ _ => rfl) : DEX X W (.Subscript (.Name x p) ke pos) (tDGet (tVar i) tk) (dOdKey i dk) := by
  refine ⟨pe_dget (Nat.lt_of_le_of_lt (Nat.add_le_add_left (by decide) _) hu) (pe_var hN hvis hd hcd) hk.1 hs, fun ρ Q E q l0 F H σ S Qc kk kx => ?_⟩
  obtain ⟨kvs, hρ, q1⟩ := q
  obtain ⟨l, xs, hσ, hF, n0, hH, rk⟩ := S.odc hρ
  refine ⟨.ref l, hσ, ?_⟩
  refine hk.2 ρ _ E q1 l0 F H σ S _ (fun y t F2 H2 g2 r2 q2 => ?_) kx
  obtain ⟨x0, d, e2, e3, q3⟩ := q2
  subst e2
  have e0 : y = .str x0 := by
    cases (show Den X.K l0 F2 y (.v (.str x0)) from r2)
    rfl
  subst e0
  obtain ⟨v, e4, r4⟩ := (DenK.mono g2.ex rk).at e3
  exact ⟨_, v, rfl, by rw [← e4]; exact DGet.k (k := .inr x0) (g2.keep _ _ n0 hH), kk v (.dat d) _ _ g2 r4 q3⟩
end
section
variable {X : Cx} {W : WX} {rest : List Stmt} {va : TS} {t : DS}
theorem dss_frzD (i : Nat) (h : DSSX X W rest va t) : DSSX X W rest va (dFrzD i t) := by
  obtain ⟨p1, s1⟩ := h
  refine ⟨p1, fun D ρ h l0 F H σ S C L => ?_⟩
  unfold dFrzD at h
  split at h
  · rename_i kvs e
    have e1 := getD_odc e
    obtain ⟨l, xs, hσ, hF, n0, hH, rk⟩ := S.odc e1
    obtain ⟨S', g, w⟩ := S.frzO (d := .dct kvs) e1 rfl hσ hH (Den.dct upd_same (DenK.mono (fun a o e => by rw [upd_ne (ne_of_none e hF)]; exact e) rk))
    exact s1 D _ h l0 _ H σ S' C (L.trans S.bs g w)
  · exact h.elim
end
end DW

set_option Elab.async false
set_option linter.all false
set_option maxRecDepth 100000
namespace DW
open PySem PySem.Spec PyProof.Rows L2
end DW

set_option Elab.async false
set_option linter.all false
set_option maxRecDepth 100000
namespace PySem.W
open Lean Elab Tactic Meta PySem PySem.Calls PyProof.Rows
end PySem.W
namespace DW
open PySem PySem.Spec PyProof.Rows L2 StX SlX
structure OpTb (P : Program) (w : World) (K : PySem.W.Frag) (mg : Str → Option Value) (base : Heap) (k : Nat) (m r : Str) (tbl : List (Addr × Sd)) : Prop where
  row : ∀ t ∈ tbl, OpM P w K mg base k m t.1 t.2 ∧ ∃ rc, PySem.W.findIn K (.ref t.1) r = some rc ∧ (rc = none ∨ ∃ g : Addr, rc = some (.ref g))
  sub : ∀ t ∈ tbl, ∀ u ∈ tbl, t.1 ≠ u.1 → PySem.W.subIn K (.ref u.1) (.ref t.1) = some false
theorem OpTb.mono {P : Program} {w : World} {K : PySem.W.Frag} {mg : Str → Option Value} {base : Heap} {j k : Nat} {m r : Str} {tbl : List (Addr × Sd)} (M : OpTb P w K mg base j m r tbl) (h : j ≤ k) : OpTb P w K mg base k m r tbl := ⟨fun t ht => ⟨⟨(M.row t ht).1.1, (M.row t ht).1.2.mono h⟩, (M.row t ht).2⟩, M.sub⟩
section
variable {X : Cx} {W : WX} {k : Nat} {e1 e2 e : Expr} {pos : Pos}
end
end DW

set_option Elab.async false
set_option linter.all false
set_option maxRecDepth 100000
namespace DW
open PySem PySem.Spec PyProof.Rows L2 StX SlX
end DW

set_option Elab.async false
set_option linter.all false
set_option maxRecDepth 100000
namespace DW
open PySem PySem.Spec PyProof.Rows L2 StX SlX
inductive OKd where
  | l
  | i (C : Addr)
  | d
mutual
def OT.kinds : OT → List OKd
  | .dat _ => []
  | .lst _ xs => .l :: kindsL xs
  | .ins _ _ C fs => .i C :: kindsF fs
  | .dct _ _ kvs => .d :: kindsK kvs
def kindsL : List OT → List OKd
  | [] => []
  | t :: r => t.kinds ++ kindsL r
def kindsF : List (Str × OT) → List OKd
  | [] => []
  | (_, t) :: r => t.kinds ++ kindsF r
def kindsK : List (Dt × OT) → List OKd
  | [] => []
  | (_, t) :: r => t.kinds ++ kindsK r
end
def Sl.kinds : Sl → List OKd
  | .own _ => [.l]
  | .oob _ C _ => [.i C]
  | .odc _ => [.d]
  | .tre t => t.kinds
  | _ => []
def noL (ρ : En) : Prop := ∀ s ∈ ρ, OKd.l ∉ s.kinds
def noC (C : Addr) (ρ : En) : Prop := ∀ s ∈ ρ, OKd.i C ∉ s.kinds
def noI (ρ : En) : Prop := ∀ C, noC C ρ
def noD (ρ : En) : Prop := ∀ s ∈ ρ, OKd.d ∉ s.kinds
inductive CleanR (ρ : En) : Dt → Prop
  | v (x : V) : CleanR ρ (.v x)
  | tup {ds : List Dt} (h : ∀ d ∈ ds, CleanR ρ d) : CleanR ρ (.tup ds)
  | slt {C : Addr} {d : Dt} (h : CleanR ρ d) : CleanR ρ (.slt C d)
  | lst {ds : List Dt} (n : noL ρ) (h : ∀ d ∈ ds, CleanR ρ d) : CleanR ρ (.lst ds)
  | obj {C : Addr} {gs : List (Str × Dt)} (n : noI ρ) (h : ∀ f ∈ gs, CleanR ρ f.2) : CleanR ρ (.obj C gs)
  | objC {C : Addr} {gs : List (Str × Dt)} (n : noC C ρ) (h : ∀ f ∈ gs, CleanR ρ f.2) : CleanR ρ (.obj C gs)
  | dct {kvs : List (Key × Dt)} (n : noD ρ) (h : ∀ f ∈ kvs, CleanR ρ f.2) : CleanR ρ (.dct kvs)
theorem CleanR.lst_inv {ρ : En} {ds : List Dt} : CleanR ρ (.lst ds) → noL ρ ∧ ∀ d ∈ ds, CleanR ρ d
  | .lst n h => ⟨n, h⟩
theorem CleanR.obj_inv {ρ : En} {C : Addr} {gs : List (Str × Dt)} : CleanR ρ (.obj C gs) → noC C ρ ∧ ∀ f ∈ gs, CleanR ρ f.2
  | .obj n h => ⟨n C, h⟩
  | .objC n h => ⟨n, h⟩
theorem CleanR.dct_inv {ρ : En} {gs : List (Key × Dt)} : CleanR ρ (.dct gs) → noD ρ ∧ ∀ f ∈ gs, CleanR ρ f.2
  | .dct n h => ⟨n, h⟩
def KdOf : OKd → HO → Prop
  | .l, o => ∃ xs, o = .lst xs
  | .i C, o => (∃ dx fs, o = .ins C dx fs) ∨ ∃ a, o = .own a
  | .d, o => (∃ xs, o = .dK xs) ∨ ∃ w a ep es, o = .ext (rawN w a ep es)
def KdIn (ks : List OKd) (o : HO) : Prop := ∃ k ∈ ks, KdOf k o
theorem KdIn.mono {ks ls : List OKd} (h : ∀ k ∈ ks, k ∈ ls) {o : HO} : KdIn ks o → KdIn ls o := fun ⟨k, m, z⟩ => ⟨k, h k m, z⟩
section
variable {K : PySem.W.Frag} {l0 : Addr} {F H F' H' : Hp} {σ : L2.St} {ρ : En}
mutual
theorem TreV.kd : ∀ {v : V} {t : OT}, TreV K l0 F H v t → ∀ a ∈ t.ads, ∃ o, H a = some o ∧ KdIn t.kinds o
  | _, _, .dat _, a, m => nomatch m
  | _, _, .lst h1 h2 h3 r, a, m => (List.mem_cons.mp m).elim (fun e => by subst e; exact ⟨_, h3, .l, List.mem_cons_self, _, rfl⟩) fun m => (TreVs.kd r a m).imp fun _ z => ⟨z.1, z.2.mono fun _ q => List.mem_cons_of_mem _ q⟩
  | _, _, .ins h1 h2 h3 k1 k2 k3 r, a, m => (List.mem_cons.mp m).elim (fun e => by subst e; exact ⟨_, h3, .i _, List.mem_cons_self, .inl ⟨_, _, rfl⟩⟩) fun m => (List.mem_cons.mp m).elim (fun e => by subst e; exact ⟨_, k3, .i _, List.mem_cons_self, .inr ⟨_, rfl⟩⟩) fun m => (TreVf.kd r a m).imp fun _ z => ⟨z.1, z.2.mono fun _ q => List.mem_cons_of_mem _ q⟩
  | _, _, .dct h1 h2 h3 r, a, m => (List.mem_cons.mp m).elim (fun e => by subst e; exact ⟨_, h3, .d, List.mem_cons_self, .inr ⟨_, _, _, _, rfl⟩⟩) fun m => (TreVk.kd r a m).imp fun _ z => ⟨z.1, z.2.mono fun _ q => List.mem_cons_of_mem _ q⟩
theorem TreVs.kd : ∀ {v : List V} {t : List OT}, TreVs K l0 F H v t → ∀ a ∈ adsL t, ∃ o, H a = some o ∧ KdIn (kindsL t) o
  | _, _, .nil, a, m => nomatch m
  | _, _, .cons h r, a, m => (List.mem_append.mp m).elim (fun m => (TreV.kd h a m).imp fun _ z => ⟨z.1, z.2.mono fun _ q => List.mem_append_left _ q⟩) fun m => (TreVs.kd r a m).imp fun _ z => ⟨z.1, z.2.mono fun _ q => List.mem_append_right _ q⟩
theorem TreVf.kd : ∀ {v : List (Str × V)} {t : List (Str × OT)}, TreVf K l0 F H v t → ∀ a ∈ adsF t, ∃ o, H a = some o ∧ KdIn (kindsF t) o
  | _, _, .nil, a, m => nomatch m
  | _, _, .cons h r, a, m => (List.mem_append.mp m).elim (fun m => (TreV.kd h a m).imp fun _ z => ⟨z.1, z.2.mono fun _ q => List.mem_append_left _ q⟩) fun m => (TreVf.kd r a m).imp fun _ z => ⟨z.1, z.2.mono fun _ q => List.mem_append_right _ q⟩
theorem TreVk.kd : ∀ {v : List NEnt} {t : List (Dt × OT)}, TreVk K l0 F H v t → ∀ a ∈ adsK t, ∃ o, H a = some o ∧ KdIn (kindsK t) o
  | _, _, .nil, a, m => nomatch m
  | _, _, .cons _ _ h r, a, m => (List.mem_append.mp m).elim (fun m => (TreV.kd h a m).imp fun _ z => ⟨z.1, z.2.mono fun _ q => List.mem_append_left _ q⟩) fun m => (TreVk.kd r a m).imp fun _ z => ⟨z.1, z.2.mono fun _ q => List.mem_append_right _ q⟩
end
end
end DW

set_option Elab.async false
set_option linter.all false
set_option maxRecDepth 100000
namespace DW
open PySem PySem.Spec PyProof.Rows L2 StX SlX
end DW

set_option Elab.async false
set_option linter.all false
set_option maxRecDepth 100000
namespace DW
open PySem PySem.Spec PyProof.Rows L2 StX SlX ClX
abbrev SdX := List (Str × Dt) → List Dt → (Dt → List (Str × Dt) → Prop) → (Xn → List (Str × Dt) → Prop) → Prop
def spMX (K : PySem.W.Frag) (C : Addr) (sd : SdX) : Sp := fun vs H Q E => ∃ x us l0 F fs gs ds Qd Ed dx, vs = V.ref x :: us ∧ Base l0 F H ∧ F x = none ∧ x ≠ l0 ∧ H x = some (.ins C dx gs) ∧ DenF K l0 F gs fs ∧ (F dx = none ∧ dx ≠ l0 ∧ H dx = some (.own x)) ∧ Dens K l0 F us ds ∧ sd fs ds Qd Ed ∧
  (∀ v d gs' fs' F' H', GoI l0 x F H F' H' → F' x = none → H' x = some (.ins C dx gs') → DenF K l0 F' gs' fs' → Den K l0 F' v d → Qd d fs' → Q v H') ∧ (∀ cls dct xn gs' fs' F' H', GoI l0 x F H F' H' → F' x = none → H' x = some (.ins C dx gs') → DenF K l0 F' gs' fs' → XDen K l0 F' H' cls dct xn → Ed xn fs' → E cls dct H')
def MuX (P : Program) (w : World) (K : PySem.W.Frag) (mg : Str → Option Value) (base : Heap) (k : Nat) (m : Str) (C : Addr) (sd : SdX) : Prop := ∃ (g : Addr) (fd : FuncData) (ps : List Str), Cls K C ∧ Meth K C m g ∧ FnOk P w K mg base (L2.CX P w) k g fd ps (spMX K C sd) ∧ Binds K fd ps []
theorem MuX.mono {P : Program} {w : World} {K : PySem.W.Frag} {mg : Str → Option Value} {base : Heap} {j k : Nat} {m : Str} {C : Addr} {sd : SdX} (M : MuX P w K mg base j m C sd) (h : j ≤ k) : MuX P w K mg base k m C sd := by
  obtain ⟨g, fd, ps, c, me, F, b⟩ := M
  exact ⟨g, fd, ps, c, me, F.mono h, b⟩
end DW

set_option Elab.async false
set_option linter.all false
set_option maxRecDepth 100000
namespace DW
open PySem PySem.Spec PyProof.Rows L2 StX SlX ClX
end DW

set_option Elab.async false
set_option linter.all false
set_option maxRecDepth 100000
namespace DW
open PySem PySem.Spec PyProof.Rows L2 StX SlX ClX
abbrev DES := En → (Sl → En → Prop) → (Xn → En → Prop) → Prop
def KXS (K : PySem.W.Frag) (W : WX) (l0 : Addr) (F H : Hp) (σ : L2.St) (ρ : En) (E : Xn → En → Prop) : Prop := ∀ cls d x ρ' F' H', GoS l0 F H σ ρ F' H' → OwS H σ ρ σ ρ' → Stt K l0 F' H' σ ρ' → XDen K l0 F' H' cls d x → E x ρ' → W cls d σ H'
abbrev DTS := En → (Bool → En → Prop) → (Xn → En → Prop) → Prop
section
variable {X : Cx} {W : WX} {k : Nat} {C : Addr} {f x y : Str} {p1 p pos apos epos : Pos} {e a b : Expr} {es : List Expr} {t : TA} {da : DA} {xa xb te : TE} {de db : DE} {ds : DES} {yt yu : TT} {dt du : DTt} {dts : DTS}
theorem KXS.kx {K : PySem.W.Frag} {l0 : Addr} {F H : Hp} {σ : L2.St} {ρ : En} {E : Xn → En → Prop} (k : KXS K W l0 F H σ ρ E) (S : Stt K l0 F H σ ρ) : KX K W l0 F H σ (fun x => E x ρ) := fun cls d x F' H' g r q => k cls d x ρ F' H' (.of g) .refl (S.go g) r q
theorem KXS.trans {K : PySem.W.Frag} {l0 : Addr} {F H F1 H1 : Hp} {σ : L2.St} {ρ ρ1 : En} {E : Xn → En → Prop} (k : KXS K W l0 F H σ ρ E) (b : Base l0 F H) (g : GoS l0 F H σ ρ F1 H1) (w : OwS H σ ρ σ ρ1) : KXS K W l0 F1 H1 σ ρ1 E := fun cls d x ρ' F' H' g' w' S r q => k cls d x ρ' F' H' (g.trans b w g') (OwS.trans b g w w') S r q
end
end DW

set_option Elab.async false
set_option linter.all false
set_option maxRecDepth 100000
namespace DW
open PySem PySem.Spec PyProof.Rows L2 StX SlX ClX
end DW

set_option Elab.async false
set_option linter.all false
set_option maxRecDepth 100000
namespace DW
open PySem PySem.Spec PyProof.Rows L2 StX SlX ClX
end DW

set_option Elab.async false
set_option linter.all false
set_option maxRecDepth 100000
namespace DW
open PySem PySem.Spec PyProof.Rows L2 StX SlX ClX
end DW

set_option Elab.async false
set_option linter.all false
set_option maxRecDepth 100000
namespace DW
open PySem PySem.Spec PyProof.Rows L2 StX SlX
theorem DenK.len {K : PySem.W.Frag} {l0 : Addr} {F : Hp} : ∀ {xs : List (Key × V)} {kvs : List (Key × Dt)}, DenK K l0 F xs kvs → xs.length = kvs.length
  | _, _, .nil => rfl
  | _, _, .cons _ t => by rw [List.length_cons, List.length_cons, DenK.len t]
end DW

set_option Elab.async false
set_option linter.all false
set_option maxRecDepth 100000
set_option maxHeartbeats 2000000
namespace DW
open PySem PySem.Spec PyProof.Rows L2 StX SlX ClX
def KItO (d it : Addr) (i n ep : Nat) : HO := .ext fun h => h.IsKeyIter it d i n ep
section
variable {X : Cx} {pins : List (Addr × Obj)} {σ : L2.St} {H : Hp} {s : Shared} {d it q a C dx g : Addr} {i n ep : Nat} {kvs : List (Key × V)} {k : Nat} {f : Str} {o : Obj}
def spItK (K : PySem.W.Frag) (f : Str) : Sp := fun vs H Q _ => ∃ (a C dx d : Addr) (fs : List (Str × V)) (o : Obj) (kvs : List (Key × V)), vs = [V.ref a] ∧ H a = some (.ins C dx fs) ∧ Cls K C ∧ NoAttr K C f ∧ fs.lookup f = some (.ref d) ∧ H d = some (.frz o (.dK kvs)) ∧ ∀ it es ep, H it = none → o.data = .dict es ep → Q (.ref it) (upd H it (KItO d it 0 es.size ep))
def spLnK (K : PySem.W.Frag) (f : Str) : Sp := fun vs H Q _ => ∃ (a C dx d : Addr) (fs : List (Str × V)) (kvs : List (Key × V)), vs = [V.ref a] ∧ H a = some (.ins C dx fs) ∧ Cls K C ∧ NoAttr K C f ∧ fs.lookup f = some (.ref d) ∧ Rd H d (.dK kvs) ∧ Q (.int kvs.length) H
def MItK (P : Program) (w : World) (K : PySem.W.Frag) (mg : Str → Option Value) (base : Heap) (k : Nat) (f : Str) (C : Addr) : Prop := ∃ (g : Addr) (fd : FuncData) (ps : List Str), Cls K C ∧ NoAttr K C f ∧ Meth K C "__iter__" g ∧ FnOk P w K mg base (L2.CX P w) k g fd ps (spItK K f) ∧ Binds K fd ps []
def MLnK (P : Program) (w : World) (K : PySem.W.Frag) (mg : Str → Option Value) (base : Heap) (k : Nat) (f : Str) (C : Addr) : Prop := ∃ (g : Addr) (fd : FuncData) (ps : List Str), Cls K C ∧ NoAttr K C f ∧ Meth K C "__len__" g ∧ FnOk P w K mg base (L2.CX P w) k g fd ps (spLnK K f) ∧ Binds K fd ps []
theorem MItK.mono {P : Program} {w : World} {K : PySem.W.Frag} {mg : Str → Option Value} {base : Heap} {j k : Nat} (M : MItK P w K mg base j f C) (h : j ≤ k) : MItK P w K mg base k f C := by
  obtain ⟨g, fd, ps, h1, h2, h3, F, b⟩ := M
  exact ⟨g, fd, ps, h1, h2, h3, F.mono h, b⟩
theorem MLnK.mono {P : Program} {w : World} {K : PySem.W.Frag} {mg : Str → Option Value} {base : Heap} {j k : Nat} (M : MLnK P w K mg base j f C) (h : j ≤ k) : MLnK P w K mg base k f C := by
  obtain ⟨g, fd, ps, h1, h2, h3, F, b⟩ := M
  exact ⟨g, fd, ps, h1, h2, h3, F.mono h, b⟩
end
end DW

set_option Elab.async false
set_option linter.all false
set_option maxRecDepth 100000
set_option maxHeartbeats 2000000
namespace DW
open PySem PySem.Spec PyProof.Rows L2 StX SlX ClX
end DW

set_option Elab.async false
set_option linter.all false
set_option maxRecDepth 100000
set_option maxHeartbeats 2000000
namespace DW
open PySem PySem.Spec PyProof.Rows L2 StX SlX ClX
end DW

set_option Elab.async false
set_option linter.all false
set_option maxRecDepth 100000
namespace DW
open PySem PySem.Spec PyProof.Rows L2 StX SlX ClX
end DW

set_option Elab.async false
set_option linter.all false
set_option maxRecDepth 100000
namespace DW
open PySem PySem.Spec PyProof.Rows L2 StX SlX ClX
end DW

set_option Elab.async false
set_option linter.all false
set_option maxRecDepth 100000
namespace DW
open PySem PySem.Spec PyProof.Rows L2 StX SlX ClX
def SetX (P : Program) (w : World) (K : PySem.W.Frag) (mg : Str → Option Value) (base : Heap) (k : Nat) (C : Addr) (sd : SdX) : Prop := ∃ (g : Addr) (fd : FuncData) (ps : List Str), Cls K C ∧ Meth K C "__setitem__" g ∧ PySem.W.noSeq K C = true ∧ FnOk P w K mg base (L2.CX P w) k g fd ps (spMX K C sd) ∧ Binds K fd ps []
def GetX (P : Program) (w : World) (K : PySem.W.Frag) (mg : Str → Option Value) (base : Heap) (k : Nat) (C : Addr) (sd : SdX) : Prop := ∃ (g : Addr) (fd : FuncData) (ps : List Str), Cls K C ∧ Meth K C "__getitem__" g ∧ PySem.W.fnIn K g = true ∧ FnOk P w K mg base (L2.CX P w) k g fd ps (spMX K C sd) ∧ Binds K fd ps []
section
variable {X : Cx} {W : WX} {k : Nat} {C : Addr} {sd : SdX} {y : Str} {p1 pos pos' : Pos} {a b v : Expr} {tv tb : TE} {dv db : DE}
end
theorem SetX.mono {P : Program} {w : World} {K : PySem.W.Frag} {mg : Str → Option Value} {base : Heap} {j k : Nat} {C : Addr} {sd : SdX} (M : SetX P w K mg base j C sd) (h : j ≤ k) : SetX P w K mg base k C sd := by
  obtain ⟨g, fd, ps, c, me, q, F, b⟩ := M
  exact ⟨g, fd, ps, c, me, q, F.mono h, b⟩
theorem GetX.mono {P : Program} {w : World} {K : PySem.W.Frag} {mg : Str → Option Value} {base : Heap} {j k : Nat} {C : Addr} {sd : SdX} (M : GetX P w K mg base j C sd) (h : j ≤ k) : GetX P w K mg base k C sd := by
  obtain ⟨g, fd, ps, c, me, q, F, b⟩ := M
  exact ⟨g, fd, ps, c, me, q, F.mono h, b⟩
end DW

set_option Elab.async false
set_option linter.all false
set_option maxRecDepth 100000
namespace DW
open PySem PySem.Spec PyProof.Rows L2 StX SlX ClX
end DW

set_option Elab.async false
set_option linter.all false
set_option maxRecDepth 100000
set_option maxHeartbeats 3200000
namespace DW
open PySem PySem.Spec PyProof.Rows L2
end DW

set_option Elab.async false
set_option linter.all false
set_option maxRecDepth 100000
namespace DW
open PySem PySem.Spec PyProof.Rows L2
end DW

set_option Elab.async false
set_option linter.all false
set_option maxRecDepth 100000
namespace DW
open PySem PySem.Spec PyProof.Rows L2
end DW

set_option Elab.async false
set_option linter.all false
set_option maxRecDepth 100000
namespace DW
open PySem PySem.Spec PyProof.Rows L2 StX SlX ClX
end DW

set_option Elab.async false
set_option linter.all false
set_option maxRecDepth 100000
namespace DW
open PySem PySem.Spec PyProof.Rows L2
end DW

set_option Elab.async false
set_option linter.all false
set_option maxRecDepth 100000
namespace DW
open PySem PySem.Spec PyProof.Rows L2 StX SlX
inductive CleanI (C0 : Addr) : Dt → Prop
  | v (x : V) : CleanI C0 (.v x)
  | tup {ds : List Dt} (h : ∀ d ∈ ds, CleanI C0 d) : CleanI C0 (.tup ds)
  | lst {ds : List Dt} (h : ∀ d ∈ ds, CleanI C0 d) : CleanI C0 (.lst ds)
  | slt {C : Addr} {d : Dt} (h : CleanI C0 d) : CleanI C0 (.slt C d)
  | obj {C : Addr} {gs : List (Str × Dt)} (n : C ≠ C0) (h : ∀ f ∈ gs, CleanI C0 f.2) : CleanI C0 (.obj C gs)
  | dct {kvs : List (Key × Dt)} (h : ∀ f ∈ kvs, CleanI C0 f.2) : CleanI C0 (.dct kvs)
theorem CleanI.obj_inv {C0 C : Addr} {gs : List (Str × Dt)} : CleanI C0 (.obj C gs) → C ≠ C0 ∧ ∀ f ∈ gs, CleanI C0 f.2
  | .obj n h => ⟨n, h⟩
theorem CleanI.tup_inv {C0 : Addr} {gs : List Dt} : CleanI C0 (.tup gs) → ∀ f ∈ gs, CleanI C0 f
  | .tup h => h
theorem CleanI.lst_inv {C0 : Addr} {gs : List Dt} : CleanI C0 (.lst gs) → ∀ f ∈ gs, CleanI C0 f
  | .lst h => h
theorem CleanI.slt_inv {C0 C : Addr} {d : Dt} : CleanI C0 (.slt C d) → CleanI C0 d
  | .slt h => h
theorem CleanI.dct_inv {C0 : Addr} {gs : List (Key × Dt)} : CleanI C0 (.dct gs) → ∀ f ∈ gs, CleanI C0 f.2
  | .dct h => h
def Isp (p : Addr × Addr) (a : Addr) : Prop := a = p.1 ∨ a = p.2
instance (p : Addr × Addr) (a : Addr) : Decidable (Isp p a) := inferInstanceAs (Decidable (_ ∨ _))
def lndF (F H : Hp) (p : Addr × Addr) : Hp := fun a => if Isp p a then H a else F a
def lndB (F' : Hp) (p : Addr × Addr) : Hp := fun a => if Isp p a then none else F' a
section
variable {K : PySem.W.Frag} {l0 : Addr} {F H F' H' : Hp} {σ : L2.St} {ρ : En} {p : Addr × Addr}
theorem lndF_own {a : Addr} (h : Isp p a) : lndF F H p a = H a := if_pos h
theorem lndF_not {a : Addr} (h : ¬ Isp p a) : lndF F H p a = F a := if_neg h
theorem lndB_own {a : Addr} (h : Isp p a) : lndB F' p a = none := if_pos h
theorem lndB_not {a : Addr} (h : ¬ Isp p a) : lndB F' p a = F' a := if_neg h
structure Lent (l0 : Addr) (F H : Hp) (p : Addr × Addr) (C : Addr) : Prop where
  f1 : F p.1 = none
  n1 : p.1 ≠ l0
  h1 : ∃ gs, H p.1 = some (.ins C p.2 gs)
  f2 : F p.2 = none
  n2 : p.2 ≠ l0
  h2 : H p.2 = some (.own p.1)
theorem Stt.lent {j : Nat} {C : Addr} {fs : List (Str × Dt)} (S : Stt K l0 F H σ ρ) (h : ρ[j]? = some (.oob p C fs)) : Lent l0 F H p C := by
  obtain ⟨gs, _, hF, n0, hH, _, w1, w2, w3⟩ := S.oob h
  exact ⟨hF, n0, ⟨gs, hH⟩, w1, w2, w3⟩
theorem Lent.none {C : Addr} (L : Lent l0 F H p C) {a : Addr} (h : Isp p a) : F a = none := by
  rcases h with e | e <;> subst e
  · exact L.f1
  · exact L.f2
theorem Lent.same {C : Addr} (L : Lent l0 F H p C) : Same F (lndF F H p) := fun a o e => by
  by_cases q : Isp p a
  · rw [L.none q] at e
    cases e
  · rw [lndF_not q]
    exact e
theorem Lent.base {C : Addr} (L : Lent l0 F H p C) (b : Base l0 F H) : Base l0 (lndF F H p) H := by
  refine ⟨fun a o e => ?_, ?_, b.dr⟩
  · by_cases q : Isp p a
    · rwa [lndF_own q] at e
    · rw [lndF_not q] at e
      exact b.sub a o e
  · rw [lndF_not fun q => ?_]
    · exact b.nf
    · rcases q with e | e
      · exact L.n1 e.symm
      · exact L.n2 e.symm
theorem Lent.go {C : Addr} (L : Lent l0 F H p C) (g : Go l0 (lndF F H p) H F' H') : Go l0 F H (lndB F' p) H' := by
  refine ⟨⟨fun a o e => ?_, ?_, g.bs.dr⟩, fun a o e => ?_, fun a h1 h2 => ?_, g.keep⟩
  · by_cases q : Isp p a
    · rw [lndB_own q] at e
      cases e
    · rw [lndB_not q] at e
      exact g.bs.sub a o e
  · by_cases q : Isp p l0
    · exact lndB_own q
    · rw [lndB_not q]
      exact g.bs.nf
  · have q : ¬ Isp p a := fun q => by
      rw [L.none q] at e
      cases e
    rw [lndB_not q]
    exact g.ex a o (by rw [lndF_not q]; exact e)
  · have q : ¬ Isp p a := fun q => h2 (lndB_own q)
    rw [lndB_not q] at h2
    exact g.new a (by rw [lndF_not q]; exact h1) h2
theorem Lent.at_ {C : Addr} (L : Lent l0 F H p C) (g : Go l0 (lndF F H p) H F' H') {a : Addr} {o : HO} (h : F' a = some o) (n1 : ∀ dx gs, o ≠ .ins C dx gs) (n2 : ∀ x, o ≠ .own x) : lndB F' p a = some o := by
  have q : ¬ Isp p a := fun q => by
    have e : ∀ u, H a = some u → o = u := fun u hu => by
      have := g.ex a u (by rw [lndF_own q]; exact hu)
      rw [h] at this
      exact Option.some.inj this
    rcases q with z | z
    · subst z
      obtain ⟨gs, hh⟩ := L.h1
      exact n1 _ _ (e _ hh)
    · subst z
      exact n2 _ (e _ L.h2)
  rw [lndB_not q]
  exact h
mutual
theorem Lent.den {C : Addr} (L : Lent l0 F H p C) (g : Go l0 (lndF F H p) H F' H') : ∀ {v : V} {d : Dt}, Den K l0 F' v d → CleanI C d → Den K l0 (lndB F' p) v d
  | _, _, .v x, _ => .v x
  | _, _, .tup h r, c => by
    refine .tup ?_ (Lent.dens L g r c.tup_inv)
    rcases h with (h | ⟨o, h⟩) | h
    · exact .inl (.inl (L.at_ g h (fun _ _ z => nomatch z) fun _ z => nomatch z))
    · exact .inl (.inr ⟨o, L.at_ g h (fun _ _ z => nomatch z) fun _ z => nomatch z⟩)
    · exact .inr h
  | _, _, .slt h h2 ne r, c => .slt (L.at_ g h (fun _ _ z => nomatch z) fun _ z => nomatch z) (L.at_ g h2 (fun _ _ z => nomatch z) fun _ z => nomatch z) ne (Lent.den L g r c.slt_inv)
  | _, _, .lst h r, c => by
    refine .lst ?_ (Lent.dens L g r c.lst_inv)
    rcases h with (h | ⟨o, h⟩) | h
    · exact .inl (.inl (L.at_ g h (fun _ _ z => nomatch z) fun _ z => nomatch z))
    · exact .inl (.inr ⟨o, L.at_ g h (fun _ _ z => nomatch z) fun _ z => nomatch z⟩)
    · exact .inr h
  | _, _, .obj h r, c => .obj (L.at_ g h (fun _ _ z => by cases z; exact c.obj_inv.1 rfl) fun _ z => nomatch z) (Lent.denF L g r c.obj_inv.2)
  | _, _, .exc h r, c => nomatch c
  | _, _, .exc0, c => nomatch c
  | _, _, .dct h r, c => .dct (L.at_ g h (fun _ _ z => nomatch z) fun _ z => nomatch z) (Lent.denK L g r c.dct_inv)
  | _, _, .drw, c => nomatch c
theorem Lent.dens {C : Addr} (L : Lent l0 F H p C) (g : Go l0 (lndF F H p) H F' H') : ∀ {vs : List V} {ds : List Dt}, Dens K l0 F' vs ds → (∀ d ∈ ds, CleanI C d) → Dens K l0 (lndB F' p) vs ds
  | _, _, .nil, _ => .nil
  | _, _, .cons h t, c => .cons (Lent.den L g h (c _ List.mem_cons_self)) (Lent.dens L g t fun d m => c d (List.mem_cons_of_mem _ m))
theorem Lent.denF {C : Addr} (L : Lent l0 F H p C) (g : Go l0 (lndF F H p) H F' H') : ∀ {gs : List (Str × V)} {fs : List (Str × Dt)}, DenF K l0 F' gs fs → (∀ f ∈ fs, CleanI C f.2) → DenF K l0 (lndB F' p) gs fs
  | _, _, .nil, _ => .nil
  | _, _, .cons h t, c => .cons (Lent.den L g h (c _ List.mem_cons_self)) (Lent.denF L g t fun d m => c d (List.mem_cons_of_mem _ m))
theorem Lent.denK {C : Addr} (L : Lent l0 F H p C) (g : Go l0 (lndF F H p) H F' H') : ∀ {gs : List (Key × V)} {fs : List (Key × Dt)}, DenK K l0 F' gs fs → (∀ f ∈ fs, CleanI C f.2) → DenK K l0 (lndB F' p) gs fs
  | _, _, .nil, _ => .nil
  | _, _, .cons h t, c => .cons (Lent.den L g h (c _ List.mem_cons_self)) (Lent.denK L g t fun d m => c d (List.mem_cons_of_mem _ m))
end
def CleanXI (C0 : Addr) (x : Xn) : Prop := ∀ f ∈ x.fs, CleanI C0 f.2
theorem Lent.x {C : Addr} (L : Lent l0 F H p C) (g : Go l0 (lndF F H p) H F' H') {cls : Value} {d : Option Addr} {x : Xn} (h : XDen K l0 F' H' cls d x) (c : CleanXI C x) : XDen K l0 (lndB F' p) H' cls d x := by
  obtain ⟨e, h | ⟨dd, gs, e2, h2, r⟩⟩ := h
  · exact ⟨e, .inl h⟩
  · exact ⟨e, .inr ⟨dd, gs, e2, L.at_ g h2 (fun _ _ z => nomatch z) (fun _ z => nomatch z), L.denF g r c⟩⟩
end
end DW

set_option Elab.async false
set_option linter.all false
set_option maxRecDepth 100000
namespace DW
open PySem PySem.Spec PyProof.Rows L2 StX SlX
def NeL (ds ds0 : List Dt) : Prop := ds.length ≠ ds0.length ∨ ∃ n t, ds.head? = some (.v (.int n)) ∧ ds0.head? = some (.tup t)
inductive CleanL (ds0 : List Dt) : Dt → Prop
  | v (x : V) : CleanL ds0 (.v x)
  | tup {ds : List Dt} (h : ∀ d ∈ ds, CleanL ds0 d) : CleanL ds0 (.tup ds)
  | lst {ds : List Dt} (n : NeL ds ds0) (h : ∀ d ∈ ds, CleanL ds0 d) : CleanL ds0 (.lst ds)
  | slt {C : Addr} {d : Dt} (h : CleanL ds0 d) : CleanL ds0 (.slt C d)
  | obj {C : Addr} {gs : List (Str × Dt)} (h : ∀ f ∈ gs, CleanL ds0 f.2) : CleanL ds0 (.obj C gs)
  | dct {kvs : List (Key × Dt)} (h : ∀ f ∈ kvs, CleanL ds0 f.2) : CleanL ds0 (.dct kvs)
theorem CleanL.obj_inv {C0 : List Dt} {C : Addr} {gs : List (Str × Dt)} : CleanL C0 (.obj C gs) → ∀ f ∈ gs, CleanL C0 f.2
  | .obj h => h
theorem CleanL.tup_inv {C0 : List Dt} {gs : List Dt} : CleanL C0 (.tup gs) → ∀ f ∈ gs, CleanL C0 f
  | .tup h => h
theorem CleanL.lst_inv {C0 : List Dt} {gs : List Dt} : CleanL C0 (.lst gs) → NeL gs C0 ∧ ∀ f ∈ gs, CleanL C0 f
  | .lst n h => ⟨n, h⟩
theorem CleanL.slt_inv {C0 : List Dt} {C : Addr} {d : Dt} : CleanL C0 (.slt C d) → CleanL C0 d
  | .slt h => h
theorem CleanL.dct_inv {C0 : List Dt} {gs : List (Key × Dt)} : CleanL C0 (.dct gs) → ∀ f ∈ gs, CleanL C0 f.2
  | .dct h => h
section
variable {K : PySem.W.Frag} {l0 : Addr} {F H F' H' : Hp} {σ : L2.St} {ρ : En} {l : Addr}
structure LentL (K : PySem.W.Frag) (l0 : Addr) (F H : Hp) (l : Addr) (ds : List Dt) : Prop where
  f1 : F l = none
  n1 : l ≠ l0
  h1 : ∃ xs, H l = some (.lst xs) ∧ Dens K l0 F xs ds
theorem isp2 {a : Addr} (h : Isp (l, l) a) : a = l := h.elim id id
theorem LentL.none {ds : List Dt} (L : LentL K l0 F H l ds) {a : Addr} (h : Isp (l, l) a) : F a = none := by
  rw [isp2 h]
  exact L.f1
theorem LentL.same {ds : List Dt} (L : LentL K l0 F H l ds) : Same F (lndF F H (l, l)) := fun a o e => by
  by_cases q : Isp (l, l) a
  · rw [L.none q] at e
    cases e
  · rw [lndF_not q]
    exact e
theorem LentL.base {ds : List Dt} (L : LentL K l0 F H l ds) (b : Base l0 F H) : Base l0 (lndF F H (l, l)) H := by
  refine ⟨fun a o e => ?_, ?_, b.dr⟩
  · by_cases q : Isp (l, l) a
    · rwa [lndF_own q] at e
    · rw [lndF_not q] at e
      exact b.sub a o e
  · rw [lndF_not fun q => L.n1 (isp2 q).symm]
    exact b.nf
theorem LentL.go {ds : List Dt} (L : LentL K l0 F H l ds) (g : Go l0 (lndF F H (l, l)) H F' H') : Go l0 F H (lndB F' (l, l)) H' := by
  refine ⟨⟨fun a o e => ?_, ?_, g.bs.dr⟩, fun a o e => ?_, fun a h1 h2 => ?_, g.keep⟩
  · by_cases q : Isp (l, l) a
    · rw [lndB_own q] at e
      cases e
    · rw [lndB_not q] at e
      exact g.bs.sub a o e
  · by_cases q : Isp (l, l) l0
    · exact lndB_own q
    · rw [lndB_not q]
      exact g.bs.nf
  · have q : ¬ Isp (l, l) a := fun q => by
      rw [L.none q] at e
      cases e
    rw [lndB_not q]
    exact g.ex a o (by rw [lndF_not q]; exact e)
  · have q : ¬ Isp (l, l) a := fun q => h2 (lndB_own q)
    rw [lndB_not q] at h2
    exact g.new a (by rw [lndF_not q]; exact h1) h2
theorem LentL.same2 {ds : List Dt} (L : LentL K l0 F H l ds) (g : Go l0 (lndF F H (l, l)) H F' H') : Same F F' := fun a o e => g.ex a o (L.same a o e)
theorem LentL.at_ {ds : List Dt} (L : LentL K l0 F H l ds) (g : Go l0 (lndF F H (l, l)) H F' H') {a : Addr} {o : HO} (h : F' a = some o) (n : ∀ xs, Dens K l0 F' xs ds → o ≠ .lst xs) : lndB F' (l, l) a = some o := by
  have q : ¬ Isp (l, l) a := fun q => by
    obtain rfl := isp2 q
    obtain ⟨xs, hh, r⟩ := L.h1
    have := g.ex a _ (by rw [lndF_own q]; exact hh)
    rw [h] at this
    exact n xs (Dens.mono (L.same2 g) r) (Option.some.inj this)
  rw [lndB_not q]
  exact h
theorem dens_len {K : PySem.W.Frag} {l0 : Addr} {F : Hp} : ∀ {xs : List V} {ds : List Dt}, Dens K l0 F xs ds → xs.length = ds.length
  | _, _, .nil => rfl
  | _, _, .cons _ t => congrArg (· + 1) (dens_len t)
theorem ne_lst {K : PySem.W.Frag} {l0 : Addr} {F : Hp} {xs : List V} {ds ds0 : List Dt} (n : NeL ds ds0) (h : Dens K l0 F xs ds) (h0 : Dens K l0 F xs ds0) : False := by
  rcases n with n | ⟨m, t, e1, e2⟩
  · exact n ((dens_len h).symm.trans (dens_len h0))
  · cases h with
    | nil => cases e1
    | cons a b =>
      cases Option.some.inj e1
      cases a
      cases h0 with
      | cons a0 b0 =>
        cases Option.some.inj e2
        cases a0
mutual
theorem LentL.den {ds0 : List Dt} (L : LentL K l0 F H l ds0) (g : Go l0 (lndF F H (l, l)) H F' H') : ∀ {v : V} {d : Dt}, Den K l0 F' v d → CleanL ds0 d → Den K l0 (lndB F' (l, l)) v d
  | _, _, .v x, _ => .v x
  | _, _, .tup h r, c => by
    refine .tup ?_ (LentL.dens L g r c.tup_inv)
    rcases h with (h | ⟨o, h⟩) | h
    · exact .inl (.inl (L.at_ g h fun _ _ z => nomatch z))
    · exact .inl (.inr ⟨o, L.at_ g h fun _ _ z => nomatch z⟩)
    · exact .inr h
  | _, _, .slt h h2 ne r, c => .slt (L.at_ g h fun _ _ z => nomatch z) (L.at_ g h2 fun _ _ z => nomatch z) ne (LentL.den L g r c.slt_inv)
  | _, _, .lst h r, c => by
    refine .lst ?_ (LentL.dens L g r c.lst_inv.2)
    rcases h with (h | ⟨o, h⟩) | h
    · exact .inl (.inl (L.at_ g h fun xs r0 z => by cases z; exact ne_lst c.lst_inv.1 r r0))
    · exact .inl (.inr ⟨o, L.at_ g h fun _ _ z => nomatch z⟩)
    · exact .inr h
  | _, _, .obj h r, c => .obj (L.at_ g h fun _ _ z => nomatch z) (LentL.denF L g r c.obj_inv)
  | _, _, .exc h r, c => nomatch c
  | _, _, .exc0, c => nomatch c
  | _, _, .dct h r, c => .dct (L.at_ g h fun _ _ z => nomatch z) (LentL.denK L g r c.dct_inv)
  | _, _, .drw, c => nomatch c
theorem LentL.dens {ds0 : List Dt} (L : LentL K l0 F H l ds0) (g : Go l0 (lndF F H (l, l)) H F' H') : ∀ {vs : List V} {ds : List Dt}, Dens K l0 F' vs ds → (∀ d ∈ ds, CleanL ds0 d) → Dens K l0 (lndB F' (l, l)) vs ds
  | _, _, .nil, _ => .nil
  | _, _, .cons h t, c => .cons (LentL.den L g h (c _ List.mem_cons_self)) (LentL.dens L g t fun d m => c d (List.mem_cons_of_mem _ m))
theorem LentL.denF {ds0 : List Dt} (L : LentL K l0 F H l ds0) (g : Go l0 (lndF F H (l, l)) H F' H') : ∀ {gs : List (Str × V)} {fs : List (Str × Dt)}, DenF K l0 F' gs fs → (∀ f ∈ fs, CleanL ds0 f.2) → DenF K l0 (lndB F' (l, l)) gs fs
  | _, _, .nil, _ => .nil
  | _, _, .cons h t, c => .cons (LentL.den L g h (c _ List.mem_cons_self)) (LentL.denF L g t fun f m => c f (List.mem_cons_of_mem _ m))
theorem LentL.denK {ds0 : List Dt} (L : LentL K l0 F H l ds0) (g : Go l0 (lndF F H (l, l)) H F' H') : ∀ {gs : List (Key × V)} {fs : List (Key × Dt)}, DenK K l0 F' gs fs → (∀ f ∈ fs, CleanL ds0 f.2) → DenK K l0 (lndB F' (l, l)) gs fs
  | _, _, .nil, _ => .nil
  | _, _, .cons h t, c => .cons (LentL.den L g h (c _ List.mem_cons_self)) (LentL.denK L g t fun f m => c f (List.mem_cons_of_mem _ m))
end
def CleanXL (ds0 : List Dt) (x : Xn) : Prop := ∀ f ∈ x.fs, CleanL ds0 f.2
theorem LentL.x {ds0 : List Dt} (L : LentL K l0 F H l ds0) (g : Go l0 (lndF F H (l, l)) H F' H') {cls : Value} {d : Option Addr} {x : Xn} (h : XDen K l0 F' H' cls d x) (c : CleanXL ds0 x) : XDen K l0 (lndB F' (l, l)) H' cls d x := by
  obtain ⟨e, h | ⟨dd, gs, e2, h2, r⟩⟩ := h
  · exact ⟨e, .inl h⟩
  · exact ⟨e, .inr ⟨dd, gs, e2, L.at_ g h2 (fun _ _ z => nomatch z), L.denF g r c⟩⟩
end
end DW

set_option Elab.async false
set_option linter.all false
set_option maxRecDepth 100000
namespace DW
open PySem PySem.Spec PyProof.Rows L2 StX SlX ClX
end DW

set_option Elab.async false
set_option linter.all false
set_option maxRecDepth 100000
namespace DW
open PySem PySem.Spec PyProof.Rows L2 StX SlX ClX
end DW

set_option Elab.async false
set_option linter.all false
set_option maxRecDepth 100000
namespace DW
open PySem PySem.Spec PyProof.Rows L2 StX SlX ClX
def NkV (X : Cx) (H : Hp) (k : NestedKey) (y : V) : Prop := ∀ pins σ s u, Inv X pins σ H s → RelV y u → NestedIs s.heap k u
section
variable {X : Cx} {l0 : Addr} {F H : Hp}
theorem nk_v {s : Shared} {x : V} {k : NestedKey} {u : Value} (e : nkOf (.v x) = some k) (r : RelV x u) : NestedIs s.heap k u := by
  cases x with
  | bl b =>
    cases e
    obtain rfl : u = Value.bool b := r
    exact .bool rfl
  | int i =>
    cases e
    obtain ⟨t, rfl⟩ : ∃ t, u = Value.int i t := r
    exact .int i t
  | str x =>
    cases e
    obtain ⟨t, rfl⟩ : ∃ t, u = Value.str x t := r
    exact .text x t
  | non => cases e
  | byt b => cases e
  | flt f => cases e
  | ref a => cases e
  | ty t => cases e
mutual
theorem nk_is {pins : List (Addr × Obj)} {σ : L2.St} {s : Shared} (I : Inv X pins σ H s) (sub : Same F H) : ∀ (d : Dt) (y : V) (k : NestedKey) (u : Value), Den X.K l0 F y d → nkOf d = some k → RelV y u → NestedIs s.heap k u
  | .v x, y, k, u, h, e, r => by
    cases h
    exact nk_v e r
  | .tup ds, y, k, u, h, e, q => by
    cases h with
    | tup h r =>
      rename_i a xs
      obtain rfl : u = Value.ref a := q
      obtain ⟨ks, e1, e2⟩ := Option.map_eq_some_iff.mp (show (nkOfs ds).map NestedKey.tup = some k from e)
      subst e2
      obtain ⟨its, rv, ⟨o, ho, hc, n, hd⟩, hz⟩ := I.tuple (sameT sub h)
      exact .tup ho hc hd (by simpa using nk_all I sub ds xs ks its r e1 rv)
  | .lst _, _, _, _, _, e, _ => by cases e
  | .obj _ _, _, _, _, _, e, _ => by cases e
  | .slt _ _, _, _, _, _, e, _ => by cases e
  | .exc _ _ _ _, _, _, _, _, e, _ => by cases e
  | .dct _, _, _, _, _, e, _ => by cases e
  | .dcn _ _, _, _, _, _, e, _ => by cases e
  | .drw, _, _, _, _, e, _ => by cases e
theorem nk_all {pins : List (Addr × Obj)} {σ : L2.St} {s : Shared} (I : Inv X pins σ H s) (sub : Same F H) : ∀ (ds : List Dt) (ys : List V) (ks : List NestedKey) (us : List Value), Dens X.K l0 F ys ds → nkOfs ds = some ks → Vals ys us → NestedAll s.heap ks us
  | [], ys, ks, us, h, e, r => by
    cases h
    cases r
    cases e
    exact .nil
  | d :: ds, ys, ks, us, h, e, r => by
    cases h with
    | cons h t =>
      rename_i y ys
      cases r with
      | cons r rs =>
        rename_i u us
        have e : (match nkOf d, nkOfs ds with | some k, some ks => some (k :: ks) | _, _ => none) = some ks := e
        split at e
        · rename_i k1 ks1 e1 e2
          cases e
          exact .cons (nk_is I sub d y k1 u h e1 r) (nk_all I sub ds ys ks1 us t e2 rs)
        · cases e
end
theorem NkV.of {d : Dt} {y : V} {k : NestedKey} (b : Base l0 F H) (h : Den X.K l0 F y d) (e : nkOf d = some k) : NkV X H k y := fun pins σ s u I r => nk_is I b.sub d y k u h e r
end
def nkAt (es : List NEnt) (k : NestedKey) : Option NEnt := es.find? fun e => decide (e.key = k)
def nkPut (es : List NEnt) (k : NestedKey) (ka va : Addr) : List NEnt := if (nkAt es k).isSome then es.map (fun e => if e.key = k then { e with va := va } else e) else es ++ [⟨k, ka, va⟩]
end DW

set_option Elab.async false
set_option linter.all false
set_option maxRecDepth 100000
namespace DW
open PySem PySem.Spec PyProof.Rows L2 StX SlX ClX
def atNk {α : Type} : List (Dt × α) → NestedKey → Option α
  | [], _ => none
  | (d, x) :: r, k => if nkOf d = some k then some x else atNk r k
def repNk {α : Type} (k : NestedKey) (x : α) : List (Dt × α) → List (Dt × α)
  | [] => []
  | (d, y) :: r => if nkOf d = some k then (d, x) :: repNk k x r else (d, y) :: repNk k x r
def putNk {α : Type} (kvs : List (Dt × α)) (kd : Dt) (k : NestedKey) (x : α) : List (Dt × α) := if (atNk kvs k).isSome then repNk k x kvs else kvs ++ [(kd, x)]
theorem nkAt_cons (e : NEnt) (es : List NEnt) (k : NestedKey) : nkAt (e :: es) k = if e.key = k then some e else nkAt es k := by
  unfold nkAt
  rw [List.find?_cons]
  by_cases q : e.key = k
  · rw [decide_eq_true q, if_pos q]
  · rw [decide_eq_false q, if_neg q]
section
variable {K : PySem.W.Frag} {l0 : Addr} {F H : Hp}
theorem DenN.at (k : NestedKey) : ∀ {es : List NEnt} {kvs : List (Dt × Dt)}, DenN K l0 F es kvs → (nkAt es k).isSome = (atNk kvs k).isSome ∧ ∀ d, atNk kvs k = some d → ∃ e, nkAt es k = some e ∧ Den K l0 F (.ref e.va) d
  | _, _, .nil => ⟨rfl, fun d h => nomatch h⟩
  | _, _, .cons (e := e) hk hd h t => by
    obtain ⟨z1, z2⟩ := DenN.at k t
    rw [nkAt_cons]
    unfold atNk
    rw [hk]
    by_cases q : e.key = k
    · rw [if_pos q, if_pos (congrArg some q)]
      exact ⟨rfl, fun d e1 => by cases e1; exact ⟨e, rfl, h⟩⟩
    · rw [if_neg q, if_neg (fun z => q (Option.some.inj z))]
      exact ⟨z1, z2⟩
theorem TreVk.at (k : NestedKey) : ∀ {es : List NEnt} {kvs : List (Dt × OT)}, TreVk K l0 F H es kvs → (nkAt es k).isSome = (atNk kvs k).isSome ∧ ∀ d, atNk kvs k = some d → ∃ e, nkAt es k = some e ∧ TreV K l0 F H (.ref e.va) d
  | _, _, .nil => ⟨rfl, fun d h => nomatch h⟩
  | _, _, .cons (e := e) hk hd h t => by
    obtain ⟨z1, z2⟩ := TreVk.at k t
    rw [nkAt_cons]
    unfold atNk
    rw [hk]
    by_cases q : e.key = k
    · rw [if_pos q, if_pos (congrArg some q)]
      exact ⟨rfl, fun d e1 => by cases e1; exact ⟨e, rfl, h⟩⟩
    · rw [if_neg q, if_neg (fun z => q (Option.some.inj z))]
      exact ⟨z1, z2⟩
theorem DenN.keys {X : Cx} (b : Base l0 F H) : ∀ {es : List NEnt} {kvs : List (Dt × Dt)}, DenN X.K l0 F es kvs → ∀ e ∈ es, NkV X H e.key (.ref e.ka)
  | _, _, .nil, _, m => nomatch m
  | _, _, .cons hk hd h t, e, m => (List.mem_cons.mp m).elim (fun q => by subst q; exact NkV.of b hd hk) (DenN.keys b t e)
theorem TreVk.keys {X : Cx} (b : Base l0 F H) : ∀ {es : List NEnt} {kvs : List (Dt × OT)}, TreVk X.K l0 F H es kvs → ∀ e ∈ es, NkV X H e.key (.ref e.ka)
  | _, _, .nil, _, m => nomatch m
  | _, _, .cons hk hd h t, e, m => (List.mem_cons.mp m).elim (fun q => by subst q; exact NkV.of b hd hk) (TreVk.keys b t e)
theorem TreVk.length : ∀ {es : List NEnt} {kvs : List (Dt × OT)}, TreVk K l0 F H es kvs → es.length = kvs.length
  | _, _, .nil => rfl
  | _, _, .cons _ _ _ t => congrArg (· + 1) (TreVk.length t)
theorem TreVk.snoc {e : NEnt} {d : Dt} {t : OT} (hk : nkOf d = some e.key) (hd : Den K l0 F (.ref e.ka) d) (h : TreV K l0 F H (.ref e.va) t) : ∀ {es : List NEnt} {kvs : List (Dt × OT)}, TreVk K l0 F H es kvs → TreVk K l0 F H (es ++ [e]) (kvs ++ [(d, t)])
  | _, _, .nil => .cons hk hd h .nil
  | _, _, .cons a b c r => .cons a b c (TreVk.snoc hk hd h r)
theorem TreVk.rep {k : NestedKey} {va : Addr} {t : OT} (h : TreV K l0 F H (.ref va) t) : ∀ {es : List NEnt} {kvs : List (Dt × OT)}, TreVk K l0 F H es kvs → TreVk K l0 F H (es.map fun e => if e.key = k then { e with va := va } else e) (repNk k t kvs)
  | _, _, .nil => .nil
  | _, _, .cons (e := e) hk hd c r => by
    unfold repNk
    rw [List.map_cons, hk]
    by_cases q : e.key = k
    · rw [if_pos q, if_pos (congrArg some q)]
      exact .cons (e := { e with va := va }) hk hd h (TreVk.rep h r)
    · rw [if_neg q, if_neg (fun z => q (Option.some.inj z))]
      exact .cons hk hd c (TreVk.rep h r)
theorem TreVk.put {k : NestedKey} {kd : Dt} {ka va : Addr} {t : OT} (hk : nkOf kd = some k) (hd : Den K l0 F (.ref ka) kd) (h : TreV K l0 F H (.ref va) t) {es : List NEnt} {kvs : List (Dt × OT)} (r : TreVk K l0 F H es kvs) : TreVk K l0 F H (nkPut es k ka va) (putNk kvs kd k t) := by
  unfold nkPut putNk
  rw [(r.at k).1]
  by_cases q : (atNk kvs k).isSome = true
  · rw [if_pos q, if_pos q]
    exact r.rep h
  · rw [if_neg q, if_neg q]
    exact r.snoc (e := ⟨k, ka, va⟩) hk hd h
theorem TreVf.look {f : Str} : ∀ {gs : List (Str × V)} {fs : List (Str × OT)} {t : OT}, TreVf K l0 F H gs fs → fs.lookup f = some t → ∃ v, gs.lookup f = some v ∧ TreV K l0 F H v t
  | _, _, _, .nil, e => nomatch e
  | _, _, t, .cons (f := g) h r, e => by
    rw [List.lookup_cons] at e ⊢
    cases q : f == g with
    | true =>
      rw [q] at e
      cases e
      exact ⟨_, rfl, h⟩
    | false =>
      rw [q] at e
      exact TreVf.look r e
theorem TreVf.none {f : Str} : ∀ {gs : List (Str × V)} {fs : List (Str × OT)}, TreVf K l0 F H gs fs → fs.lookup f = none → gs.lookup f = none
  | _, _, .nil, _ => rfl
  | _, _, .cons (f := g) h r, e => by
    rw [List.lookup_cons] at e ⊢
    cases q : f == g with
    | true =>
      rw [q] at e
      cases e
    | false =>
      rw [q] at e
      exact TreVf.none r e
theorem TreVf.split {f : Str} {t : OT} {fs2 : List (Str × OT)} : ∀ {fs1 : List (Str × OT)} {gs : List (Str × V)}, TreVf K l0 F H gs (fs1 ++ (f, t) :: fs2) → ∃ g1 v g2, gs = g1 ++ (f, v) :: g2 ∧ TreVf K l0 F H g1 fs1 ∧ TreV K l0 F H v t ∧ TreVf K l0 F H g2 fs2
  | [], _, .cons h r => ⟨[], _, _, rfl, .nil, h, r⟩
  | _ :: _, _, .cons h r => by
    obtain ⟨g1, v, g2, e, a, b, c⟩ := TreVf.split r
    subst e
    exact ⟨_ :: g1, v, g2, rfl, .cons h a, b, c⟩
theorem TreVf.app {fs2 : List (Str × OT)} {g2 : List (Str × V)} (b : TreVf K l0 F H g2 fs2) : ∀ {fs1 : List (Str × OT)} {g1 : List (Str × V)}, TreVf K l0 F H g1 fs1 → TreVf K l0 F H (g1 ++ g2) (fs1 ++ fs2)
  | _, _, .nil => b
  | _, _, .cons h r => .cons h (TreVf.app b r)
theorem TreVk.split {d : Dt} {t : OT} {k2 : List (Dt × OT)} : ∀ {k1 : List (Dt × OT)} {es : List NEnt}, TreVk K l0 F H es (k1 ++ (d, t) :: k2) → ∃ e1 e e2, es = e1 ++ e :: e2 ∧ TreVk K l0 F H e1 k1 ∧ nkOf d = some e.key ∧ Den K l0 F (.ref e.ka) d ∧ TreV K l0 F H (.ref e.va) t ∧ TreVk K l0 F H e2 k2
  | [], _, .cons hk hd h r => ⟨[], _, _, rfl, .nil, hk, hd, h, r⟩
  | _ :: _, _, .cons hk hd h r => by
    obtain ⟨g1, v, g2, e, a, b⟩ := TreVk.split r
    subst e
    exact ⟨_ :: g1, v, g2, rfl, .cons hk hd h a, b⟩
theorem TreVk.app {k2 : List (Dt × OT)} {e2 : List NEnt} (b : TreVk K l0 F H e2 k2) : ∀ {k1 : List (Dt × OT)} {e1 : List NEnt}, TreVk K l0 F H e1 k1 → TreVk K l0 F H (e1 ++ e2) (k1 ++ k2)
  | _, _, .nil => b
  | _, _, .cons hk hd h r => .cons hk hd h (TreVk.app b r)
end
theorem adsF_app (a b : List (Str × OT)) : adsF (a ++ b) = adsF a ++ adsF b := by
  induction a with
  | nil => rfl
  | cons x r ih =>
    obtain ⟨f, t⟩ := x
    show t.ads ++ adsF (r ++ b) = (t.ads ++ adsF r) ++ adsF b
    rw [ih, List.append_assoc]
theorem adsK_app (a b : List (Dt × OT)) : adsK (a ++ b) = adsK a ++ adsK b := by
  induction a with
  | nil => rfl
  | cons x r ih =>
    obtain ⟨f, t⟩ := x
    show t.ads ++ adsK (r ++ b) = (t.ads ++ adsK r) ++ adsK b
    rw [ih, List.append_assoc]
theorem adsL_app (a b : List OT) : adsL (a ++ b) = adsL a ++ adsL b := by
  induction a with
  | nil => rfl
  | cons x r ih =>
    show x.ads ++ adsL (r ++ b) = (x.ads ++ adsL r) ++ adsL b
    rw [ih, List.append_assoc]
inductive Ctx : (OT → OT) → Prop
  | hole : Ctx fun t => t
  | ins {c : OT → OT} (h : Ctx c) (a dx C : Addr) (fs1 : List (Str × OT)) (f : Str) (fs2 : List (Str × OT)) : Ctx fun t => .ins a dx C (fs1 ++ (f, c t) :: fs2)
  | dct {c : OT → OT} (h : Ctx c) (a : Addr) (w : World) (k1 : List (Dt × OT)) (d : Dt) (k2 : List (Dt × OT)) : Ctx fun t => .dct a w (k1 ++ (d, c t) :: k2)
section
variable {K : PySem.W.Frag} {l0 : Addr} {F H F' H' : Hp}
structure Part (K : PySem.W.Frag) (l0 : Addr) (F H : Hp) (v u : V) (c : OT → OT) (n : OT) : Prop where
  at_ : TreV K l0 F H u n
  nd : n.ads.Nodup
  sub : ∀ b ∈ n.ads, b ∈ (c n).ads
  put : ∀ (n' : OT) (F' H' : Hp), Same F F' → (∀ b ∈ (c n).ads, b ∉ n.ads → F' b = none) → (∀ b ∈ (c n).ads, b ∉ n.ads → ∀ o, H b = some o → H' b = some o) → TreV K l0 F' H' u n' → n'.ads.Nodup → (∀ b ∈ n'.ads, b ∈ n.ads ∨ b ∉ (c n).ads) → TreV K l0 F' H' v (c n') ∧ (c n').ads.Nodup ∧ ∀ b ∈ (c n').ads, b ∈ (c n).ads ∨ b ∈ n'.ads
theorem nodup_mid {α : Type} {l m r m' : List α} (h : (l ++ (m ++ r)).Nodup) (h' : m'.Nodup) (q : ∀ b ∈ m', b ∈ m ∨ b ∉ l ++ (m ++ r)) : (l ++ (m' ++ r)).Nodup := by
  rw [List.nodup_append] at h ⊢
  obtain ⟨h1, h2, h3⟩ := h
  rw [List.nodup_append] at h2 ⊢
  obtain ⟨h4, h5, h6⟩ := h2
  refine ⟨h1, ⟨h', h5, fun x mx y my e => ?_⟩, fun x mx y my e => ?_⟩
  · subst e
    rcases q x mx with z | z
    · exact h6 x z x my rfl
    · exact z (List.mem_append_right _ (List.mem_append_right _ my))
  · subst e
    rcases List.mem_append.mp my with my | my
    · rcases q x my with z | z
      · exact h3 x mx x (List.mem_append_left _ z) rfl
      · exact z (List.mem_append_left _ mx)
    · exact h3 x mx x (List.mem_append_right _ my) rfl
theorem Ctx.part {c : OT → OT} (h : Ctx c) : ∀ {v : V} {n : OT}, TreV K l0 F H v (c n) → (c n).ads.Nodup → ∃ u, Part K l0 F H v u c n := by
  induction h with
  | hole => exact fun {v n} t nd => ⟨v, t, nd, fun b m => m, fun n' F' H' e q1 q2 t' nd' q => ⟨t', nd', fun b m => .inr m⟩⟩
  | @ins c h a dx C fs1 f fs2 ih =>
    intro v n t nd
    cases t with
    | ins h1 h2 h3 k1 k2 k3 r =>
      obtain ⟨g1, v1, g2, e, r1, rt, r2⟩ := r.split
      subst e
      have ea : ∀ m, (OT.ins a dx C (fs1 ++ (f, c m) :: fs2)).ads = (a :: dx :: adsF fs1) ++ ((c m).ads ++ adsF fs2) := fun m => by
        show a :: dx :: adsF (fs1 ++ (f, c m) :: fs2) = _
        rw [adsF_app]
        rfl
      rw [ea] at nd
      have nd2 := nd
      rw [List.nodup_append] at nd2
      have nd3 := nd2.2.1
      rw [List.nodup_append] at nd3
      obtain ⟨u, p⟩ := ih rt nd3.1
      have out : ∀ b, b ∈ (a :: dx :: adsF fs1) ∨ b ∈ adsF fs2 → b ∈ (OT.ins a dx C (fs1 ++ (f, c n) :: fs2)).ads ∧ b ∉ (c n).ads := fun b m => by
        rw [ea]
        rcases m with m | m
        · exact ⟨List.mem_append_left _ m, fun z => nd2.2.2 b m b (List.mem_append_left _ z) rfl⟩
        · exact ⟨List.mem_append_right _ (List.mem_append_right _ m), fun z => nd3.2.2 b z b m rfl⟩
      refine ⟨u, p.at_, p.nd, fun b m => by rw [ea]; exact List.mem_append_right _ (List.mem_append_left _ (p.sub b m)), fun n' F' H' e q1 q2 t' nd' q => ?_⟩
      have inn : ∀ b ∈ (c n).ads, b ∈ (OT.ins a dx C (fs1 ++ (f, c n) :: fs2)).ads := fun b m => by rw [ea]; exact List.mem_append_right _ (List.mem_append_left _ m)
      have far : ∀ b, b ∈ (a :: dx :: adsF fs1) ∨ b ∈ adsF fs2 → F' b = none ∧ ∀ o, H b = some o → H' b = some o := fun b m => by
        obtain ⟨z1, z2⟩ := out b m
        exact ⟨q1 b z1 fun z => z2 (p.sub b z), q2 b z1 fun z => z2 (p.sub b z)⟩
      obtain ⟨p1, p2, p3⟩ := p.put n' F' H' e (fun b m => q1 b (inn b m)) (fun b m => q2 b (inn b m)) t' nd' fun b m => (q b m).imp id fun z y => z (inn b y)
      refine ⟨.ins (far a (.inl List.mem_cons_self)).1 h2 ((far a (.inl List.mem_cons_self)).2 _ h3) (far dx (.inl (List.mem_cons_of_mem _ List.mem_cons_self))).1 k2 ((far dx (.inl (List.mem_cons_of_mem _ List.mem_cons_self))).2 _ k3)
        (TreVf.app (.cons p1 (r2.frm e (fun b m => (far b (.inr m)).1) fun b m => (far b (.inr m)).2)) (r1.frm e (fun b m => (far b (.inl (List.mem_cons_of_mem _ (List.mem_cons_of_mem _ m)))).1) fun b m => (far b (.inl (List.mem_cons_of_mem _ (List.mem_cons_of_mem _ m)))).2)), ?_, fun b m => ?_⟩
      · rw [ea]
        refine nodup_mid nd p2 fun b m => ?_
        rcases p3 b m with z | z
        · exact .inl z
        · rcases q b z with y | y
          · exact .inl (p.sub b y)
          · rw [ea] at y
            exact .inr y
      · rw [ea] at m
        rcases List.mem_append.mp m with m | m
        · exact .inl (out b (.inl m)).1
        · rcases List.mem_append.mp m with m | m
          · exact (p3 b m).imp (inn b) id
          · exact .inl (out b (.inr m)).1
  | @dct c h a w k1 d k2 ih =>
    intro v n t nd
    cases t with
    | dct h1 h2 h3 r =>
      obtain ⟨e1, en, e2, e, r1, hk, hd, rt, r2⟩ := r.split
      subst e
      have ea : ∀ m, (OT.dct a w (k1 ++ (d, c m) :: k2)).ads = (a :: adsK k1) ++ ((c m).ads ++ adsK k2) := fun m => by
        show a :: adsK (k1 ++ (d, c m) :: k2) = _
        rw [adsK_app]
        rfl
      rw [ea] at nd
      have nd2 := nd
      rw [List.nodup_append] at nd2
      have nd3 := nd2.2.1
      rw [List.nodup_append] at nd3
      obtain ⟨u, p⟩ := ih rt nd3.1
      have out : ∀ b, b ∈ (a :: adsK k1) ∨ b ∈ adsK k2 → b ∈ (OT.dct a w (k1 ++ (d, c n) :: k2)).ads ∧ b ∉ (c n).ads := fun b m => by
        rw [ea]
        rcases m with m | m
        · exact ⟨List.mem_append_left _ m, fun z => nd2.2.2 b m b (List.mem_append_left _ z) rfl⟩
        · exact ⟨List.mem_append_right _ (List.mem_append_right _ m), fun z => nd3.2.2 b z b m rfl⟩
      refine ⟨u, p.at_, p.nd, fun b m => by rw [ea]; exact List.mem_append_right _ (List.mem_append_left _ (p.sub b m)), fun n' F' H' e q1 q2 t' nd' q => ?_⟩
      have inn : ∀ b ∈ (c n).ads, b ∈ (OT.dct a w (k1 ++ (d, c n) :: k2)).ads := fun b m => by rw [ea]; exact List.mem_append_right _ (List.mem_append_left _ m)
      have far : ∀ b, b ∈ (a :: adsK k1) ∨ b ∈ adsK k2 → F' b = none ∧ ∀ o, H b = some o → H' b = some o := fun b m => by
        obtain ⟨z1, z2⟩ := out b m
        exact ⟨q1 b z1 fun z => z2 (p.sub b z), q2 b z1 fun z => z2 (p.sub b z)⟩
      obtain ⟨p1, p2, p3⟩ := p.put n' F' H' e (fun b m => q1 b (inn b m)) (fun b m => q2 b (inn b m)) t' nd' fun b m => (q b m).imp id fun z y => z (inn b y)
      refine ⟨.dct (far a (.inl List.mem_cons_self)).1 h2 ((far a (.inl List.mem_cons_self)).2 _ h3)
        (TreVk.app (.cons hk (Den.mono e hd) p1 (r2.frm e (fun b m => (far b (.inr m)).1) fun b m => (far b (.inr m)).2)) (r1.frm e (fun b m => (far b (.inl (List.mem_cons_of_mem _ m))).1) fun b m => (far b (.inl (List.mem_cons_of_mem _ m))).2)), ?_, fun b m => ?_⟩
      · rw [ea]
        refine nodup_mid nd p2 fun b m => ?_
        rcases p3 b m with z | z
        · exact .inl z
        · rcases q b z with y | y
          · exact .inl (p.sub b y)
          · rw [ea] at y
            exact .inr y
      · rw [ea] at m
        rcases List.mem_append.mp m with m | m
        · exact .inl (out b (.inl m)).1
        · rcases List.mem_append.mp m with m | m
          · exact (p3 b m).imp (inn b) id
          · exact .inl (out b (.inr m)).1
end
end DW

set_option Elab.async false
set_option linter.all false
set_option maxRecDepth 100000
namespace DW
open PySem PySem.Spec PyProof.Rows L2 StX SlX ClX
section
variable {K : PySem.W.Frag} {l0 : Addr} {F H F' H' : Hp} {σ : L2.St} {ρ : En} {i : Nat} {v u : V} {c : OT → OT} {n n' : OT}
theorem Stt.tre {t : OT} (S : Stt K l0 F H σ ρ) (h : ρ[i]? = some (.tre t)) : ∃ v, σ[i]? = some (some v) ∧ TreV K l0 F H v t ∧ t.ads.Nodup ∧ t.isDat = false := by
  rcases S.sl i _ h with z | ⟨v, h1, h2⟩
  · cases z
  · exact ⟨v, h1, h2⟩
theorem Ctx.isDat (h : Ctx c) (z : n'.isDat = false) : (c n').isDat = false := by
  cases h with
  | hole => exact z
  | ins h => rfl
  | dct h => rfl
theorem TreVs.length : ∀ {vs : List V} {xs : List OT}, TreVs K l0 F H vs xs → vs.length = xs.length
  | _, _, .nil => rfl
  | _, _, .cons _ t => congrArg (· + 1) (TreVs.length t)
end
def putTf (f : Str) (v : OT) : List (Str × OT) → List (Str × OT)
  | [] => [(f, v)]
  | (g, x) :: r => if g = f then (g, v) :: r else (g, x) :: putTf f v r
section
variable {K : PySem.W.Frag} {l0 : Addr} {F H F' H' : Hp} {σ : L2.St} {ρ : En} {i : Nat} {v u : V} {c : OT → OT} {n n' tv : OT}
theorem TreVf.put {f : Str} (r : TreV K l0 F H v tv) : ∀ {gs : List (Str × V)} {fs : List (Str × OT)}, TreVf K l0 F H gs fs → TreVf K l0 F H (putF f v gs) (putTf f tv fs)
  | _, _, .nil => .cons r .nil
  | _, _, .cons (f := g) h t => by
    unfold putF putTf
    by_cases q : g = f
    · rw [if_pos q, if_pos q]
      exact .cons r t
    · rw [if_neg q, if_neg q]
      exact .cons h (TreVf.put r t)
theorem TreVf.length : ∀ {gs : List (Str × V)} {fs : List (Str × OT)}, TreVf K l0 F H gs fs → gs.length = fs.length
  | _, _, .nil => rfl
  | _, _, .cons _ t => congrArg (· + 1) (TreVf.length t)
end
end DW

set_option Elab.async false
set_option linter.all false
set_option maxRecDepth 100000
namespace DW
open PySem PySem.Spec PyProof.Rows L2 StX SlX ClX
def OT.root : OT → Option Addr
  | .dat _ => none
  | .lst a _ => some a
  | .ins a _ _ _ => some a
  | .dct a _ _ => some a
abbrev SdT := OT → List Dt → (Dt → OT → Prop) → (Xn → OT → Prop) → Prop
structure GoT (l0 : Addr) (A : List Addr) (F H F' H' : Hp) : Prop where
  bs : Base l0 F' H'
  ex : Same F F'
  new : ∀ a, F a = none → F' a ≠ none → H a = none ∨ a ∈ A
  keep : ∀ a o, a ≠ l0 → a ∉ A → H a = some o → H' a = some o
def TreO (K : PySem.W.Frag) (l0 : Addr) (F H : Hp) (a : Addr) (t : OT) : Prop := TreV K l0 F H (.ref a) t ∧ t.ads.Nodup ∧ t.root = some a
def spMT (K : PySem.W.Frag) (sd : SdT) : Sp := fun vs H Q E => ∃ a us l0 F t ds Qd Ed, vs = V.ref a :: us ∧ Base l0 F H ∧ TreO K l0 F H a t ∧ Dens K l0 F us ds ∧ sd t ds Qd Ed ∧
  (∀ v d t' F' H', GoT l0 t.ads F H F' H' → TreO K l0 F' H' a t' → (∀ b ∈ t'.ads, b ∈ t.ads ∨ H b = none) → Den K l0 F' v d → Qd d t' → Q v H') ∧
  (∀ cls dct xn t' F' H', GoT l0 t.ads F H F' H' → TreO K l0 F' H' a t' → (∀ b ∈ t'.ads, b ∈ t.ads ∨ H b = none) → XDen K l0 F' H' cls dct xn → Ed xn t' → E cls dct H')
def MuT (P : Program) (w : World) (K : PySem.W.Frag) (mg : Str → Option Value) (base : Heap) (k : Nat) (m : Str) (C : Addr) (sd : SdT) : Prop := ∃ (g : Addr) (fd : FuncData) (ps : List Str), Cls K C ∧ Meth K C m g ∧ FnOk P w K mg base (L2.CX P w) k g fd ps (spMT K sd) ∧ Binds K fd ps []
theorem MuT.mono {P : Program} {w : World} {K : PySem.W.Frag} {mg : Str → Option Value} {base : Heap} {j k : Nat} {m : Str} {C : Addr} {sd : SdT} (M : MuT P w K mg base j m C sd) (h : j ≤ k) : MuT P w K mg base k m C sd := by
  obtain ⟨g, fd, ps, c, me, F, b⟩ := M
  exact ⟨g, fd, ps, c, me, F.mono h, b⟩
end DW

set_option Elab.async false
set_option linter.all false
set_option maxRecDepth 100000
namespace DW
open PySem PySem.Spec PyProof.Rows L2 StX SlX ClX
end DW

set_option Elab.async false
set_option linter.all false
set_option maxRecDepth 100000
namespace DW
open PySem PySem.Spec PyProof.Rows L2 StX SlX ClX
abbrev DAS := En → (List Sl → En → Prop) → (Xn → En → Prop) → Prop
section
variable {X : Cx} {W : WX} {k : Nat} {x f : Str} {p pos kp tp : Pos} {a b e ke ie : Expr} {es : List Expr} {zr : TA} {xa xb xe xi tk : TE} {da db de di dk : DE} {dr : DA} {dx dy : DES} {ds : DAS}
end
end DW

set_option Elab.async false
set_option linter.all false
set_option maxRecDepth 100000
namespace DW
open PySem PySem.Spec PyProof.Rows L2 StX SlX ClX
end DW

set_option Elab.async false
set_option linter.all false
set_option maxRecDepth 100000
namespace DW
open PySem PySem.Spec PyProof.Rows L2 StX SlX ClX
def zipD (xs ys : List Dt) : List Dt := (xs.zip ys).map fun p => .tup [p.1, p.2]
theorem zipD_len (xs ys : List Dt) : (zipD xs ys).length = min xs.length ys.length := by
  unfold zipD
  rw [List.length_map, List.length_zip]
theorem zipD_get {xs ys : List Dt} {i : Nat} {x y : Dt} (h1 : xs[i]? = some x) (h2 : ys[i]? = some y) : (zipD xs ys)[i]? = some (.tup [x, y]) := by
  unfold zipD
  have z : (xs.zip ys)[i]? = some (x, y) := List.getElem?_zip_eq_some.mpr ⟨h1, h2⟩
  rw [List.getElem?_map, z]
  rfl
theorem Wlk.zip {K : PySem.W.Frag} {l0 a b : Addr} {F : Hp} {xs ys : List V} {ds es : List Dt} (h1 : SqL K F a xs) (r1 : Dens K l0 F xs ds) (h2 : SqL K F b ys) (r2 : Dens K l0 F ys es) : Wlk K l0 (Itz K a b) F (zipD ds es) where
  go := fun i F' H' e bs hi => by
    rw [zipD_len] at hi
    have hx : i < xs.length := by rw [r1.length]; omega
    have hy : i < ys.length := by rw [r2.length]; omega
    exact ⟨xs, ys, xs[i], ys[i], bs.sub.seq (e.seq h1), bs.sub.seq (e.seq h2), by simp [hx], by simp [hy]⟩
  yld := fun i F' H' z H2 e bs hi y => by
    obtain ⟨T, x, y, e1, hT, e2, hx, hy⟩ := y
    subst e1 e2
    obtain ⟨d1, z1, z2⟩ := r1.getx (hx xs (bs.sub.seq (e.seq h1)))
    obtain ⟨d2, z3, z4⟩ := r2.getx (hy ys (bs.sub.seq (e.seq h2)))
    have g := Go.fresh (p := T) bs (.tup [x, y]) hT
    exact ⟨_, .tup [d1, d2], g, zipD_get z1 z3, Den.tup (SqT.of upd_same) (.cons (Den.mono g.ex (Den.mono e z2)) (.cons (Den.mono g.ex (Den.mono e z4)) .nil))⟩
  stop := fun F' H' e bs => ⟨xs, ys, bs.sub.seq (e.seq h1), bs.sub.seq (e.seq h2), by rw [zipD_len, r1.length, r2.length]; omega⟩
def valsD (kvs : List (Dt × Dt)) : List Dt := kvs.map (·.2)
theorem DenN.val {K : PySem.W.Frag} {l0 : Addr} {F : Hp} : ∀ {es : List NEnt} {kvs : List (Dt × Dt)} {i : Nat} {e : NEnt}, DenN K l0 F es kvs → es[i]? = some e → ∃ d, (valsD kvs)[i]? = some d ∧ Den K l0 F (.ref e.va) d
  | _, _, _, _, .nil, h => by simp at h
  | _, _, 0, _, .cons _ _ h _, z => by
    simp at z
    subst z
    exact ⟨_, rfl, h⟩
  | _, _, i + 1, e, .cons _ _ _ t, z => by
    obtain ⟨d, h1, h2⟩ := DenN.val (i := i) t (by simpa using z)
    exact ⟨d, by simpa [valsD] using h1, h2⟩
theorem DenN.length {K : PySem.W.Frag} {l0 : Addr} {F : Hp} : ∀ {es : List NEnt} {kvs : List (Dt × Dt)}, DenN K l0 F es kvs → es.length = kvs.length
  | _, _, .nil => rfl
  | _, _, .cons _ _ _ t => congrArg (· + 1) (DenN.length t)
end DW

set_option Elab.async false
set_option linter.all false
set_option maxRecDepth 100000
namespace DW
open PySem PySem.Spec PyProof.Rows L2 StX SlX ClX
end DW

set_option Elab.async false
set_option linter.all false
set_option maxRecDepth 100000
namespace DW
open PySem PySem.Spec PyProof.Rows L2 StX SlX ClX
section
variable {X : Cx} {W : WX} {k : Nat} {a e : Expr} {es : List Expr} {xa xe : TE} {de : DE} {dx : DES} {ds : DAS} {zr : TA} {dr : DA} {pos : Pos}
theorem Dens.last {K : PySem.W.Frag} {l0 : Addr} {F : Hp} {d : Dt} : ∀ {xs : List V} {es : List Dt}, Dens K l0 F xs (es ++ [d]) → ∃ ys y, xs = ys ++ [y] ∧ Dens K l0 F ys es ∧ Den K l0 F y d
  | _, [], .cons h .nil => ⟨[], _, rfl, .nil, h⟩
  | _, _ :: es, .cons h t => by
    obtain ⟨ys, y, e, r, rd⟩ := Dens.last (es := es) t
    subst e
    exact ⟨_ :: ys, y, rfl, .cons h r, rd⟩
end
end DW

set_option Elab.async false
set_option linter.all false
set_option maxRecDepth 100000
namespace DW
open PySem PySem.Spec PyProof.Rows L2 StX SlX ClX
end DW

set_option Elab.async false
set_option linter.all false
set_option maxRecDepth 100000
namespace DW
open PySem PySem.Spec PyProof.Rows L2 StX SlX ClX
theorem Go.freeze {l0 : Addr} {F H F' H' : Hp} {x : Addr} {o : HO} (g : Go l0 F H F' H') (h0 : H x = none) (h1 : F' x = none) (n0 : x ≠ l0) (h2 : H' x = some o) : Go l0 F H (upd F' x o) H' ∧ Same F' (upd F' x o) := by
  have ex : Same F' (upd F' x o) := fun a w e => by
    rw [upd_ne (ne_of_none e h1)]
    exact e
  refine ⟨⟨⟨fun a u e => ?_, by rw [upd_ne n0.symm]; exact g.bs.nf, g.bs.dr⟩, fun a w e => ex a w (g.ex a w e), fun a h3 h4 => ?_, g.keep⟩, ex⟩
  · by_cases q : a = x
    · subst q
      rw [upd_same] at e
      cases e
      exact h2
    · rw [upd_ne q] at e
      exact g.bs.sub a u e
  · by_cases q : a = x
    · subst q
      exact h0
    · rw [upd_ne q] at h4
      exact g.new a h3 h4
end DW

set_option Elab.async false
set_option linter.all false
set_option maxRecDepth 100000
namespace DW
open PySem PySem.Spec PyProof.Rows L2 StX SlX ClX
section
variable {X : Cx} {pins : List (Addr × Obj)} {σ : L2.St} {H : Hp} {s : Shared} {t it q a : Addr} {ys : List V} {k : Nat} {f : Str} {C : Addr}
def Old (H : Hp) (it : Addr) : Prop := ∀ b o, H b = some o → b < it
def spItF (K : PySem.W.Frag) (f : Str) : Sp := fun vs H Q _ => ∃ (a C dx t p : Addr) (ys : List V), vs = [V.ref a] ∧ Slt H a C dx [some (.ref t)] ∧ SCls K C ∧ Slot1 K C f p 0 ∧ SqT K H t ys ∧ ∀ it, H it = none → Old H it → Q (.ref it) (upd H it (TItO t it 0))
def MItF (P : Program) (w : World) (K : PySem.W.Frag) (mg : Str → Option Value) (base : Heap) (k : Nat) (f : Str) (C : Addr) : Prop := ∃ (g : Addr) (fd : FuncData) (ps : List Str) (p : Addr), SCls K C ∧ Slot1 K C f p 0 ∧ Meth K C "__iter__" g ∧ FnOk P w K mg base (L2.CX P w) k g fd ps (spItF K f) ∧ Binds K fd ps []
theorem MItF.mono {P : Program} {w : World} {K : PySem.W.Frag} {mg : Str → Option Value} {base : Heap} {j k : Nat} (M : MItF P w K mg base j f C) (h : j ≤ k) : MItF P w K mg base k f C := by
  obtain ⟨g, fd, ps, p, h1, h2, h3, h4, h5⟩ := M
  exact ⟨g, fd, ps, p, h1, h2, h3, h4.mono h, h5⟩
end
end DW

set_option Elab.async false
set_option linter.all false
set_option maxRecDepth 100000
namespace DW
open PySem PySem.Spec PyProof.Rows L2 StX SlX ClX
def Trp (h : Heap) (v : Value) (x y : Int) (c : Addr) : Prop := ∃ a o t u n, v = .ref a ∧ h.get? a = some o ∧ o.cls = .type "tuple" ∧ o.data = .seq #[.int x t, .int y u, .ref c] n
theorem Trp.keeps {h h' : Heap} {v : Value} {x y : Int} {c : Addr} (p : Trp h v x y c) (k : ∀ b o, h.get? b = some o → o.cls = .type "tuple" → h'.get? b = some o) : Trp h' v x y c := by
  obtain ⟨a, o, t, u, n, e, h1, h2, h3⟩ := p
  exact ⟨a, o, t, u, n, e, k a o h1 h2, h2, h3⟩
end DW

set_option Elab.async false
set_option linter.all false
set_option maxRecDepth 100000
namespace DW
open PySem PySem.Spec PyProof.Rows L2
def ddY {α : Type} : List Addr → Nat → (List Addr → Nat → α) → α
  | [], m, k => k [] m
  | a :: r, m, k => match Nat.beq (Nat.land (Nat.shiftRight m a) 1) 0 with
    | true => HandSHeadRun.frNat (Nat.lor m (Nat.shiftLeft 1 a)) fun m' => ddY r m' fun as m'' => k (a :: as) m''
    | false => ddY r m k
def goY (g : Addr → Option Obj) : Nat → List Addr → Nat → List Addr
  | 0, as, _ => as
  | n + 1, as, m => as ++ ddY (nxZ g as) m fun bs m' => goY g n bs m'
def asY (g : Addr → Option Obj) (n : Nat) : List Addr := PySem.cStatics :: goY g n [mainGlobals] (Nat.shiftLeft 1 mainGlobals)
def obsY (P : Program) (n : Nat) (t : Top) (g : Addr → Option Obj) : AlX := t.obs P (He.frG g (asY g n))
def hookY (P : Program) (n : Nat) (t : Top) : PySem.W.Hook where
  α := AlX
  obs := fun s => obsY P n t s.heap.get?
  val := fun _ => t.val
  says := fun _ h => ∃ K : PySem.W.Frag, K.In h ∧ t.obs P K = t.val
  of := fun _ _ e => ⟨_, He.frG_in, e⟩
  keeps := fun _ _ _ ⟨K, hK, c⟩ k => ⟨K, PySem.W.Frag.In.keeps hK k, c⟩
theorem obsY_eq {P : Program} {n : Nat} {t : Top} {g : Addr → Option Obj} {s : Shared} (h : ∀ a, g a = s.heap.get? a) : obsY P n t g = (hookY P n t).obs s := by
  have e : g = s.heap.get? := funext h
  rw [e] <;> rfl
def KY (n : Nat) (s : PySem.W.SharedT) : PySem.W.Frag := He.frG (HandSHeadRun.getT s) (asY (HandSHeadRun.getT s) n)
def PcEq (r : PySem.W.OpenRow) (M : Nat) {β : Type} (f : PySem.W.SharedT → β) (v : β) (w : World) : Prop :=
  ∀ os : OsState, (HandSHeadRun.endF (HandSHeadRun.stepQ (HandSHeadRun.denQ HandSHeadRun.tabQ) r.prog w) M r.prog w os).map f = some v
noncomputable def lkY (r : PySem.W.OpenRow) (q : Program) (loose : List PySem.Str) (w : World) (s : PySem.W.SharedT) :=
  (HandSHeadRun.looksF r.prog (PySem.W.boot_heap w.params) s.abs, HandSHeadRun.seenQ q loose (PySem.importedModules r.prog.main.body) (fun s => PySem.W.xlAt q [] s && PySem.W.recOk r.toRowW.records s) s.abs)
def fnO (l : List He.DefD) (K : PySem.W.Frag) : Bool × List He.FnW := (l.all fun d => d.ok K, l.map fun d => He.fnW K d.at_)
def fnV (l : List He.DefD) : Bool × List He.FnW := (true, l.map He.DefD.val)
def fxO (P : Program) (l : List DefX) (K : PySem.W.Frag) := (l.map fun d => d.ok P K, l.map fun d => fnWX K d.at_)
def fxV (l : List DefX) := (l.map fun _ => true, l.map DefX.val)
def fpO (l : List DefP) (K : PySem.W.Frag) := (l.map fun d => d.ok K, l.map fun d => fnWP K (d.ad K))
def fpV (l : List DefP) := (l.map fun _ => true, l.map DefP.val)
def faO (l : List He.Fa) (K : PySem.W.Frag) : Bool := l.all fun f => f.ok K
def exO (l : List (PySem.W.Frag → Bool)) (K : PySem.W.Frag) : List Bool := l.map fun e => e K
def exV (l : List (PySem.W.Frag → Bool)) : List Bool := l.map fun _ => true
theorem all_cut {α : Type} {p : α → Bool} {l : List α} (n : Nat) (h1 : (l.take n).all p = true) (h2 : (l.drop n).all p = true) : l.all p = true := by
  rw [← List.take_append_drop n l, List.all_append, h1, h2] <;> rfl
theorem map_cut {α β : Type} {f g : α → β} {l : List α} (n : Nat) (h1 : (l.take n).map f = (l.take n).map g) (h2 : (l.drop n).map f = (l.drop n).map g) : l.map f = l.map g := by
  rw [← List.take_append_drop n l, List.map_append, List.map_append, h1, h2]
theorem fn_cut {l : List He.DefD} {K : PySem.W.Frag} (n : Nat) (h1 : fnO (l.take n) K = fnV (l.take n)) (h2 : fnO (l.drop n) K = fnV (l.drop n)) : fnO l K = fnV l :=
  Prod.ext (all_cut n (Prod.mk.inj h1).1 (Prod.mk.inj h2).1) (map_cut n (Prod.mk.inj h1).2 (Prod.mk.inj h2).2)
theorem top_of {P : Program} {t : Top} {K : PySem.W.Frag} (h1 : faO t.fa K = true) (h2 : fnO t.fn K = fnV t.fn) (h3 : fxO P t.fx K = fxV t.fx) (h4 : exO t.ex K = exV t.ex) (h5 : fpO t.fp K = fpV t.fp) : t.obs P K = t.val := by
  obtain ⟨a1, a2⟩ := Prod.mk.inj h2
  obtain ⟨b1, b2⟩ := Prod.mk.inj h3
  obtain ⟨b3, b4⟩ := Prod.mk.inj h5
  have h4' : (t.ex.map fun e => e K) = t.ex.map fun _ => true := h4
  have h1' : (t.fa.all fun f => f.ok K) = true := h1
  unfold Top.obs Top.val He.obsD He.valD
  rw [h1', a1, a2, h4', b1, b2, b3, b4] <;> rfl
theorem run_of {r : PySem.W.OpenRow} {q : Program} {n : Nat} {tp : Top} {M : Nat} {loose : List PySem.Str} {w : World}
    (h0 : ∀ os : OsState, ∃ s, HandSHeadRun.endF (HandSHeadRun.stepQ (HandSHeadRun.denQ HandSHeadRun.tabQ) r.prog w) M r.prog w os = some s)
    (h1 : ∀ os s, HandSHeadRun.endF (HandSHeadRun.stepQ (HandSHeadRun.denQ HandSHeadRun.tabQ) r.prog w) M r.prog w os = some s → lkY r q loose w s = (true, PySem.W.openGood q loose) ∧ tp.obs r.prog (KY n s) = tp.val) :
    HandSHeadRun.RunEq r q (hookY r.prog n tp) (fun s => obsY r.prog n tp (HandSHeadRun.getT s)) M loose w := by
  intro os
  obtain ⟨s, e⟩ := h0 os
  obtain ⟨v, t⟩ := h1 os s e
  obtain ⟨v1, v2⟩ := Prod.mk.inj v
  rw [e]
  show some (_, _, tp.obs r.prog (KY n s)) = some (true, PySem.W.openGood q loose, tp.val)
  rw [t]
  exact congrArg some (Prod.ext v1 (Prod.ext v2 rfl))
theorem PcEq.ran {r : PySem.W.OpenRow} {M : Nat} {β : Type} {f : PySem.W.SharedT → β} {v : β} {w : World} (h : PcEq r M f v w) (os : OsState) : ∃ s, HandSHeadRun.endF (HandSHeadRun.stepQ (HandSHeadRun.denQ HandSHeadRun.tabQ) r.prog w) M r.prog w os = some s := by
  obtain ⟨s, e, _⟩ := Option.map_eq_some_iff.mp (h os)
  exact ⟨s, e⟩
theorem PcEq.at {r : PySem.W.OpenRow} {M : Nat} {β : Type} {f : PySem.W.SharedT → β} {v : β} {w : World} (h : PcEq r M f v w) {os : OsState} {s : PySem.W.SharedT} (e : HandSHeadRun.endF (HandSHeadRun.stepQ (HandSHeadRun.denQ HandSHeadRun.tabQ) r.prog w) M r.prog w os = some s) : f s = v := by
  have h1 := h os
  rw [e] at h1
  exact Option.some.inj h1
end DW

set_option Elab.async false
set_option linter.all false
set_option maxRecDepth 100000
namespace DW
open PySem PySem.Spec PyProof.Rows L2 StX SlX ClX
end DW

set_option Elab.async false
set_option linter.all false
set_option maxRecDepth 100000
namespace DW
open PySem PySem.Spec PyProof.Rows L2 StX SlX ClX
section
variable {K : PySem.W.Frag} {l0 : Addr} {F H F' H' : Hp} {a : Addr} {t : OT}
theorem TreO.go (g : Go l0 F H F' H') (o : TreO K l0 F H a t) : TreO K l0 F' H' a t := by
  obtain ⟨r, nd, e⟩ := o
  refine ⟨r.frm g.ex (fun b m => ?_) fun b m u e => g.keep b u (r.liv b m).2.1 e, nd, e⟩
  obtain ⟨h1, _, o, h3⟩ := r.liv b m
  cases e : F' b with
  | none => rfl
  | some u =>
    have z := g.new b h1 (by rw [e]; exact fun z => nomatch z)
    rw [h3] at z
    cases z
end
end DW

set_option Elab.async false
set_option linter.all false
set_option maxRecDepth 100000
namespace DW
open PySem PySem.Spec PyProof.Rows L2 StX SlX ClX
section
variable {X : Cx} {k : Nat} {f : Str} {C : Addr}
def spItP (K : PySem.W.Frag) (f : Str) : Sp := fun vs H Q _ => ∃ (a C dx t : Addr) (fs : List (Str × V)) (ys : List V), vs = [V.ref a] ∧ H a = some (.ins C dx fs) ∧ Cls K C ∧ NoAttr K C f ∧ fs.lookup f = some (.ref t) ∧ SqT K H t ys ∧ ∀ it, H it = none → Old H it → Q (.ref it) (upd H it (TItO t it 0))
def MItP (P : Program) (w : World) (K : PySem.W.Frag) (mg : Str → Option Value) (base : Heap) (k : Nat) (f : Str) (C : Addr) : Prop := ∃ (g : Addr) (fd : FuncData) (ps : List Str), Cls K C ∧ NoAttr K C f ∧ Meth K C "__iter__" g ∧ FnOk P w K mg base (L2.CX P w) k g fd ps (spItP K f) ∧ Binds K fd ps []
theorem MItP.mono {P : Program} {w : World} {K : PySem.W.Frag} {mg : Str → Option Value} {base : Heap} {j k : Nat} (M : MItP P w K mg base j f C) (h : j ≤ k) : MItP P w K mg base k f C := by
  obtain ⟨g, fd, ps, h1, h2, h3, F, b⟩ := M
  exact ⟨g, fd, ps, h1, h2, h3, F.mono h, b⟩
end
end DW

set_option Elab.async false
set_option linter.all false
set_option maxRecDepth 100000
namespace DW
open PySem PySem.Spec PyProof.Rows L2 StX SlX ClX
end DW

set_option Elab.async false
set_option linter.all false
set_option maxRecDepth 100000
namespace DW
open PySem PySem.Spec PyProof.Rows L2 StX SlX ClX
end DW

set_option Elab.async false
set_option linter.all false
set_option maxRecDepth 100000
set_option maxHeartbeats 2000000
namespace DW
open PySem PySem.Spec PyProof.Rows L2 StX SlX ClX
end DW

set_option Elab.async false
set_option linter.all false
set_option maxRecDepth 100000
namespace PySem
end PySem
namespace DW
open PySem PySem.Spec PyProof.Rows L2 StX SlX ClX
end DW
namespace DW
open PySem PySem.Spec PyProof.Rows L2 StX SlX ClX
end DW

set_option Elab.async false
set_option linter.all false
set_option maxRecDepth 100000
namespace DW
open PySem PySem.Spec PyProof.Rows L2 StX SlX ClX
structure PropSet (K : PySem.W.Frag) (C : Addr) (f : Str) (p g : Addr) : Prop where
  set : PySem.W.findIn K (.ref C) "__setattr__" = some (some (.builtin "object.__setattr__"))
  plain : PySem.W.plainOver K C = true
  tak : PySem.W.takerIn K C f = some (some (.ref p))
  typ : PySem.W.typeIn K (.ref p) = some (.type "property")
  rec_ : ∃ a rest, PySem.W.recIn K p "property" = some (a :: .ref g :: rest)
def MuP (P : Program) (w : World) (K : PySem.W.Frag) (mg : Str → Option Value) (base : Heap) (k : Nat) (f : Str) (C : Addr) (sd : SdX) : Prop := ∃ (p g : Addr) (fd : FuncData) (ps : List Str), Cls K C ∧ PropSet K C f p g ∧ FnOk P w K mg base (L2.CX P w) k g fd ps (spMX K C sd) ∧ Binds K fd ps []
theorem MuP.mono {P : Program} {w : World} {K : PySem.W.Frag} {mg : Str → Option Value} {base : Heap} {j k : Nat} {m : Str} {C : Addr} {sd : SdX} (M : MuP P w K mg base j m C sd) (h : j ≤ k) : MuP P w K mg base k m C sd := by
  obtain ⟨p, g, fd, ps, c, me, F, b⟩ := M
  exact ⟨p, g, fd, ps, c, me, F.mono h, b⟩
end DW
namespace DW
open PySem PySem.Spec PyProof.Rows L2 StX SlX ClX
end DW

set_option Elab.async false
set_option linter.all false
set_option maxRecDepth 100000
namespace DW
open PySem PySem.Spec PyProof.Rows L2 StX SlX
end DW

set_option Elab.async false
set_option linter.all false
set_option maxRecDepth 100000
namespace DW
open PySem PySem.Spec PyProof.Rows L2 StX SlX ClX
abbrev SdR := List Dt → (OT → Prop) → (Xn → Prop) → Prop
def spRt (K : PySem.W.Frag) (sd : SdR) : Sp := fun vs H Q E => ∃ l0 F ds Qd Ed, Base l0 F H ∧ Dens K l0 F vs ds ∧ sd ds Qd Ed ∧
  (∀ v t F' H', Go l0 F H F' H' → TreV K l0 F' H' v t → t.ads.Nodup → (∀ b ∈ t.ads, H b = none) → Qd t → Q v H') ∧ (∀ cls dct x F' H', Go l0 F H F' H' → XDen K l0 F' H' cls dct x → Ed x → E cls dct H')
def FnkRt (P : Program) (w : World) (K : PySem.W.Frag) (mg : Str → Option Value) (base : Heap) (x : Str) (k : Nat) (ps : List Str) (sd : SdR) : Prop :=
  ∃ f fd, mg x = some (.ref f) ∧ PySem.W.keepIn K (.ref f) = true ∧ Binds K fd ps [] ∧ FnOk P w K mg base (L2.CX P w) k f fd ps (spRt K sd)
theorem FnkRt.mono {P : Program} {w : World} {K : PySem.W.Frag} {mg : Str → Option Value} {base : Heap} {x : Str} {j k : Nat} {ps : List Str} {sd : SdR} (M : FnkRt P w K mg base x j ps sd) (h : j ≤ k) : FnkRt P w K mg base x k ps sd := by
  obtain ⟨f, fd, h1, h2, h3, F⟩ := M
  exact ⟨f, fd, h1, h2, h3, F.mono h⟩
abbrev DFR := En → (OT → Prop) → (Xn → Prop) → Prop
section
variable {K : PySem.W.Frag} {l0 : Addr} {F H F' H' : Hp} {v : V} {t : OT}
theorem TreV.go (g : Go l0 F H F' H') (h : TreV K l0 F H v t) : TreV K l0 F' H' v t :=
  h.frm g.ex (fun a m => by obtain ⟨h1, _, o, h3⟩ := h.liv a m; exact g.stays h1 h3) fun a m o e => g.keep a o (h.liv a m).2.1 e
theorem TreVs.go {vs : List V} {ts : List OT} (g : Go l0 F H F' H') (h : TreVs K l0 F H vs ts) : TreVs K l0 F' H' vs ts :=
  h.frm g.ex (fun a m => by obtain ⟨h1, _, o, h3⟩ := h.liv a m; exact g.stays h1 h3) fun a m o e => g.keep a o (h.liv a m).2.1 e
theorem TreVs.snoc (r : TreV K l0 F H v t) : ∀ {vs : List V} {xs : List OT}, TreVs K l0 F H vs xs → TreVs K l0 F H (vs ++ [v]) (xs ++ [t])
  | _, _, .nil => .cons r .nil
  | _, _, .cons h s => .cons h (s.snoc r)
theorem TreVs.split {t2 : List OT} : ∀ {t1 : List OT} {vs : List V}, TreVs K l0 F H vs (t1 ++ t :: t2) → ∃ v1 u v2, vs = v1 ++ u :: v2 ∧ TreVs K l0 F H v1 t1 ∧ TreV K l0 F H u t ∧ TreVs K l0 F H v2 t2
  | [], _, .cons h r => ⟨[], _, _, rfl, .nil, h, r⟩
  | _ :: _, _, .cons h r => by
    obtain ⟨g1, v, g2, e, a, b, c⟩ := TreVs.split r
    subst e
    exact ⟨_ :: g1, v, g2, rfl, .cons h a, b, c⟩
theorem TreVs.app {t2 : List OT} {v2 : List V} (b : TreVs K l0 F H v2 t2) : ∀ {t1 : List OT} {v1 : List V}, TreVs K l0 F H v1 t1 → TreVs K l0 F H (v1 ++ v2) (t1 ++ t2)
  | _, _, .nil => b
  | _, _, .cons h r => .cons h (TreVs.app b r)
theorem TreV.frz {F1 H1 : Hp} (g : Go l0 F H F1 H1) (h : TreV K l0 F1 H1 v t) (n : ∀ b ∈ t.ads, H b = none) : ∃ F2, Go l0 F H F2 H1 ∧ Den K l0 F2 v t.toD := by
  have h0 : ∀ b ∈ t.ads, F b = none := fun b m => by
    cases e : F b with
    | none => rfl
    | some o =>
      cases z : H b with
      | none =>
        have : F1 b = some o := g.ex b o e
        rw [(h.liv b m).1] at this
        cases this
      | some u =>
        rw [n b m] at z
        cases z
  refine ⟨fun a => if a ∈ t.ads then H1 a else F1 a, ⟨⟨fun a o e => ?_, ?_, g.bs.dr⟩, fun a o e => ?_, fun a e1 e2 => ?_, g.keep⟩, h.den (fun a o e => ?_) fun a m => if_pos m⟩
  · by_cases m : a ∈ t.ads
    · have e : (if a ∈ t.ads then H1 a else F1 a) = some o := e
      rw [if_pos m] at e
      exact e
    · have e : (if a ∈ t.ads then H1 a else F1 a) = some o := e
      rw [if_neg m] at e
      exact g.bs.sub a o e
  · show (if l0 ∈ t.ads then H1 l0 else F1 l0) = none
    rw [if_neg fun m => (h.liv l0 m).2.1 rfl]
    exact g.bs.nf
  · show (if a ∈ t.ads then H1 a else F1 a) = some o
    rw [if_neg fun m => by rw [h0 a m] at e; cases e]
    exact g.ex a o e
  · by_cases m : a ∈ t.ads
    · exact n a m
    · have e2 : (if a ∈ t.ads then H1 a else F1 a) ≠ none := e2
      rw [if_neg m] at e2
      exact g.new a e1 e2
  · show (if a ∈ t.ads then H1 a else F1 a) = some o
    rw [if_neg fun m => by rw [(h.liv a m).1] at e; cases e]
    exact e
end
section
variable {X : Cx} {W : WX} {k : Nat} {x f y : Str} {p pos : Pos} {e a : Expr} {es : List Expr} {te xa : TE} {ta : TA} {da : DA} {de : DE} {df : DF} {dr : DFR}
end
inductive CtxL : (OT → OT) → Prop
  | hole : CtxL fun t => t
  | lst {c : OT → OT} (h : CtxL c) (a : Addr) (t1 : List OT) (t2 : List OT) : CtxL fun t => .lst a (t1 ++ c t :: t2)
theorem CtxL.isDat {c : OT → OT} {n' : OT} (h : CtxL c) (z : n'.isDat = false) : (c n').isDat = false := by
  cases h with
  | hole => exact z
  | lst h => rfl
section
variable {K : PySem.W.Frag} {l0 : Addr} {F H F' H' : Hp} {σ : L2.St} {ρ : En} {i : Nat} {c : OT → OT}
theorem CtxL.part (h : CtxL c) : ∀ {v : V} {n : OT}, TreV K l0 F H v (c n) → (c n).ads.Nodup → ∃ u, Part K l0 F H v u c n := by
  induction h with
  | hole => exact fun {v n} t nd => ⟨v, t, nd, fun b m => m, fun n' F' H' e q1 q2 t' nd' q => ⟨t', nd', fun b m => .inr m⟩⟩
  | @lst c h a t1 t2 ih =>
    intro v n t nd
    cases t with
    | lst h1 h2 h3 r =>
      obtain ⟨e1, en, e2, e, r1, rt, r2⟩ := r.split
      subst e
      have ea : ∀ m, (OT.lst a (t1 ++ c m :: t2)).ads = (a :: adsL t1) ++ ((c m).ads ++ adsL t2) := fun m => by
        show a :: adsL (t1 ++ c m :: t2) = _
        rw [adsL_app]
        rfl
      rw [ea] at nd
      have nd2 := nd
      rw [List.nodup_append] at nd2
      have nd3 := nd2.2.1
      rw [List.nodup_append] at nd3
      obtain ⟨u, p⟩ := ih rt nd3.1
      have out : ∀ b, b ∈ (a :: adsL t1) ∨ b ∈ adsL t2 → b ∈ (OT.lst a (t1 ++ c n :: t2)).ads ∧ b ∉ (c n).ads := fun b m => by
        rw [ea]
        rcases m with m | m
        · exact ⟨List.mem_append_left _ m, fun z => nd2.2.2 b m b (List.mem_append_left _ z) rfl⟩
        · exact ⟨List.mem_append_right _ (List.mem_append_right _ m), fun z => nd3.2.2 b z b m rfl⟩
      refine ⟨u, p.at_, p.nd, fun b m => by rw [ea]; exact List.mem_append_right _ (List.mem_append_left _ (p.sub b m)), fun n' F' H' e q1 q2 t' nd' q => ?_⟩
      have inn : ∀ b ∈ (c n).ads, b ∈ (OT.lst a (t1 ++ c n :: t2)).ads := fun b m => by rw [ea]; exact List.mem_append_right _ (List.mem_append_left _ m)
      have far : ∀ b, b ∈ (a :: adsL t1) ∨ b ∈ adsL t2 → F' b = none ∧ ∀ o, H b = some o → H' b = some o := fun b m => by
        obtain ⟨z1, z2⟩ := out b m
        exact ⟨q1 b z1 fun z => z2 (p.sub b z), q2 b z1 fun z => z2 (p.sub b z)⟩
      obtain ⟨p1, p2, p3⟩ := p.put n' F' H' e (fun b m => q1 b (inn b m)) (fun b m => q2 b (inn b m)) t' nd' fun b m => (q b m).imp id fun z y => z (inn b y)
      refine ⟨.lst (far a (.inl List.mem_cons_self)).1 h2 ((far a (.inl List.mem_cons_self)).2 _ h3)
        (TreVs.app (.cons p1 (r2.frm e (fun b m => (far b (.inr m)).1) fun b m => (far b (.inr m)).2)) (r1.frm e (fun b m => (far b (.inl (List.mem_cons_of_mem _ m))).1) fun b m => (far b (.inl (List.mem_cons_of_mem _ m))).2)), ?_, fun b m => ?_⟩
      · rw [ea]
        refine nodup_mid nd p2 fun b m => ?_
        rcases p3 b m with z | z
        · exact .inl z
        · rcases q b z with y | y
          · exact .inl (p.sub b y)
          · rw [ea] at y
            exact .inr y
      · rw [ea] at m
        rcases List.mem_append.mp m with m | m
        · exact .inl (out b (.inl m)).1
        · rcases List.mem_append.mp m with m | m
          · exact (p3 b m).imp (inn b) id
          · exact .inl (out b (.inr m)).1
theorem TreVs.rev : ∀ {vs : List V} {ts : List OT}, TreVs K l0 F H vs ts → TreVs K l0 F H vs.reverse ts.reverse
  | _, _, .nil => .nil
  | _, _, .cons h t => by
    rw [List.reverse_cons, List.reverse_cons]
    exact (TreVs.rev t).snoc h
end
theorem split_at {α : Type} {x : α} : ∀ {ts : List α} {m : Nat}, ts[m]? = some x → ∃ t1 t2, ts = t1 ++ x :: t2 ∧ ∀ y, ts.set m y = t1 ++ y :: t2
  | [], _, h => by simp at h
  | t :: ts, 0, h => by
    simp at h
    subst h
    exact ⟨[], ts, rfl, fun y => rfl⟩
  | t :: ts, m + 1, h => by
    obtain ⟨t1, t2, e, z⟩ := split_at (ts := ts) (m := m) (by simpa using h)
    refine ⟨t :: t1, t2, by rw [e]; rfl, fun y => ?_⟩
    show t :: ts.set m y = _
    rw [z]
    rfl
section
variable {X : Cx} {W : WX} {y : Str} {p kp tp pos : Pos} {e ke ie : Expr} {xe tk xi : TE} {de dk di : DE}
theorem TreVs.get {K : PySem.W.Frag} {l0 : Addr} {F H : Hp} {vs : List V} {ts : List OT} {m : Nat} {t : OT} (r : TreVs K l0 F H vs ts) (h : ts[m]? = some t) : ∃ u, vs[m]? = some u ∧ TreV K l0 F H u t := by
  obtain ⟨t1, t2, e, z⟩ := split_at h
  have em : m = t1.length := by
    have hl : m < ts.length := (List.getElem?_eq_some_iff.mp h).1
    have z1 := congrArg (fun l => l[t1.length]?) (z t)
    rcases Nat.lt_trichotomy m t1.length with q | q | q
    · have z2 := congrArg (fun l => l[m]?) (z (.lst 0 []))
      have z3 := congrArg (fun l => l[m]?) (z (.lst 1 []))
      simp only [List.getElem?_set_self hl, List.getElem?_append_left q] at z2 z3
      rw [← z3] at z2
      cases z2
    · exact q
    · have hl1 : t1.length < ts.length := by omega
      have z2 := congrArg (fun l => l[t1.length]?) (z (.lst 0 []))
      have z3 := congrArg (fun l => l[t1.length]?) (z (.lst 1 []))
      simp only [List.getElem?_set_ne (Nat.ne_of_gt q), List.getElem?_append_right (Nat.le_refl _), Nat.sub_self, List.getElem?_cons_zero] at z2 z3
      rw [z3] at z2
      cases z2
  subst e
  obtain ⟨v1, u, v2, e2, r1, r2, r3⟩ := r.split
  subst e2
  refine ⟨u, ?_, r2⟩
  rw [em, ← r1.length, List.getElem?_append_right (Nat.le_refl _), Nat.sub_self]
  rfl
end
end DW

set_option Elab.async false
set_option linter.all false
set_option maxRecDepth 100000
namespace DW
open PySem PySem.Spec PyProof.Rows L2 StX SlX ClX
abbrev SdP := List Dt → List (Key × Dt) → (Dt → Prop) → Prop
def spP (K : PySem.W.Frag) (sd : SdP) : Sp := fun vs H Q E => ∃ l0 F us a xs ds kvs Qd, vs = us ++ [V.ref a] ∧ Base l0 F H ∧ Dens K l0 F us ds ∧ F a = none ∧ a ≠ l0 ∧ H a = some (.dK xs) ∧ DenK K l0 F xs kvs ∧ sd ds kvs Qd ∧
  ∀ v d F' H', GoT l0 [a] F H F' H' → Den K l0 F' v d → Qd d → Q v H'
def dEndsP (Q : Dt → Prop) : DEnds := { nx := fun _ => False, rt := Q, bk := fun _ => False, ct := fun _ => False, ex := fun _ _ => False }
def startP (n : Nat) (ds : List Dt) (kvs : List (Key × Dt)) : En := (startD n (ds ++ [.v .non])).set ds.length (.odc kvs)
section
variable {K : PySem.W.Frag} {l0 : Addr} {F H F' H' : Hp} {σ : L2.St} {ρ : En} {i : Nat} {a : Addr}
theorem startP_eq {n : Nat} {ds : List Dt} {kvs : List (Key × Dt)} (d : Dt) : startP n ds kvs = (startD n (ds ++ [d])).set ds.length (.odc kvs) := by
  have key : ∀ d : Dt, (startD n (ds ++ [d])).set ds.length (.odc kvs) = ds.map Sl.dat ++ (Sl.odc kvs :: List.replicate (n - (ds.length + 1)) .emp) := fun d => by
    unfold startD
    rw [List.map_append, List.length_append, List.length_singleton, List.append_assoc, List.set_append_right _ _ (by rw [List.length_map]; exact Nat.le_refl _), List.length_map, Nat.sub_self]
    rfl
  unfold startP
  rw [key, key]
theorem Stt.own1 {xs : List (Key × V)} {kvs : List (Key × Dt)} (S : Stt K l0 F H σ ρ) (no : ∀ (j : Nat) (s : Sl), ρ[j]? = some s → s.isOwn = true → False) (h : ρ[i]? = some (.dat (.v (.ref a)))) (h1 : F a = none) (h2 : a ≠ l0) (h3 : H a = some (.dK xs)) (r : DenK K l0 F xs kvs) : Stt K l0 F H σ (ρ.set i (.odc kvs)) ∧ σ[i]? = some (some (.ref a)) := by
  have hσ : σ[i]? = some (some (.ref a)) := by
    rcases S.sl i _ h with z | ⟨v, e, r⟩
    · cases z
    · have r : Den K l0 F v (.v (.ref a)) := r
      cases r
      exact e
  have hl := (List.getElem?_eq_some_iff.mp h).1
  have one : ∀ (j : Nat) (s : Sl), (ρ.set i (.odc kvs))[j]? = some s → s.isOwn = true → i = j := fun j s h o => by
    by_cases c : i = j
    · exact c
    · rw [List.getElem?_set_ne c] at h
      exact (no j s h o).elim
  refine ⟨⟨S.bs, by rw [List.length_set]; exact S.len, fun j s e => ?_, fun j k s t b e1 e2 w1 w2 => (one j s e1 w1.1).symm.trans (one k t e2 w2.1)⟩, hσ⟩
  by_cases c : i = j
  · subst c
    rw [List.getElem?_set_self hl] at e
    cases e
    exact .inr ⟨_, hσ, a, xs, rfl, h1, h2, h3, r⟩
  · rw [List.getElem?_set_ne c] at e
    exact S.sl j s e
theorem startD_no {n : Nat} {ds : List Dt} : ∀ (j : Nat) (s : Sl), (startD n ds)[j]? = some s → s.isOwn = true → False := fun j s h o => startD_plain h o
end
theorem fn_dP {P : Program} {w : World} {K : PySem.W.Frag} {mg : Str → Option Value} {base : Heap} {x qual : Str} {params : Arguments} {body : List Stmt} {scope : Scope} {dvs : List V} {kws : List (Str × V)} {f : Addr} {fd : FuncData} {N ps : List Str} {k : Nat} {sd : SdP} {ds : DS}
    (F : FunD K x qual params body scope dvs kws f fd) (S : FnScope N ps scope) (len : ∀ as kvs Q, sd as kvs Q → as.length + 1 = ps.length ∧ as.length + 1 ≤ N.length)
    (hb : ∀ (cdv : Value) (A : Around) (outer : List Env) (s : Shared) (H : Hp) (E : XK), Room k (A.deeper (envOfC qual scope s.heap.objs.size f cdv)) →
      ∃ ts, DSSX (cxOf (L2.CX P w) P w K mg base N qual scope f cdv A outer s H E) (fun cls d _ H => E cls d H) body ts ds)
    (hp : ∀ as kvs Q, sd as kvs Q → ds (dEndsP Q) (startP N.length as kvs)) : FnOk P w K mg base (L2.CX P w) (k + 1) f fd ps (spP K sd) := by
  refine F.ok S (fun vs H Q E h => ?_) fun cdv A outer s H vs Q E hr h => ?_
  · obtain ⟨l0, F, us, a, xs, as, kvs, Qd, e, b, r, _, _, _, _, h, _⟩ := h
    rw [e, List.length_append, List.length_singleton, r.length]
    exact (len as kvs Qd h).1
  · obtain ⟨l0, F, us, a, xs, as, kvs, Qd, e, b, r, h1, h2, h3, r2, h, hq⟩ := h
    subst e
    obtain ⟨ts, p, sd⟩ := hb cdv A outer s H E hr
    have S0 := Stt.start (N := N) b (r.append (Dens.one (Den.v (K := K) (l0 := l0) (F := F) (.ref a))))
    have at_ : (startD N.length (as ++ [.v (.ref a)]))[as.length]? = some (.dat (.v (.ref a))) := by
      unfold startD
      rw [List.map_append, List.append_assoc, List.getElem?_append_right (by rw [List.length_map]; exact Nat.le_refl _), List.length_map, Nat.sub_self]
      rfl
    obtain ⟨S1, hσ⟩ := S0.own1 startD_no at_ h1 h2 h3 r2
    rw [← startP_eq] at S1
    have ow : ∀ c, Ow (L2.start N (us ++ [.ref a])) (startP N.length as kvs) c → c ∈ [a] := fun c ⟨i, s, e1, o1, e2⟩ => by
      rw [startP_eq (.v (.ref a))] at e1
      by_cases q : as.length = i
      · subst q
        rw [List.getElem?_set_self (List.getElem?_eq_some_iff.mp at_).1] at e1
        cases e1
        rcases e2 with e2 | e2
        · rw [hσ] at e2
          cases e2
          exact List.mem_singleton.mpr rfl
        · exact nomatch e2
      · rw [List.getElem?_set_ne q] at e1
        exact (startD_no i s e1 o1).elim
    refine ⟨ts, p, sd _ _ (hp as kvs Qd h) l0 F H _ S1 _ ⟨fun F' H' σ' ρ' g w S' q => q.elim, fun F' H' v d g r q => ?_, fun F' H' σ' ρ' g w S' q => q.elim, fun F' H' σ' ρ' g w S' q => q.elim, fun cls d x F' H' σ' ρ' g w S' r q => q.elim, fun F' H' σ' ρ' v d g w S' r q => q.elim⟩⟩
    exact hq v d F' H' ⟨g.bs, g.ex, fun b e1 e2 => (g.new b e1 e2).imp id (ow b), fun b o n1 n2 e => g.keep b o n1 (fun z => n2 (ow b z)) e⟩ r q
def FnkP (P : Program) (w : World) (K : PySem.W.Frag) (mg : Str → Option Value) (base : Heap) (x : Str) (k : Nat) (ps : List Str) (sd : SdP) : Prop :=
  ∃ f fd, mg x = some (.ref f) ∧ PySem.W.keepIn K (.ref f) = true ∧ Binds K fd ps [] ∧ FnOk P w K mg base (L2.CX P w) k f fd ps (spP K sd)
theorem fnkp_by {P : Program} {w : World} {K : PySem.W.Frag} {mg : Str → Option Value} {base : Heap} {x : Str} {st : Stmt} {N ps : List Str} {k : Nat} {sd : SdP} {ds : DS} (D : DefAt K mg x st) (S : FnScope N ps (defScope st)) (len : ∀ as kvs Q, sd as kvs Q → as.length + 1 = ps.length ∧ as.length + 1 ≤ N.length)
    (hbd : ∀ (kV doc pm : Value) (an : Option Addr) (cdv ct : Value) (us : List Value), us.length = ps.length → bindArgs (PySem.W.fnOf x x (defArgs st) (defBody st) (defScope st) .none kV doc pm an cdv ct) ⟨us, []⟩ = pure (ps.zip us))
    (hb : ∀ (X : Cx) (W : WX) (f : Addr) (cdv : Value) (A : Around) (outer : List Env) (s : Shared) (H : Hp) (E : XK), X = cxOf (L2.CX P w) P w K mg base N x (defScope st) f cdv A outer s H E → W = WX0 E → Takes (cxOf (L2.CX P w) P w K mg base N x (defScope st) f cdv A outer s H E) (WX0 E) → PassesOwn (model P w) (cxOf (L2.CX P w) P w K mg base N x (defScope st) f cdv A outer s H E).A (cxOf (L2.CX P w) P w K mg base N x (defScope st) f cdv A outer s H E).env (cxOf (L2.CX P w) P w K mg base N x (defScope st) f cdv A outer s H E).xe →
      Room k (cxOf (L2.CX P w) P w K mg base N x (defScope st) f cdv A outer s H E).A → (cxOf (L2.CX P w) P w K mg base N x (defScope st) f cdv A outer s H E).A.units + 64 < cLine → N.Nodup →
      ∃ ts, DSSX (cxOf (L2.CX P w) P w K mg base N x (defScope st) f cdv A outer s H E) (WX0 E) (defBody st) ts ds)
    (hp : ∀ as kvs Q, sd as kvs Q → ds (dEndsP Q) (startP N.length as kvs)) : FnkP P w K mg base x (k + 1) ps sd := by
  obtain ⟨f, fd, h1, F⟩ := D
  exact ⟨f, fd, h1, F.kp, FunD.bindsN F (fun kV doc pm an cdv ct us hl => hbd kV doc pm an cdv ct us hl), fn_dP F S len (fun cdv A outer s H E hr => hb _ _ f cdv A outer s H E rfl rfl tk_cx po_cx hr hr.units S.nd) hp⟩
def dCallP (i : Nat) (sd : SdP) (de : DE) : DS := fun D ρ => de ρ (datS fun d0 => NoDct d0 ∧ ∃ kvs, ρ[i]? = some (.dat (.dct kvs)) ∧ (∀ x ∈ kvs, NoDct x.2) ∧ (∀ j t, j ≠ i → ρ[j]? = some t → NoDS t) ∧ sd [d0] kvs fun d => D.nx (ρ.set i (.dat d))) fun x => D.ex x ρ
section
variable {X : Cx} {W : WX} {k : Nat} {f x : Str} {p p1 p2 pos spos : Pos} {e : Expr} {te : TE} {de : DE} {ps : List Str} {sd : SdP}
theorem dsl_callP (i : Nat) (hNd : X.N.Nodup) (Cf : FnkP X.prog X.w X.K X.mg X.base f k ps sd) (tk : Takes X W) (hr : Room k X.A) (hg : Gl X f) (he : DEX X W e te de) (hi : X.N[i]? = some x := by rfl) (hv : Vis X.env.scope x := by first | exact Or.inl rfl | exact Or.inr (Or.inl rfl) | exact Or.inr (Or.inr rfl)) (hd : (x == ("__debug__" : Str)) = false := by decide)
    (hcd : (x == ("__classdict__" : Str)) = false := by decide) (hx : Loc X.env.scope x := by first | exact .inl rfl | exact .inr rfl)
    (hf : X.fn x = true ∨ X.env.scope.names.lookup x = some .local := by first | exact .inl rfl | exact .inr rfl | assumption)
    (hdb : (f == ("__debug__" : Str)) = false := by decide) (hst : starEach (e :: [.Name x p1]) X.env = (false, eval e X.env) :: starEach [.Name x p1] X.env := by rfl) (hst2 : starEach [.Name x p1] X.env = (false, eval (.Name x p1) X.env) :: starEach [] X.env := by rfl) (hpl : (backTo pos (starEach [.Name x p1] X.env)).any (·.1) = false := by rfl)
    (hs : swapsWithSole [.Name x p] (.Call (.Name f p2) (e :: [.Name x p1]) [] pos) spos.line X.env = pure false := by rfl) (hw : swappedStores [.Name x p] (.Call (.Name f p2) (e :: [.Name x p1]) [] pos) X.env = pure none := by rfl) :
    DSL X W (.Assign [.Name x p] (.Call (.Name f p2) (e :: [.Name x p1]) [] pos) spos) (tAsg (tCallSD (spP X.K sd) [] (WE W) (tCons te (tCons (tVar i) tNil))) (gName i)) (dCallP i sd de) := by
  obtain ⟨fa, fd, h1, h2, h3, F0⟩ := Cf
  refine ⟨ps_asg (pe_callSD F0 hr hg h1 h2 h3 .nil (fun σ => passAt tk σ) (pa_cons he.1 (pa_cons (pe_var hi hv hd hcd) pa_nil hst2) hst) hdb hst hpl) (pg_name hNd hi hx hf) hs hw, fun D ρ h l0 F H σ S C L => ?_⟩
  refine he.2 ρ _ _ h l0 F H σ S _ (fun v0 s F1 H1 g1 r1 q1 => ?_) (L.lnk.kx S)
  obtain ⟨d0, e0, n0, kvs, hρ, ni, no, q⟩ := datS_of q1
  subst e0
  have S1 := S.go g1
  rcases S1.sl i _ hρ with z | ⟨y, hσ, ry⟩
  · cases z
  have ry : Den X.K l0 F1 y (.dct kvs) := ry
  have r1 : Den X.K l0 F1 v0 d0 := r1
  cases ry with
  | dct hF rk =>
    rename_i a xs
    have hH := g1.bs.sub _ _ hF
    have ne : a ≠ l0 := fun z => by rw [z, g1.bs.nf] at hF; cases hF
    refine ⟨_, hσ, ?_⟩
    have eF : ∀ b, (fun b => if b = a then none else F1 b) b = if b = a then none else F1 b := fun _ => rfl
    have m : ∀ b o, F1 b = some o → (∀ ys, o ≠ .dK ys) → (fun b => if b = a then none else F1 b) b = some o := fun b o e n => by
      have nb : b ≠ a := fun z => by
        rw [z, hF] at e
        cases e
        exact n xs rfl
      rw [eF, if_neg nb]
      exact e
    have bs : Base l0 (fun b => if b = a then none else F1 b) H1 := by
      refine ⟨fun b o e => ?_, (if_neg ne.symm).trans g1.bs.nf, g1.bs.dr⟩
      have e : (if b = a then none else F1 b) = some o := e
      by_cases c : b = a
      · rw [if_pos c] at e
        cases e
      · rw [if_neg c] at e
        exact g1.bs.sub b o e
    refine ⟨l0, _, [v0], a, xs, [d0], kvs, _, rfl, bs, Dens.one (Den.mv m n0 r1), if_pos rfl, ne, hH, DenK.mv m ni rk, q, fun v d F' H' g r q2 => ?_⟩
    have none_own : ∀ (j : Nat) (s : Sl), (ρ.set i (.dat d))[j]? = some s → s.isOwn = true → False := fun j s h o => by
      by_cases c : i = j
      · subst c
        rw [List.getElem?_set_self (List.getElem?_eq_some_iff.mp hρ).1] at h
        cases h
        cases o
      · rw [List.getElem?_set_ne c] at h
        rw [(no j s (fun z => c z.symm) h).own] at o
        cases o
    refine L.nx l0 F' H' _ _ ⟨g.bs, by rw [List.length_set, List.length_set]; exact S1.len, fun j s h => ?_, fun j k' s t b h1 h2 o1 _ => (none_own j s h1 o1.1).elim⟩ q2
    by_cases c : i = j
    · subst c
      rw [List.getElem?_set_self (List.getElem?_eq_some_iff.mp hρ).1] at h
      cases h
      exact .inr ⟨v, by rw [List.getElem?_set_self (List.getElem?_eq_some_iff.mp hσ).1], r⟩
    · rw [List.getElem?_set_ne c] at h ⊢
      have n := no j s (fun z => c z.symm) h
      rcases S1.sl j s h with z | ⟨w, e1, r3⟩
      · exact .inl z
      · refine .inr ⟨w, e1, ?_⟩
        cases s with
        | emp => exact r3
        | dat dd => exact Den.mono g.ex (Den.mv m (show NoDct dd from n) r3)
        | own ds => exact n.elim
        | oob p C fs => exact n.elim
        | odc kvs => exact n.elim
        | tre t => exact n.elim
end
end DW

set_option Elab.async false
set_option linter.all false
set_option maxRecDepth 100000
namespace DW
open PySem PySem.Spec PyProof.Rows L2
structure ExcM0 (K : PySem.W.Frag) (mg : Str → Option Value) (x : Str) (C : Addr) : Prop where
  oc : OexC K C
  q : PySem.W.excIn K C PySem.HandSPX.veTail "ValueError.__new__" = true
  m : mg x = some (.ref C)
def dRaise0 (C : Addr) : DS := fun D ρ => D.ex ⟨C, []⟩ ρ
theorem ds_raise0 {X : Cx} {W : WX} {C : Addr} {x m : Str} {j : Nat} {p p2 pos pos' : Pos} (M : ExcM0 X.K X.mg x C) (hc : X.calm = true) (tk : Takes X W) (hg : Gl X x) (hdb : (x == ("__debug__" : Str)) = false := by decide) :
    DSX X W (.Raise (some (.Call (.Name x p) [.Constant (.str m) j p2] [] pos)) none pos') (fun _ σ H => W (.ref C) none σ H) (dRaise0 C) :=
  ⟨ps_raise hc tk (pmk_own PySem.F.excBase_ValueError M.q M.m M.oc.kC (raises_own M.oc.exC M.oc.tyC) hg hdb), fun D ρ h l0 F H σ S Cn L => L.ex (.ref C) none ⟨C, []⟩ F H σ ρ (.of (.refl S.bs)) .refl S ⟨rfl, .inl ⟨rfl, rfl⟩⟩ h⟩
end DW

set_option Elab.async false
set_option linter.all false
set_option maxRecDepth 100000
set_option maxHeartbeats 4000000
namespace Lw
open PySem PySem.Spec PyProof.Rows L2 DW
structure Kl where
  ReadError : Addr
  BadStretch : Addr
  BadText : Addr
  BadPace : Addr
  Contradiction : Addr
  NoKey : Addr
  Impossible : Addr
  TooMany : Addr
  Stretches : Addr
  Promise : Addr
  OneToOne : Addr
  Known : Addr
  Pace : Addr
def iss_Stretches (kl : Kl) : List (Addr × Bool) := [(kl.Stretches, true)]
def exm_ReadError (kl : Kl) : List (Addr × Bool) := [(kl.ReadError, true), (kl.BadStretch, true), (kl.BadText, true), (kl.BadPace, true), (kl.Contradiction, true), (kl.NoKey, true), (kl.Impossible, true), (kl.TooMany, true)]
def exm_Impossible (kl : Kl) : List (Addr × Bool) := [(kl.ReadError, false), (kl.BadStretch, false), (kl.BadText, false), (kl.BadPace, false), (kl.Contradiction, false), (kl.NoKey, false), (kl.Impossible, true), (kl.TooMany, false)]
def exm_NoKey (kl : Kl) : List (Addr × Bool) := [(kl.ReadError, false), (kl.BadStretch, false), (kl.BadText, false), (kl.BadPace, false), (kl.Contradiction, false), (kl.NoKey, true), (kl.Impossible, false), (kl.TooMany, false)]
def exm_Contradiction (kl : Kl) : List (Addr × Bool) := [(kl.ReadError, false), (kl.BadStretch, false), (kl.BadText, false), (kl.BadPace, false), (kl.Contradiction, true), (kl.NoKey, false), (kl.Impossible, false), (kl.TooMany, false)]
def exm_BadStretch (kl : Kl) : List (Addr × Bool) := [(kl.ReadError, false), (kl.BadStretch, true), (kl.BadText, false), (kl.BadPace, false), (kl.Contradiction, false), (kl.NoKey, false), (kl.Impossible, false), (kl.TooMany, false)]
def isx_ValueError (kl : Kl) : List (Addr × Bool) := [(kl.ReadError, true), (kl.BadStretch, true), (kl.BadText, true), (kl.BadPace, true), (kl.Contradiction, true), (kl.NoKey, true), (kl.Impossible, true), (kl.TooMany, true)]
def isx_ReadError (kl : Kl) : List (Addr × Bool) := [(kl.ReadError, true), (kl.BadStretch, true), (kl.BadText, true), (kl.BadPace, true), (kl.Contradiction, true), (kl.NoKey, true), (kl.Impossible, true), (kl.TooMany, true)]
def is_Stretches (kl : Kl) : List (Addr × Bool) := [(kl.Promise, false), (kl.OneToOne, false), (kl.Known, false), (kl.Pace, false)]
def oD : Option Int → Dt
  | none => .non
  | some n => .v (.int n)

abbrev Pr := Int × Int
def In (ps : List Pr) (x : Int) : Prop := ∃ p ∈ ps, p.1 ≤ x ∧ x ≤ p.2
theorem In_nil (x : Int) : ¬ In [] x := fun ⟨_, h, _⟩ => by cases h
theorem In_cons {p : Pr} {ps : List Pr} {x : Int} : In (p :: ps) x ↔ (p.1 ≤ x ∧ x ≤ p.2) ∨ In ps x := by
  constructor
  · rintro ⟨q, h, h2⟩
    rcases List.mem_cons.mp h with e | h
    · subst e
      exact .inl h2
    · exact .inr ⟨q, h, h2⟩
  · rintro (h | ⟨q, h, h2⟩)
    · exact ⟨p, List.mem_cons_self, h⟩
    · exact ⟨q, List.mem_cons_of_mem _ h, h2⟩
theorem In_append {ps qs : List Pr} {x : Int} : In (ps ++ qs) x ↔ In ps x ∨ In qs x := by
  constructor
  · rintro ⟨q, h, h2⟩
    rcases List.mem_append.mp h with h | h
    · exact .inl ⟨q, h, h2⟩
    · exact .inr ⟨q, h, h2⟩
  · rintro (⟨q, h, h2⟩ | ⟨q, h, h2⟩)
    · exact ⟨q, List.mem_append_left _ h, h2⟩
    · exact ⟨q, List.mem_append_right _ h, h2⟩
theorem In_perm {ps qs : List Pr} (e : ps.Perm qs) (x : Int) : In ps x ↔ In qs x := ⟨fun ⟨p, h, h2⟩ => ⟨p, e.mem_iff.mp h, h2⟩, fun ⟨p, h, h2⟩ => ⟨p, e.mem_iff.mpr h, h2⟩⟩
theorem In_reverse {ps : List Pr} (x : Int) : In ps.reverse x ↔ In ps x := In_perm (List.reverse_perm ps) x
def Ok (ps : List Pr) : Prop := ∀ p ∈ ps, p.1 ≤ p.2
def Lim (ps : List Pr) : Prop := ∀ p ∈ ps, -(10 ^ 18) ≤ p.1 ∧ p.2 ≤ 10 ^ 18
def NF (ps : List Pr) : Prop := Ok ps ∧ ps.Pairwise fun p q => p.2 + 1 < q.1
theorem NF.tail {p : Pr} {ps : List Pr} (h : NF (p :: ps)) : NF ps := ⟨fun q m => h.1 q (List.mem_cons_of_mem _ m), (List.pairwise_cons.mp h.2).2⟩
theorem NF.far {p : Pr} {ps : List Pr} (h : NF (p :: ps)) {x : Int} (i : In ps x) : p.2 + 1 < x := by
  obtain ⟨q, m, h1, h2⟩ := i
  have := (List.pairwise_cons.mp h.2).1 q m
  omega
theorem NF.low {p : Pr} {ps : List Pr} (h : NF (p :: ps)) {x : Int} (i : In (p :: ps) x) : p.1 ≤ x := by
  rcases In_cons.mp i with i | i
  · exact i.1
  · have := h.far i
    have := h.1 p List.mem_cons_self
    omega
def push (acc : List Pr) (p : Pr) : List Pr := match acc with
  | [] => [p]
  | b :: t => if p.1 ≤ b.2 + 1 then (b.1, max b.2 p.2) :: t else p :: b :: t
def RNF (acc : List Pr) : Prop := Ok acc ∧ acc.Pairwise fun q p => p.2 + 1 < q.1
theorem RNF.nf {acc : List Pr} (h : RNF acc) : NF acc.reverse := ⟨fun p m => h.1 p (List.mem_reverse.mp m), List.pairwise_reverse.mpr h.2⟩
theorem push_ok {acc : List Pr} {p : Pr} (h : RNF acc) (hp : p.1 ≤ p.2) (hl : ∀ b t, acc = b :: t → b.1 ≤ p.1) : RNF (push acc p) ∧ (∀ x, In (push acc p) x ↔ In acc x ∨ (p.1 ≤ x ∧ x ≤ p.2)) ∧ (∀ b t, push acc p = b :: t → b.1 ≤ p.1) ∧ (push acc p).length ≤ acc.length + 1 := by
  cases acc with
  | nil =>
    refine ⟨⟨fun q m => ?_, List.pairwise_singleton _ _⟩, fun x => ?_, fun b t e => ?_, by simp [push]⟩
    · have e : q = p := by simpa [push] using m
      rw [e]
      exact hp
    · rw [show push [] p = [p] from rfl, In_cons]
      simp [In_nil]
    · cases e
      exact Int.le_refl _
  | cons b t =>
    have hb := hl b t rfl
    have ob := h.1 b List.mem_cons_self
    obtain ⟨h2, h3⟩ := List.pairwise_cons.mp h.2
    unfold push
    by_cases q : p.1 ≤ b.2 + 1
    · simp only [if_pos q]
      refine ⟨⟨fun r m => ?_, List.pairwise_cons.mpr ⟨fun r m => h2 r m, h3⟩⟩, fun x => ?_, fun c u e => ?_, by simp⟩
      · rcases List.mem_cons.mp m with e | m
        · subst e
          show b.1 ≤ max b.2 p.2
          omega
        · exact h.1 r (List.mem_cons_of_mem _ m)
      · rw [In_cons, In_cons]
        show (b.1 ≤ x ∧ x ≤ max b.2 p.2) ∨ _ ↔ _
        constructor
        · rintro (i | i)
          · by_cases z : x ≤ b.2
            · exact .inl (.inl ⟨i.1, z⟩)
            · exact .inr (by omega)
          · exact .inl (.inr i)
        · rintro ((i | i) | i)
          · exact .inl (by omega)
          · exact .inr i
          · exact .inl (by omega)
      · cases e
        exact hb
    · simp only [if_neg q]
      refine ⟨⟨fun r m => ?_, List.pairwise_cons.mpr ⟨fun r m => ?_, h.2⟩⟩, fun x => ?_, fun c u e => ?_, by simp⟩
      · rcases List.mem_cons.mp m with e | m
        · rw [e]
          exact hp
        · exact h.1 r m
      · rcases List.mem_cons.mp m with e | m
        · rw [e]
          omega
        · have := h2 r m
          omega
      · rw [In_cons]
        exact Or.comm
      · cases e
        exact Int.le_refl _
theorem pushes_ok : ∀ (qs acc : List Pr), RNF acc → (∀ q ∈ qs, q.1 ≤ q.2) → (∀ q ∈ qs, ∀ b t, acc = b :: t → b.1 ≤ q.1) → qs.Pairwise (fun p q => p.1 ≤ q.1) → RNF (qs.foldl push acc) ∧ (∀ x, In (qs.foldl push acc) x ↔ In acc x ∨ In qs x) ∧ (qs.foldl push acc).length ≤ acc.length + qs.length
  | [], acc, h, _, _, _ => ⟨h, fun x => by simp [In_nil], by simp⟩
  | q :: qs, acc, h, ho, hl, hs => by
    obtain ⟨s1, s2⟩ := List.pairwise_cons.mp hs
    obtain ⟨h1, h2, h3, h4⟩ := push_ok h (ho q List.mem_cons_self) (hl q List.mem_cons_self)
    obtain ⟨k1, k2, k3⟩ := pushes_ok qs (push acc q) h1 (fun r m => ho r (List.mem_cons_of_mem _ m)) (fun r m b t e => by
      have := h3 b t e
      have := s1 r m
      omega) s2
    refine ⟨k1, fun x => ?_, by simp only [List.foldl_cons, List.length_cons]; omega⟩
    rw [List.foldl_cons, k2, h2, In_cons]
    constructor
    · rintro ((i | i) | i)
      · exact .inl i
      · exact .inr (.inl i)
      · exact .inr (.inr i)
    · rintro (i | i | i)
      · exact .inl (.inl i)
      · exact .inl (.inr i)
      · exact .inr i
theorem srtd_low {qs : List Pr} (h : SrtO.Srtd SrtO.lexB qs) : qs.Pairwise (fun p q => p.1 ≤ q.1) := by
  refine List.Pairwise.imp (fun {p q} z => ?_) h
  have z2 : ¬ (q.1 < p.1 ∨ (q.1 = p.1 ∧ q.2 < p.2)) := fun w => by
    have := SrtO.lexB_iff.mpr w
    rw [this] at z
    cases z
  omega
def isSq (d : Dt) (ps : List Pr) : Prop := d = .lst (ps.map prD) ∨ d = .tup (ps.map prD)

def app (res : List Pr) (lo hi : Int) : List Pr := if lo ≤ hi then res ++ [(lo, hi)] else res
theorem In_app {res : List Pr} {lo hi x : Int} : In (app res lo hi) x ↔ In res x ∨ (lo ≤ x ∧ x ≤ hi) := by
  unfold app
  by_cases h : lo ≤ hi
  · rw [if_pos h, In_append, In_cons]
    simp [In_nil]
  · rw [if_neg h]
    constructor
    · exact .inl
    · rintro (i | i)
      · exact i
      · omega
theorem NF.drop {ps : List Pr} (h : NF ps) (i : Nat) : NF (ps.drop i) := ⟨fun p m => h.1 p (List.mem_of_mem_drop m), h.2.sublist (List.drop_sublist i ps)⟩
theorem drop_at {α : Type} {xs : List α} {i : Nat} {p : α} (h : xs[i]? = some p) : xs.drop i = p :: xs.drop (i + 1) := by
  rw [List.drop_eq_getElem_cons (List.getElem?_eq_some_iff.mp h).1, (List.getElem?_eq_some_iff.mp h).2]
def CI (l r res : List Pr) (i j : Nat) : Prop := i ≤ l.length ∧ j ≤ r.length ∧ res.length ≤ i + j ∧ Ok res ∧ Lim res ∧ ∀ x, (In l x ∧ In r x) ↔ In res x ∨ (In (l.drop i) x ∧ In (r.drop j) x)
theorem ci_next {l r res : List Pr} {i j : Nat} {a b : Pr} (hl : NF l) (hr : NF r) (lim : Lim l) (h : CI l r res i j) (ha : l[i]? = some a) (hb : r[j]? = some b) :
    (a.2 < b.2 → CI l r (app res (max a.1 b.1) (min a.2 b.2)) (i + 1) j) ∧ (¬ a.2 < b.2 → CI l r (app res (max a.1 b.1) (min a.2 b.2)) i (j + 1)) := by
  obtain ⟨h1, h2, h3, h4, h5, h6⟩ := h
  have li := (List.getElem?_eq_some_iff.mp ha).1
  have lj := (List.getElem?_eq_some_iff.mp hb).1
  have na := hl.drop i
  have nb := hr.drop j
  rw [drop_at ha] at na
  rw [drop_at hb] at nb
  have lima := lim a (List.mem_of_getElem? ha)
  have len : (app res (max a.1 b.1) (min a.2 b.2)).length ≤ i + j + 1 := by
    unfold app
    split
    · simp; omega
    · omega
  have ok : Ok (app res (max a.1 b.1) (min a.2 b.2)) := fun q m => by
    unfold app at m
    split at m
    · rcases List.mem_append.mp m with m | m
      · exact h4 q m
      · have e : q = (max a.1 b.1, min a.2 b.2) := by simpa using m
        rw [e]
        assumption
    · exact h4 q m
  have lm : Lim (app res (max a.1 b.1) (min a.2 b.2)) := fun q m => by
    unfold app at m
    split at m
    · rcases List.mem_append.mp m with m | m
      · exact h5 q m
      · have e : q = (max a.1 b.1, min a.2 b.2) := by simpa using m
        rw [e]
        show -(10 ^ 18) ≤ max a.1 b.1 ∧ min a.2 b.2 ≤ 10 ^ 18
        omega
    · exact h5 q m
  refine ⟨fun q => ⟨by omega, h2, by omega, ok, lm, fun x => ?_⟩, fun q => ⟨h1, by omega, by omega, ok, lm, fun x => ?_⟩⟩
  · rw [h6, In_app, drop_at ha, drop_at hb, In_cons (p := a), In_cons (p := b)]
    constructor
    · rintro (i | ⟨i | i, k | k⟩)
      · exact .inl (.inl i)
      · exact .inl (.inr (by omega))
      · have := nb.far k
        omega
      · exact .inr ⟨i, .inl k⟩
      · exact .inr ⟨i, .inr k⟩
    · rintro ((i | i) | ⟨i, k⟩)
      · exact .inl i
      · exact .inr ⟨.inl (by omega), .inl (by omega)⟩
      · exact .inr ⟨.inr i, k⟩
  · rw [h6, In_app, drop_at ha, drop_at hb, In_cons (p := a), In_cons (p := b)]
    constructor
    · rintro (i | ⟨i | i, k | k⟩)
      · exact .inl (.inl i)
      · exact .inl (.inr (by omega))
      · exact .inr ⟨.inl i, k⟩
      · have := na.far i
        omega
      · exact .inr ⟨.inr i, k⟩
    · rintro ((i | i) | ⟨i, k⟩)
      · exact .inl i
      · exact .inr ⟨.inl (by omega), .inl (by omega)⟩
      · exact .inr ⟨i, .inr k⟩
theorem ci_end {l r res : List Pr} {i j : Nat} (h : CI l r res i j) (e : l.length ≤ i ∨ r.length ≤ j) (x : Int) : In res x ↔ In l x ∧ In r x := by
  rw [h.2.2.2.2.2 x]
  constructor
  · exact .inl
  · rintro (k | ⟨k1, k2⟩)
    · exact k
    · rcases e with e | e
      · rw [List.drop_eq_nil_of_le e] at k1
        exact absurd k1 (In_nil x)
      · rw [List.drop_eq_nil_of_le e] at k2
        exact absurd k2 (In_nil x)
def GI (ps res : List Pr) (s : Int) (k : Nat) : Prop := (-(10 ^ 18) ≤ s ∧ s ≤ 10 ^ 18 + 1) ∧ NF res ∧ (∀ q ∈ res, -(10 ^ 18) ≤ q.1 ∧ q.2 + 1 < s) ∧ (∀ x, In res x ↔ (-(10 ^ 18) ≤ x ∧ x < s) ∧ ¬ In (ps.take k) x) ∧ (∀ x, In (ps.take k) x → x < s) ∧ (∀ q ∈ ps.drop k, s ≤ q.1) ∧ res.length ≤ k
theorem NF.snoc {res : List Pr} {lo hi s : Int} (h : NF res) (h2 : ∀ q ∈ res, q.2 + 1 < s) (h3 : s ≤ lo) (h4 : lo ≤ hi) : NF (res ++ [(lo, hi)]) := by
  refine ⟨fun q m => ?_, List.pairwise_append.mpr ⟨h.2, List.pairwise_singleton _ _, fun p m q m2 => ?_⟩⟩
  · rcases List.mem_append.mp m with m | m
    · exact h.1 q m
    · have e : q = (lo, hi) := by simpa using m
      rw [e]
      exact h4
  · have e : q = (lo, hi) := by simpa using m2
    rw [e]
    have := h2 p m
    show p.2 + 1 < lo
    omega
theorem gi_next {ps res : List Pr} {s : Int} {k : Nat} {p : Pr} (hn : NF ps) (hl : Lim ps) (h : GI ps res s k) (hp : ps[k]? = some p) : GI ps (app res s (p.1 - 1)) (p.2 + 1) (k + 1) := by
  obtain ⟨h1, h2, h3, h4, h5, h6, h7⟩ := h
  have nd := hn.drop k
  rw [drop_at hp] at nd h6
  have op := nd.1 p List.mem_cons_self
  have lp := hl p (List.mem_of_getElem? hp)
  have sp := h6 p List.mem_cons_self
  have ti : ∀ x, In (ps.take (k + 1)) x ↔ In (ps.take k) x ∨ (p.1 ≤ x ∧ x ≤ p.2) := fun x => by
    rw [show ps.take (k + 1) = ps.take k ++ [p] by rw [List.take_add_one, hp]; rfl, In_append, In_cons]
    simp [In_nil]
  refine ⟨by omega, ?_, fun q m => ?_, fun x => ?_, fun x i => ?_, fun q m => ?_, ?_⟩
  · unfold app
    split
    · exact h2.snoc (fun q m => (h3 q m).2) (Int.le_refl _) (by assumption)
    · exact h2
  · unfold app at m
    split at m
    · rcases List.mem_append.mp m with m | m
      · have := h3 q m
        omega
      · have e : q = (s, p.1 - 1) := by simpa using m
        rw [e]
        show -(10 ^ 18) ≤ s ∧ p.1 - 1 + 1 < p.2 + 1
        omega
    · have := h3 q m
      omega
  · rw [In_app, h4, ti]
    constructor
    · rintro (⟨a, b⟩ | a)
      · exact ⟨by omega, fun z => z.elim b (by omega)⟩
      · refine ⟨by omega, fun z => z.elim (fun z => ?_) (by omega)⟩
        have := h5 x z
        omega
    · rintro ⟨a, b⟩
      by_cases c : x < s
      · exact .inl ⟨by omega, fun z => b (.inl z)⟩
      · refine .inr ⟨by omega, ?_⟩
        by_cases d : x ≤ p.1 - 1
        · exact d
        · exact absurd (.inr (by omega)) b
  · rcases (ti x).mp i with i | i
    · have := h5 x i
      omega
    · omega
  · have := (List.pairwise_cons.mp nd.2).1 q m
    omega
  · unfold app
    split
    · simp; omega
    · omega
theorem gi_end {ps res : List Pr} {s : Int} {k : Nat} (h : GI ps res s k) (e : ps.length ≤ k) : NF (app res s (10 ^ 18)) ∧ Lim (app res s (10 ^ 18)) ∧ (∀ x, In (app res s (10 ^ 18)) x ↔ (-(10 ^ 18) ≤ x ∧ x ≤ 10 ^ 18) ∧ ¬ In ps x) ∧ (app res s (10 ^ 18)).length ≤ k + 1 := by
  obtain ⟨h1, h2, h3, h4, h5, h6, h7⟩ := h
  rw [List.take_of_length_le e] at h4 h5
  refine ⟨?_, fun q m => ?_, fun x => ?_, ?_⟩
  · unfold app
    split
    · exact h2.snoc (fun q m => (h3 q m).2) (Int.le_refl _) (by assumption)
    · exact h2
  · unfold app at m
    split at m
    · rcases List.mem_append.mp m with m | m
      · have := h3 q m
        omega
      · have e : q = (s, 10 ^ 18) := by simpa using m
        rw [e]
        exact ⟨h1.1, Int.le_refl _⟩
    · have := h3 q m
      omega
  · rw [In_app, h4]
    constructor
    · rintro (⟨a, b⟩ | a)
      · exact ⟨by omega, b⟩
      · refine ⟨by omega, fun z => ?_⟩
        have := h5 x z
        omega
    · rintro ⟨a, b⟩
      by_cases c : x < s
      · exact .inl ⟨by omega, b⟩
      · exact .inr (by omega)
  · unfold app
    split
    · simp; omega
    · omega


theorem at2a {a b : Dt} : atI [a, b] 0 = some a := rfl
theorem at2b {a b : Dt} : atI [a, b] 1 = some b := rfl
theorem atLast {xs : List Dt} {a : Dt} : atI (xs ++ [a]) (-1) = some a := by
  unfold atI ixN
  rw [if_neg (by omega), if_pos (by rw [List.length_append, List.length_singleton]; omega)]
  simp
  rw [show (-1 + ((xs.length : Int) + 1)).toNat = xs.length by omega]
  simp
theorem iteLast {A B : Prop} {xs : List Dt} {a : Dt} (h : A) : if (!(xs ++ [a]).isEmpty) = true then A else B := by
  rw [if_pos (by simp)]
  exact h
theorem mx {a b : Int} : (if b > a then b else a) = max a b := by split <;> omega
theorem mn {a b : Int} : (if b < a then b else a) = min a b := by split <;> omega
theorem get_map {α : Type} {f : α → Dt} {xs : List α} {i : Nat} {x : Dt} (h : (xs.map f)[i]? = some x) : ∃ p, xs[i]? = some p ∧ x = f p := by
  rw [List.getElem?_map] at h
  cases q : xs[i]? with
  | none => rw [q] at h; cases h
  | some p => rw [q] at h; cases h; exact ⟨p, rfl, rfl⟩
theorem at_map {α : Type} {f : α → Dt} {xs : List α} {i : Nat} {j : Int} {p : α} (e : j = (i : Int)) (h : xs[i]? = some p) : atI (xs.map f) j = some (f p) := atI_of e (by rw [List.getElem?_map, h]; rfl)
theorem take_next {α : Type} {xs : List α} {i : Nat} {p : α} (h : xs[i]? = some p) : xs.take (i + 1) = xs.take i ++ [p] := by
  rw [List.take_add_one, h]
  rfl

def sd_joined : Sd := fun as Q _ => ∃ ps : List Pr, as = [.lst (ps.map prD)] ∧ Ok ps ∧ ps.length ≤ 90000 ∧ ∀ qs, NF qs → (∀ x, In qs x ↔ In ps x) → qs.length ≤ ps.length → Q (.tup (qs.map prD))
def d_joined : DS := (dSeq (dOwn 1 dNil)
  (dSeq (dFor (iSeq (dCB dSortP (dCons (dVar 0) dNil))) (gdSq 2 (gdCons (gdName 2) (gdCons (gdName 3) gdNil)))
  (dIfS (dAnd (dTru (dVar 1)) (dTest (dOp dLe (dVar 2) (dOp dAdd (dOp dIx (dOp dIx (dVar 1) (dUn dNeg (dC (.int 1)))) (dC (.int 1))) (dC (.int 1))))))
  (dSeq (dPop 1 4)
  (dApp 1 (dTup (dCons (dOp dIx (dVar 4) (dC (.int 0))) (dCons (dCB dMax2 (dCons (dOp dIx (dVar 4) (dC (.int 1))) (dCons (dVar 3) dNil))) dNil)))))
  (dApp 1 (dTup (dCons (dVar 2) (dCons (dVar 3) dNil))))))
  (dFrz 1 (dRetE (dCB dTupleOf (dCons (dVar 1) dNil))))))
theorem len_joined : ∀ as Q E, sd_joined as Q E → as.length = 1 := by
  rintro _ _ _ ⟨_, rfl, _⟩
  rfl
theorem pure_joined : ∀ as Q E, sd_joined as Q E → d_joined (dEnds Q E) (startD 5 as) := by
  rintro as Q E ⟨ps, rfl, ho, hl, hq⟩
  refine ⟨by simp, ?_⟩
  refine ⟨ps, rfl, fun qs hs hp => ?_⟩
  have hlen := hp.length_eq
  have hok : ∀ q ∈ qs, q.1 ≤ q.2 := fun q m => ho q (hp.mem_iff.mp m)
  have pk : ∀ i, RNF ((qs.take i).foldl push []) ∧ (∀ x, In ((qs.take i).foldl push []) x ↔ In [] x ∨ In (qs.take i) x) ∧ ((qs.take i).foldl push []).length ≤ ([] : List Pr).length + (qs.take i).length := fun i =>
    pushes_ok (qs.take i) [] ⟨fun q m => (nomatch m), .nil⟩ (fun q m => hok q (List.mem_of_mem_take m)) (fun q m b t e => nomatch e) ((srtd_low hs).sublist (List.take_sublist i qs))
  have lk : ∀ i, ((qs.take i).foldl push []).length ≤ 90000 := fun i => by
    have := (pk i).2.2
    simp only [List.length_nil, List.length_take] at this
    omega
  refine for_inv (fun i ρ => ∃ L s2 s3 s4, ρ = [.dat (.lst (ps.map prD)), .own L, s2, s3, s4] ∧ L = ((qs.take i).foldl push []).reverse.map prD) ⟨[], _, _, _, rfl, by simp⟩ ?_ ?_
  · rintro i x ρ hx ⟨L, s2, s3, s4, rfl, hL⟩
    obtain ⟨p, hp, rfl⟩ := get_map hx
    have nx : (qs.take (i + 1)).foldl push [] = push ((qs.take i).foldl push []) p := by rw [take_next hp, List.foldl_append]; rfl
    have lk := lk i
    rw [nx]
    generalize (qs.take i).foldl push [] = acc at hL lk
    refine ⟨rfl, rfl, ?_⟩
    cases acc with
    | nil =>
      subst hL
      refine ⟨by simp, by simp, ?_⟩
      exact ⟨_, _, _, _, rfl, rfl⟩
    | cons b t =>
      have hL : L = t.reverse.map prD ++ [prD b] := by rw [hL]; simp
      subst hL
      simp only [List.length_cons] at lk
      refine iteLast ?_
      refine ⟨_, atLast, _, at2b, ?_⟩
      refine iteD (fun h => ?_) (fun h => ?_)
      · have h : p.1 ≤ b.2 + 1 := h
        rw [show push (b :: t) p = (b.1, max b.2 p.2) :: t from if_pos h]
        refine ⟨_, _, rfl, _, at2a, _, at2b, by simp, by simp; omega, ?_⟩
        refine ⟨_, _, _, _, rfl, ?_⟩
        rw [mx]
        simp
      · have h : ¬ p.1 ≤ b.2 + 1 := h
        rw [show push (b :: t) p = p :: b :: t from if_neg h]
        refine ⟨by simp, by simp; omega, ?_⟩
        exact ⟨_, _, _, _, rfl, by simp⟩
  · rintro ρ ⟨L, s2, s3, s4, rfl, rfl⟩
    obtain ⟨k1, k2, k3⟩ := pk (qs.map prD).length
    rw [List.length_map, List.take_length] at k1 k2 k3 ⊢
    refine hq _ k1.nf (fun x => ?_) (by rw [List.length_reverse]; simp only [List.length_nil] at k3; omega)
    rw [In_reverse, k2, In_perm hp]
    simp [In_nil]
def badP (p : Pr) : Bool := decide (p.1 < -(10 ^ 18) ∨ 10 ^ 18 < p.2 ∨ p.2 < p.1)
def badX (kl : Kl) (p : Pr) : Xn := ⟨kl.BadStretch, [("high", .v (.int p.2)), ("low", .v (.int p.1))]⟩
def St (ps : List Pr) : Prop := NF ps ∧ Lim ps
def stD (kl : Kl) (ps : List Pr) : Dt := .slt kl.Stretches (.tup (ps.map prD))
theorem badP_no {p : Pr} (h : badP p = false) : p.1 ≤ p.2 ∧ -(10 ^ 18) ≤ p.1 ∧ p.2 ≤ 10 ^ 18 := by
  have := of_decide_eq_false h
  omega
theorem badP_yes {p : Pr} (h : p.1 < -(10 ^ 18) ∨ 10 ^ 18 < p.2 ∨ p.2 < p.1) : badP p = true := decide_eq_true h
theorem find_at {ps : List Pr} {i : Nat} {p : Pr} (h : ps[i]? = some p) (hb : badP p = true) (hn : ∀ q ∈ ps.take i, badP q = false) : ps.find? badP = some p := by
  rw [← List.take_append_drop i ps, List.find?_append, List.find?_eq_none.mpr (fun q m => by rw [hn q m]; simp)]
  rw [List.drop_eq_getElem_cons (List.getElem?_eq_some_iff.mp h).1, (List.getElem?_eq_some_iff.mp h).2]
  simp [List.find?_cons, hb]
theorem lim_of {ps qs : List Pr} (h1 : Ok qs) (h2 : Lim ps) (e : ∀ x, In qs x ↔ In ps x) : Lim qs := fun q m => by
  obtain ⟨r, m1, a1, a2⟩ := (e q.1).mp ⟨q, m, Int.le_refl _, h1 q m⟩
  obtain ⟨s, m2, b1, b2⟩ := (e q.2).mp ⟨q, m, h1 q m, Int.le_refl _⟩
  have := h2 r m1
  have := h2 s m2
  omega
def Good (ps : List Pr) : Prop := Ok ps ∧ Lim ps
theorem good_find {ps : List Pr} (h : Good ps) : ps.find? badP = none := List.find?_eq_none.mpr fun p m => by
  have := h.1 p m
  have := h.2 p m
  have e : badP p = false := decide_eq_false (by omega)
  rw [e]
  simp
def sd_Stretches___init__ (kl : Kl) : Sd := fun as Q E => ∃ (ps : List Pr) (d : Dt), as = [d] ∧ (d = .lst (ps.map prD) ∨ d = .tup (ps.map prD)) ∧ ps.length ≤ 90000 ∧ (∀ p, ps.find? badP = some p → E (badX kl p)) ∧ (ps.find? badP = none → ∀ qs, St qs → (∀ x, In qs x ↔ In ps x) → qs.length ≤ ps.length → Q (stD kl qs))
def d_Stretches___init__ (kl : Kl) : DS := (dSeqB (dOwn 2 dNil)
  (dSeqB (dFor (iSeq (dVar 1)) (gdSq 2 (gdCons (gdName 3) (gdCons (gdName 4) gdNil)))
  (dSeq (dIfS (dOr (dTest (dOp dLt (dVar 3) (dUn dNeg (dC (.int 1000000000000000000))))) (dOr (dTest (dOp dGt (dVar 4) (dC (.int 1000000000000000000)))) (dTest (dOp dGt (dVar 3) (dVar 4)))))
  (dRaise kl.BadStretch ["low", "high"] (dCons (dVar 3) (dCons (dVar 4) dNil)))
  dNext)
  (dApp 2 (dTup (dCons (dVar 3) (dCons (dVar 4) dNil))))))
  (dFrz 2 (dSlF [kl.Stretches] (dCall sd_joined [] (dCons (dVar 2) dNil))))))
theorem len_Stretches___init__ (kl : Kl) : ∀ as Q E, sd_Stretches___init__ kl as Q E → as.length + 1 = 2 := by
  rintro _ _ _ ⟨_, _, rfl, _⟩
  rfl
theorem pure_Stretches___init__ (kl : Kl) : ∀ p as Q E, sd_Stretches___init__ kl as Q E → d_Stretches___init__ kl (dEndsS p kl.Stretches Q E) (startI p kl.Stretches 5 as) := by
  rintro p as Q E ⟨ps, d, rfl, hd, hl, he, hq⟩
  refine ⟨by simp, ?_⟩
  have key : ∀ (d : Dt), ForI (gdSq 2 (gdCons (gdName 3) (gdCons (gdName 4) gdNil))) (dSeq (dIfS (dOr (dTest (dOp dLt (dVar 3) (dUn dNeg (dC (.int 1000000000000000000))))) (dOr (dTest (dOp dGt (dVar 4) (dC (.int 1000000000000000000)))) (dTest (dOp dGt (dVar 3) (dVar 4)))))
      (dRaise kl.BadStretch ["low", "high"] (dCons (dVar 3) (dCons (dVar 4) dNil)))
      dNext)
      (dApp 2 (dTup (dCons (dVar 3) (dCons (dVar 4) dNil)))))
      { nx := dFrz 2 (dSlF [kl.Stretches] (dCall sd_joined [] (dCons (dVar 2) dNil))) (dEndsS p kl.Stretches Q E), rt := fun _ => False, bk := fun _ => False, ct := fun _ => False, ex := (dEndsS p kl.Stretches Q E).ex } (ps.map prD) [.oob p kl.Stretches [], .dat d, .own [], .emp, .emp] := fun d => by
    refine for_inv (fun i ρ => ∃ L s3 s4, ρ = [.oob p kl.Stretches [], .dat d, .own L, s3, s4] ∧ L = (ps.take i).map prD ∧ ∀ q ∈ ps.take i, badP q = false) ⟨[], _, _, rfl, by simp, by simp⟩ ?_ ?_
    · rintro i x ρ hx ⟨L, s3, s4, rfl, rfl, hn⟩
      obtain ⟨q, hp, rfl⟩ := get_map hx
      refine ⟨rfl, rfl, ?_⟩
      refine iteD (fun h => ⟨rfl, he q (find_at hp (badP_yes (.inl h)) hn)⟩) (fun h1 => ?_)
      refine iteD (fun h => ⟨rfl, he q (find_at hp (badP_yes (.inr (.inl h))) hn)⟩) (fun h2 => ?_)
      refine iteD (fun h => ⟨rfl, he q (find_at hp (badP_yes (.inr (.inr h))) hn)⟩) (fun h3 => ?_)
      have h1 : ¬ q.1 < -(10 ^ 18) := h1
      have h2 : ¬ 10 ^ 18 < q.2 := h2
      have h3 : ¬ q.2 < q.1 := h3
      refine ⟨by simp, by simp; omega, ?_⟩
      refine ⟨_, _, _, rfl, by rw [take_next hp, List.map_append]; rfl, fun r m => ?_⟩
      rw [take_next hp] at m
      rcases List.mem_append.mp m with m | m
      · exact hn r m
      · have e : r = q := by simpa using m
        rw [e]
        exact decide_eq_false (by omega)
    · rintro ρ ⟨L, s3, s4, rfl, rfl, hn⟩
      rw [List.length_map, List.take_length] at hn ⊢
      have ok : Ok ps := fun q m => (badP_no (hn q m)).1
      have lim : Lim ps := fun q m => (badP_no (hn q m)).2
      refine ⟨ps, rfl, ok, hl, fun qs h1 h2 h3 => ?_⟩
      exact ⟨_, _, rfl, by simp, _, _, rfl, rfl, hq (good_find ⟨ok, lim⟩) qs ⟨h1, lim_of h1.1 lim h2⟩ h2 h3⟩
  rcases hd with rfl | rfl
  · exact key _
  · exact key _

theorem no_bad {ps : List Pr} {A : Prop} (g : Good ps) (p : Pr) (h : ps.find? badP = some p) : A := by
  rw [good_find g] at h
  cases h
def sd_common : Sd := fun as Q _ => ∃ (l r : List Pr) (dl dr : Dt), as = [dl, dr] ∧ isSq dl l ∧ isSq dr r ∧ NF l ∧ NF r ∧ Lim l ∧ l.length + r.length ≤ 90000 ∧ ∀ rs, Good rs → (∀ x, In rs x ↔ In l x ∧ In r x) → rs.length ≤ l.length + r.length → Q (.lst (rs.map prD))
def d_common : DS := (dSeq (dOwn 2 dNil)
  (dSeq (dAsg (dC (.int 0)) (gdName 3))
  (dSeq (dAsg (dC (.int 0)) (gdName 4))
  (dSeq (dWhile (dAnd (dTest (dOp dLt (dVar 3) (dCB dLen (dCons (dVar 0) dNil)))) (dTest (dOp dLt (dVar 4) (dCB dLen (dCons (dVar 1) dNil)))))
  (dSeq (dAsg (dCB dMax2 (dCons (dOp dIx (dOp dIx (dVar 0) (dVar 3)) (dC (.int 0))) (dCons (dOp dIx (dOp dIx (dVar 1) (dVar 4)) (dC (.int 0))) dNil))) (gdName 5))
  (dSeq (dAsg (dCB dMin2 (dCons (dOp dIx (dOp dIx (dVar 0) (dVar 3)) (dC (.int 1))) (dCons (dOp dIx (dOp dIx (dVar 1) (dVar 4)) (dC (.int 1))) dNil))) (gdName 6))
  (dSeq (dIfS (dTest (dOp dLe (dVar 5) (dVar 6)))
  (dApp 2 (dTup (dCons (dVar 5) (dCons (dVar 6) dNil))))
  dNext)
  (dIfS (dTest (dOp dLt (dOp dIx (dOp dIx (dVar 0) (dVar 3)) (dC (.int 1))) (dOp dIx (dOp dIx (dVar 1) (dVar 4)) (dC (.int 1)))))
  (dAsg (dOp dAdd (dVar 3) (dC (.int 1))) (gdName 3))
  (dAsg (dOp dAdd (dVar 4) (dC (.int 1))) (gdName 4)))))))
  (dRet (dVar 2))))))
theorem len_common : ∀ as Q E, sd_common as Q E → as.length = 2 := by
  rintro _ _ _ ⟨_, _, _, _, rfl, _⟩
  rfl
def muC (n : Nat) (ρ : En) : Nat := match ρ.getD 3 .emp, ρ.getD 4 .emp with
  | .dat (.v (.int i)), .dat (.v (.int j)) => ((n : Int) - i - j).toNat
  | _, _ => 0
theorem pure_common : ∀ as Q E, sd_common as Q E → d_common (dEnds Q E) (startD 7 as) := by
  rintro as Q E ⟨l, r, dl, dr, rfl, hdl, hdr, hl, hr, lim, hlen, hq⟩
  refine ⟨by simp, ?_⟩
  refine ⟨fun ρ => ∃ res L s5 s6 i j, ρ = [.dat dl, .dat dr, .own L, .int (i : Nat), .int (j : Nat), s5, s6] ∧ L = res.map prD ∧ CI l r res i j, muC (l.length + r.length), ⟨[], [], _, _, 0, 0, rfl, rfl, Nat.zero_le _, Nat.zero_le _, Nat.le_refl _, fun q m => (nomatch m), fun q m => (nomatch m), fun x => ?_⟩, ?_⟩
  · simp [In_nil]
  rintro ρ ⟨res, L, s5, s6, i, j, rfl, rfl, hc⟩
  have hc1 := hc.1
  have hc2 := hc.2.1
  have hc3 := hc.2.2.1
  rcases hdl with rfl | rfl <;> rcases hdr with rfl | rfl
  all_goals
    refine iteD (fun h1 => ?_) (fun h1 => ?_)
    · have h1 : (i : Int) < ((l.map prD).length : Int) := h1
      rw [List.length_map] at h1
      refine iteD (fun h2 => ?_) (fun h2 => ?_)
      · have h2 : (j : Int) < ((r.map prD).length : Int) := h2
        rw [List.length_map] at h2
        have ha : l[i]? = some (l[i]'(by omega)) := List.getElem?_eq_getElem _
        have hb : r[j]? = some (r[j]'(by omega)) := List.getElem?_eq_getElem _
        generalize l[i]'(by omega) = a at ha
        generalize r[j]'(by omega) = b at hb
        obtain ⟨n1, n2⟩ := ci_next hl hr lim hc ha hb
        refine ⟨_, at_map rfl ha, _, at2a, _, at_map rfl hb, _, at2a, ?_⟩
        refine ⟨_, at_map rfl ha, _, at2b, _, at_map rfl hb, _, at2b, ?_⟩
        rw [mx]
        refine iteD (fun h => ?_) (fun h => ?_)
        · have h : max a.1 b.1 ≤ (if b.2 < a.2 then b.2 else a.2) := h
          rw [mn] at h
          have ea : app res (max a.1 b.1) (min a.2 b.2) = res ++ [(max a.1 b.1, min a.2 b.2)] := if_pos h
          rw [ea] at n1 n2
          refine ⟨by simp, by simp; omega, ?_⟩
          refine ⟨_, at_map rfl ha, _, at2b, _, at_map rfl hb, _, at2b, ?_⟩
          refine iteD (fun g => ?_) (fun g => ?_)
          · refine ⟨⟨_, _, _, _, i + 1, j, rfl, by rw [List.map_append, ← mn]; rfl, n1 g⟩, ?_⟩
            show (((l.length + r.length : Nat) : Int) - ((i : Int) + 1) - (j : Int)).toNat < (((l.length + r.length : Nat) : Int) - (i : Int) - (j : Int)).toNat
            omega
          · refine ⟨⟨_, _, _, _, i, j + 1, rfl, by rw [List.map_append, ← mn]; rfl, n2 g⟩, ?_⟩
            show (((l.length + r.length : Nat) : Int) - (i : Int) - ((j : Int) + 1)).toNat < (((l.length + r.length : Nat) : Int) - (i : Int) - (j : Int)).toNat
            omega
        · have h : ¬ max a.1 b.1 ≤ (if b.2 < a.2 then b.2 else a.2) := h
          rw [mn] at h
          have ea : app res (max a.1 b.1) (min a.2 b.2) = res := if_neg h
          rw [ea] at n1 n2
          refine ⟨_, at_map rfl ha, _, at2b, _, at_map rfl hb, _, at2b, ?_⟩
          refine iteD (fun g => ?_) (fun g => ?_)
          · refine ⟨⟨_, _, _, _, i + 1, j, rfl, rfl, n1 g⟩, ?_⟩
            show (((l.length + r.length : Nat) : Int) - ((i : Int) + 1) - (j : Int)).toNat < (((l.length + r.length : Nat) : Int) - (i : Int) - (j : Int)).toNat
            omega
          · refine ⟨⟨_, _, _, _, i, j + 1, rfl, rfl, n2 g⟩, ?_⟩
            show (((l.length + r.length : Nat) : Int) - (i : Int) - ((j : Int) + 1)).toNat < (((l.length + r.length : Nat) : Int) - (i : Int) - (j : Int)).toNat
            omega
      · have h2 : ¬ (j : Int) < ((r.map prD).length : Int) := h2
        rw [List.length_map] at h2
        exact hq res ⟨hc.2.2.2.1, hc.2.2.2.2.1⟩ (ci_end hc (.inr (by omega))) (by omega)
    · have h1 : ¬ (i : Int) < ((l.map prD).length : Int) := h1
      rw [List.length_map] at h1
      exact hq res ⟨hc.2.2.2.1, hc.2.2.2.2.1⟩ (ci_end hc (.inl (by omega))) (by omega)
def inL (x : Int) : Prop := -(10 ^ 18) ≤ x ∧ x ≤ 10 ^ 18
theorem St.good {ps : List Pr} (h : St ps) : Good ps := ⟨h.1.1, h.2⟩
theorem lim_in {ps : List Pr} (h : Lim ps) {x : Int} (i : In ps x) : inL x := by
  obtain ⟨p, m, a, b⟩ := i
  have := h p m
  exact ⟨by omega, by omega⟩
def sd_gaps : Sd := fun as Q _ => ∃ ps : List Pr, as = [.tup (ps.map prD)] ∧ St ps ∧ ps.length ≤ 80000 ∧ ∀ rs, St rs → (∀ x, In rs x ↔ inL x ∧ ¬ In ps x) → rs.length ≤ ps.length + 1 → Q (.lst (rs.map prD))
def d_gaps : DS := (dSeq (dOwn 1 dNil)
  (dSeq (dAsg (dUn dNeg (dC (.int 1000000000000000000))) (gdName 2))
  (dSeq (dFor (iSeq (dVar 0)) (gdSq 2 (gdCons (gdName 3) (gdCons (gdName 4) gdNil)))
  (dSeq (dIfS (dTest (dOp dLt (dVar 2) (dVar 3)))
  (dApp 1 (dTup (dCons (dVar 2) (dCons (dOp dSub (dVar 3) (dC (.int 1))) dNil))))
  dNext)
  (dAsg (dOp dAdd (dVar 4) (dC (.int 1))) (gdName 2))))
  (dSeq (dIfS (dTest (dOp dLe (dVar 2) (dC (.int 1000000000000000000))))
  (dApp 1 (dTup (dCons (dVar 2) (dCons (dC (.int 1000000000000000000)) dNil))))
  dNext)
  (dRet (dVar 1))))))
theorem len_gaps : ∀ as Q E, sd_gaps as Q E → as.length = 1 := by
  rintro _ _ _ ⟨_, rfl, _⟩
  rfl
theorem pure_gaps : ∀ as Q E, sd_gaps as Q E → d_gaps (dEnds Q E) (startD 5 as) := by
  rintro as Q E ⟨ps, rfl, hs, hl, hq⟩
  refine ⟨by simp, ?_⟩
  refine for_inv (fun k ρ => ∃ (res : List Pr) (L : List Dt) (s : Int) (s3 s4 : Sl), ρ = [.dat (.tup (ps.map prD)), .own L, .int s, s3, s4] ∧ L = res.map prD ∧ GI ps res s k) ⟨[], _, -1000000000000000000, _, _, rfl, rfl, ?_⟩ ?_ ?_
  · refine ⟨by decide, ⟨fun q m => (nomatch m), .nil⟩, fun q m => (nomatch m), fun x => ?_, fun x i => ?_, fun q m => ?_, by simp⟩
    · constructor
      · intro i
        exact absurd i (In_nil x)
      · intro h
        omega
    · exact absurd i (In_nil x)
    · have := (hs.2 q (by simpa using m)).1
      omega
  · rintro k y ρ hy ⟨res, L, s, s3, s4, rfl, rfl, hg⟩
    have hk := (List.getElem?_eq_some_iff.mp hy).1
    rw [List.length_map] at hk
    obtain ⟨p, hp, rfl⟩ := get_map hy
    have nx := gi_next hs.1 hs.2 hg hp
    have hlen : res.length ≤ k := hg.2.2.2.2.2.2
    refine ⟨rfl, rfl, ?_⟩
    refine iteD (fun h => ?_) (fun h => ?_)
    · have h : s < p.1 := h
      rw [show app res s (p.1 - 1) = res ++ [(s, p.1 - 1)] from if_pos (by omega)] at nx
      refine ⟨by simp, by simp; omega, ?_⟩
      exact ⟨_, _, _, _, _, rfl, by rw [List.map_append]; rfl, nx⟩
    · have h : ¬ s < p.1 := h
      rw [show app res s (p.1 - 1) = res from if_neg (by omega)] at nx
      exact ⟨_, _, _, _, _, rfl, rfl, nx⟩
  · rintro ρ ⟨res, L, s, s3, s4, rfl, rfl, hg⟩
    have hlen : res.length ≤ (ps.map prD).length := hg.2.2.2.2.2.2
    rw [List.length_map] at hg hlen
    obtain ⟨e1, e2, e3, e4⟩ := gi_end hg (Nat.le_refl _)
    refine iteD (fun h => ?_) (fun h => ?_)
    · have h : s ≤ 10 ^ 18 := h
      have ea : app res s (10 ^ 18) = res ++ [(s, 1000000000000000000)] := by
        unfold app
        rw [if_pos h, show (10 ^ 18 : Int) = 1000000000000000000 by decide]
      rw [ea] at e1 e2 e3 e4
      refine ⟨by simp, by simp; omega, ?_⟩
      have := hq _ ⟨e1, e2⟩ e3 e4
      rw [List.map_append] at this
      exact this
    · have h : ¬ s ≤ 10 ^ 18 := h
      rw [show app res s (10 ^ 18) = res from if_neg h] at e1 e2 e3 e4
      exact hq _ ⟨e1, e2⟩ e3 e4
def sd_Stretches___sub__ (kl : Kl) : Sd := fun as Q _ => ∃ l r : List Pr, as = [stD kl l, stD kl r] ∧ St l ∧ St r ∧ l.length + r.length ≤ 80000 ∧ ∀ qs, St qs → (∀ x, In qs x ↔ In l x ∧ ¬ In r x) → qs.length ≤ l.length + r.length + 1 → Q (stD kl qs)
theorem no_badX {ps : List Pr} {A : Prop} (g : Good ps) (p : Pr) (h : ps.find? badP = some p) : A := by
  rw [good_find g] at h
  cases h
def d_Stretches___sub__ (kl : Kl) : DS := (dRetE (dMake (sd_Stretches___init__ kl) (dCons (dCall sd_common [] (dCons (dSlA [kl.Stretches] (dVar 0)) (dCons (dCall sd_gaps [] (dCons (dSlA [kl.Stretches] (dVar 1)) dNil)) dNil))) dNil)))
theorem pure_Stretches___sub__ (kl : Kl) : ∀ as Q E, sd_Stretches___sub__ kl as Q E → d_Stretches___sub__ kl (dEnds Q E) (startD 2 as) := by
  rintro as Q E ⟨l, r, rfl, hl, hr, hlen, hq⟩
  refine ⟨_, _, rfl, by simp, _, _, rfl, by simp, ?_⟩
  refine ⟨r, rfl, hr, by omega, fun g hg eg lg => ?_⟩
  refine ⟨l, g, _, _, rfl, .inr rfl, .inl rfl, hl.1, hg.1, hl.2, by omega, fun rs h1 h2 h3 => ?_⟩
  refine ⟨rs, _, rfl, .inl rfl, by omega, fun p h => no_badX h1 p h, fun _ qs h4 h5 h6 => ?_⟩
  refine hq qs h4 (fun x => ?_) (by omega)
  rw [h5, h2, eg]
  exact ⟨fun h => ⟨h.1, h.2.2⟩, fun h => ⟨h.1, lim_in hl.2 h.1, h.2⟩⟩
structure Fx where
  k0 : Int
  k1 : Int
  v0 : Int
  v1 : Int
  s : Option Int
  f : Option Int
def Keeps (s f : Option Int) (d c : Int) : Prop := (∀ a, s = some a → a * d ≤ c) ∧ ∀ b, f = some b → c ≤ b * d
def Near (s f : Option Int) (p q : Pr) : Prop := (p.1 = q.1 → p.2 = q.2) ∧ (p.1 < q.1 → Keeps s f (q.1 - p.1) (q.2 - p.2)) ∧ (q.1 < p.1 → Keeps s f (p.1 - q.1) (p.2 - q.2))
def Room (F : Fx) (p : Pr) : Prop := (F.v0 ≤ p.2 ∧ p.2 ≤ F.v1) ∧ (∀ a, F.s = some a → F.v0 + a * (p.1 - F.k0) ≤ p.2 ∧ p.2 + a * (F.k1 - p.1) ≤ F.v1) ∧ ∀ b, F.f = some b → p.2 - b * (p.1 - F.k0) ≤ F.v1 ∧ F.v0 ≤ p.2 + b * (F.k1 - p.1)
def Fits (F : Fx) (rows : List Pr) (p : Pr) : Prop := Room F p ∧ ∀ q ∈ rows, Near F.s F.f q p
def Valid (F : Fx) (rows : List Pr) : Prop := ∀ p ∈ rows, (F.k0 ≤ p.1 ∧ p.1 ≤ F.k1) ∧ Fits F rows p
structure Fx.Ok (F : Fx) : Prop where
  keys : F.k0 ≤ F.k1
  vals : F.v0 ≤ F.v1
  ord : ∀ a b, F.s = some a → F.f = some b → a ≤ b
  slow : ∀ a, F.s = some a → a * (F.k1 - F.k0) ≤ F.v1 - F.v0
  fast : ∀ b, F.f = some b → -(b * (F.k1 - F.k0)) ≤ F.v1 - F.v0
structure IS where
  x : Int
  lo : Int
  hi : Int
def lowAt (s f : Option Int) (x : Int) (i : IS) : List Int := (if i.x < x then s.toList.map (fun a => i.lo + a * (x - i.x)) else []) ++ (if x < i.x then f.toList.map (fun b => i.lo - b * (i.x - x)) else []) ++ (if i.x = x then [i.lo] else [])
def upAt (s f : Option Int) (x : Int) (i : IS) : List Int := (if i.x < x then f.toList.map (fun b => i.hi + b * (x - i.x)) else []) ++ (if x < i.x then s.toList.map (fun a => i.hi - a * (i.x - x)) else []) ++ (if i.x = x then [i.hi] else [])
def Comp (s f : Option Int) (i j : IS) : Prop := (i.x < j.x → (∀ a, s = some a → i.lo + a * (j.x - i.x) ≤ j.hi) ∧ ∀ b, f = some b → j.lo - b * (j.x - i.x) ≤ i.hi) ∧ (i.x = j.x → i.lo ≤ j.hi)
theorem mem_lowAt {s f : Option Int} {x l : Int} {i : IS} : l ∈ lowAt s f x i ↔ (i.x < x ∧ ∃ a, s = some a ∧ l = i.lo + a * (x - i.x)) ∨ (x < i.x ∧ ∃ b, f = some b ∧ l = i.lo - b * (i.x - x)) ∨ (i.x = x ∧ l = i.lo) := by
  unfold lowAt
  rw [List.mem_append, List.mem_append]
  constructor
  · rintro ((h | h) | h)
    · split at h
      · refine .inl ⟨‹_›, ?_⟩
        cases s with
        | none => simp at h
        | some a => exact ⟨a, rfl, by simpa using h⟩
      · simp at h
    · split at h
      · refine .inr (.inl ⟨‹_›, ?_⟩)
        cases f with
        | none => simp at h
        | some a => exact ⟨a, rfl, by simpa using h⟩
      · simp at h
    · split at h
      · exact .inr (.inr ⟨‹_›, by simpa using h⟩)
      · simp at h
  · rintro (⟨h, a, rfl, rfl⟩ | ⟨h, a, rfl, rfl⟩ | ⟨h, rfl⟩)
    · exact .inl (.inl (by rw [if_pos h]; simp))
    · exact .inl (.inr (by rw [if_pos h]; simp))
    · exact .inr (by rw [if_pos h]; simp)
theorem mem_upAt {s f : Option Int} {x l : Int} {i : IS} : l ∈ upAt s f x i ↔ (i.x < x ∧ ∃ b, f = some b ∧ l = i.hi + b * (x - i.x)) ∨ (x < i.x ∧ ∃ a, s = some a ∧ l = i.hi - a * (i.x - x)) ∨ (i.x = x ∧ l = i.hi) := by
  unfold upAt
  rw [List.mem_append, List.mem_append]
  constructor
  · rintro ((h | h) | h)
    · split at h
      · refine .inl ⟨‹_›, ?_⟩
        cases f with
        | none => simp at h
        | some a => exact ⟨a, rfl, by simpa using h⟩
      · simp at h
    · split at h
      · refine .inr (.inl ⟨‹_›, ?_⟩)
        cases s with
        | none => simp at h
        | some a => exact ⟨a, rfl, by simpa using h⟩
      · simp at h
    · split at h
      · exact .inr (.inr ⟨‹_›, by simpa using h⟩)
      · simp at h
  · rintro (⟨h, a, rfl, rfl⟩ | ⟨h, a, rfl, rfl⟩ | ⟨h, rfl⟩)
    · exact .inl (.inl (by rw [if_pos h]; simp))
    · exact .inl (.inr (by rw [if_pos h]; simp))
    · exact .inr (by rw [if_pos h]; simp)
theorem mul_le_r {a b d : Int} (h : a ≤ b) (hd : 0 ≤ d) : a * d ≤ b * d := Int.mul_le_mul_of_nonneg_right h hd
theorem comp_le {s f : Option Int} {i j : IS} {x l u : Int} (ord : ∀ a b, s = some a → f = some b → a ≤ b) (h1 : Comp s f i j) (h2 : Comp s f j i) (hl : l ∈ lowAt s f x i) (hu : u ∈ upAt s f x j) : l ≤ u := by
  rcases mem_lowAt.mp hl with ⟨c, a, e, rfl⟩ | ⟨c, b, e, rfl⟩ | ⟨c, rfl⟩ <;> rcases mem_upAt.mp hu with ⟨k, b', e', rfl⟩ | ⟨k, a', e', rfl⟩ | ⟨k, rfl⟩
  · have o := ord _ _ e e'
    rcases Int.lt_trichotomy i.x j.x with z | z | z
    · have t := (h1.1 z).1 a e
      have m := mul_le_r o (show 0 ≤ x - j.x by omega)
      have : a * (x - i.x) = a * (j.x - i.x) + a * (x - j.x) := by rw [← Int.mul_add]; congr 1; omega
      omega
    · have t := h1.2 z
      have m := mul_le_r o (show 0 ≤ x - i.x by omega)
      rw [← z]
      omega
    · have t := (h2.1 z).2 b' e'
      have m := mul_le_r o (show 0 ≤ x - i.x by omega)
      have : b' * (x - j.x) = b' * (i.x - j.x) + b' * (x - i.x) := by rw [← Int.mul_add]; congr 1; omega
      omega
  · rw [e] at e'
    cases e'
    have t := (h1.1 (by omega)).1 a e
    have : a * (j.x - i.x) = a * (j.x - x) + a * (x - i.x) := by rw [← Int.mul_add]; congr 1; omega
    omega
  · have t := (h1.1 (by omega)).1 a e
    rw [k] at t
    exact t
  · rw [e] at e'
    cases e'
    have t := (h2.1 (by omega)).2 b e
    have : b * (i.x - j.x) = b * (i.x - x) + b * (x - j.x) := by rw [← Int.mul_add]; congr 1; omega
    omega
  · have o := ord _ _ e' e
    rcases Int.lt_trichotomy i.x j.x with z | z | z
    · have t := (h1.1 z).1 a' e'
      have m := mul_le_r o (show 0 ≤ i.x - x by omega)
      have : a' * (j.x - x) = a' * (j.x - i.x) + a' * (i.x - x) := by rw [← Int.mul_add]; congr 1; omega
      omega
    · have t := h1.2 z
      have m := mul_le_r o (show 0 ≤ i.x - x by omega)
      rw [← z]
      omega
    · have t := (h2.1 z).2 b e
      have m := mul_le_r o (show 0 ≤ j.x - x by omega)
      have : b * (i.x - x) = b * (i.x - j.x) + b * (j.x - x) := by rw [← Int.mul_add]; congr 1; omega
      omega
  · have t := (h2.1 (by omega)).2 b e
    rw [k] at t
    exact t
  · have t := (h2.1 (by omega)).2 b' e'
    rw [c] at t
    omega
  · have t := (h1.1 (by omega)).1 a' e'
    rw [c] at t
    omega
  · exact h1.2 (by omega)
theorem list_max : ∀ (xs : List Int), xs ≠ [] → ∃ m ∈ xs, ∀ y ∈ xs, y ≤ m
  | [x], _ => ⟨x, by simp, fun y m => by rw [List.mem_singleton.mp m]; exact Int.le_refl _⟩
  | x :: y :: r, _ => by
    obtain ⟨m, h1, h2⟩ := list_max (y :: r) (by simp)
    by_cases c : m ≤ x
    · exact ⟨x, by simp, fun z hz => by
        rcases List.mem_cons.mp hz with e | hz
        · omega
        · exact Int.le_trans (h2 z hz) c⟩
    · exact ⟨m, List.mem_cons_of_mem _ h1, fun z hz => by
        rcases List.mem_cons.mp hz with e | hz
        · omega
        · exact h2 z hz⟩
theorem helly {s f : Option Int} {x : Int} {S : List IS} (ord : ∀ a b, s = some a → f = some b → a ≤ b) (hc : ∀ i ∈ S, ∀ j ∈ S, Comp s f i j) (h0 : ∃ i ∈ S, i.x = x) : ∃ v, ∀ i ∈ S, (∀ l ∈ lowAt s f x i, l ≤ v) ∧ ∀ u ∈ upAt s f x i, v ≤ u := by
  obtain ⟨i, hi, e⟩ := h0
  have ne : S.flatMap (lowAt s f x) ≠ [] := by
    have : i.lo ∈ S.flatMap (lowAt s f x) := List.mem_flatMap.mpr ⟨i, hi, mem_lowAt.mpr (.inr (.inr ⟨e, rfl⟩))⟩
    intro z
    rw [z] at this
    cases this
  obtain ⟨m, h1, h2⟩ := list_max _ ne
  obtain ⟨j, hj, hm⟩ := List.mem_flatMap.mp h1
  exact ⟨m, fun k hk => ⟨fun l hl => h2 l (List.mem_flatMap.mpr ⟨k, hk, hl⟩), fun u hu => comp_le ord (hc j hj k hk) (hc k hk j hj) hm hu⟩⟩
def ptS (p : Pr) : IS := ⟨p.1, p.2, p.2⟩
def Fx.all (F : Fx) (rows : List Pr) (x : Int) : List IS := ⟨F.k0, F.v0, F.v1⟩ :: ⟨F.k1, F.v0, F.v1⟩ :: ⟨x, F.v0, F.v1⟩ :: rows.map ptS
theorem mid_le {a d e A B : Int} (h0 : A ≤ B) (h1 : A + a * e ≤ B) (hd : 0 ≤ d) (hde : d ≤ e) : A + a * d ≤ B := by
  by_cases c : 0 ≤ a
  · have := Int.mul_le_mul_of_nonneg_left hde c
    omega
  · have := Int.mul_nonpos_of_nonpos_of_nonneg (show a ≤ 0 by omega) hd
    omega
theorem comp_bb {F : Fx} (ok : F.Ok) {x y : Int} (hx : F.k0 ≤ x) (hy : y ≤ F.k1) : Comp F.s F.f ⟨x, F.v0, F.v1⟩ ⟨y, F.v0, F.v1⟩ := by
  refine ⟨fun h => ⟨fun a e => ?_, fun b e => ?_⟩, fun _ => ok.vals⟩
  · have h : x < y := h
    have := ok.slow a e
    exact mid_le (A := F.v0) (B := F.v1) (d := y - x) (e := F.k1 - F.k0) ok.vals (by omega) (by omega) (by omega)
  · have h : x < y := h
    have := ok.fast b e
    have m := mid_le (a := -b) (d := y - x) (e := F.k1 - F.k0) (A := F.v0) (B := F.v1) ok.vals (by rw [Int.neg_mul]; omega) (by omega) (by omega)
    rw [Int.neg_mul] at m
    show F.v0 - b * (y - x) ≤ F.v1
    omega
theorem comp_bp {F : Fx} {x : Int} {p : Pr} (hr : Room F p) (hx : F.k0 ≤ x ∧ x ≤ F.k1) (hp : F.k0 ≤ p.1 ∧ p.1 ≤ F.k1) : Comp F.s F.f ⟨x, F.v0, F.v1⟩ (ptS p) ∧ Comp F.s F.f (ptS p) ⟨x, F.v0, F.v1⟩ := by
  obtain ⟨r1, r2, r3⟩ := hr
  refine ⟨⟨fun h => ⟨fun a e => ?_, fun b e => ?_⟩, fun _ => r1.1⟩, ⟨fun h => ⟨fun a e => ?_, fun b e => ?_⟩, fun _ => r1.2⟩⟩
  · have h : x < p.1 := h
    have := (r2 a e).1
    exact mid_le (A := F.v0) (B := p.2) (d := p.1 - x) (e := p.1 - F.k0) r1.1 this (by omega) (by omega)
  · have h : x < p.1 := h
    have := (r3 b e).1
    have m := mid_le (a := -b) (d := p.1 - x) (e := p.1 - F.k0) (A := p.2) (B := F.v1) r1.2 (by rw [Int.neg_mul]; omega) (by omega) (by omega)
    rw [Int.neg_mul] at m
    show p.2 - b * (p.1 - x) ≤ F.v1
    omega
  · have h : p.1 < x := h
    have := (r2 a e).2
    exact mid_le (A := p.2) (B := F.v1) (d := x - p.1) (e := F.k1 - p.1) r1.2 this (by omega) (by omega)
  · have h : p.1 < x := h
    have := (r3 b e).2
    have m := mid_le (a := -b) (d := x - p.1) (e := F.k1 - p.1) (A := F.v0) (B := p.2) r1.1 (by rw [Int.neg_mul]; omega) (by omega) (by omega)
    rw [Int.neg_mul] at m
    show F.v0 - b * (x - p.1) ≤ p.2
    omega
theorem comp_pp {F : Fx} {p q : Pr} (h : Near F.s F.f p q) : Comp F.s F.f (ptS p) (ptS q) := by
  refine ⟨fun c => ⟨fun a e => ?_, fun b e => ?_⟩, fun c => ?_⟩
  · have := (h.2.1 c).1 a e
    show p.2 + a * (q.1 - p.1) ≤ q.2
    omega
  · have := (h.2.1 c).2 b e
    show q.2 - b * (q.1 - p.1) ≤ p.2
    omega
  · have := h.1 c
    show p.2 ≤ q.2
    omega
theorem exists_fit {F : Fx} {rows : List Pr} {x : Int} (ok : F.Ok) (hv : Valid F rows) (hx : F.k0 ≤ x ∧ x ≤ F.k1) : ∃ v, Fits F rows (x, v) := by
  have k := ok.keys
  have mem : ∀ i ∈ F.all rows x, (∃ y, (F.k0 ≤ y ∧ y ≤ F.k1) ∧ i = ⟨y, F.v0, F.v1⟩) ∨ ∃ p ∈ rows, i = ptS p := fun i m => by
    rcases List.mem_cons.mp m with e | m
    · exact .inl ⟨F.k0, by omega, e⟩
    rcases List.mem_cons.mp m with e | m
    · exact .inl ⟨F.k1, by omega, e⟩
    rcases List.mem_cons.mp m with e | m
    · exact .inl ⟨x, hx, e⟩
    obtain ⟨p, h1, h2⟩ := List.mem_map.mp m
    exact .inr ⟨p, h1, h2.symm⟩
  obtain ⟨v, hv'⟩ := helly (s := F.s) (f := F.f) (x := x) (S := F.all rows x) ok.ord (fun i hi j hj => by
    rcases mem i hi with ⟨y, hy, rfl⟩ | ⟨p, hp, rfl⟩ <;> rcases mem j hj with ⟨z, hz, rfl⟩ | ⟨q, hq, rfl⟩
    · exact comp_bb ok hy.1 hz.2
    · exact (comp_bp (hv q hq).2.1 hy (hv q hq).1).1
    · exact (comp_bp (hv p hp).2.1 hz (hv p hp).1).2
    · exact comp_pp ((hv q hq).2.2 p hp)) ⟨⟨x, F.v0, F.v1⟩, by simp [Fx.all], rfl⟩
  have g0 := hv' ⟨F.k0, F.v0, F.v1⟩ (by simp [Fx.all])
  have g1 := hv' ⟨F.k1, F.v0, F.v1⟩ (by simp [Fx.all])
  have gx := hv' ⟨x, F.v0, F.v1⟩ (by simp [Fx.all])
  have bx : F.v0 ≤ v ∧ v ≤ F.v1 := ⟨gx.1 _ (mem_lowAt.mpr (.inr (.inr ⟨rfl, rfl⟩))), gx.2 _ (mem_upAt.mpr (.inr (.inr ⟨rfl, rfl⟩)))⟩
  refine ⟨v, ⟨bx, fun a e => ?_, fun b e => ?_⟩, fun q hq => ?_⟩
  · constructor
    · by_cases c : F.k0 < x
      · exact g0.1 _ (mem_lowAt.mpr (.inl ⟨c, a, e, rfl⟩))
      · show F.v0 + a * (x - F.k0) ≤ v
        rw [show x - F.k0 = 0 by omega, Int.mul_zero]
        omega
    · by_cases c : x < F.k1
      · have := g1.2 _ (mem_upAt.mpr (.inr (.inl ⟨c, a, e, rfl⟩)))
        show v + a * (F.k1 - x) ≤ F.v1
        have : v ≤ F.v1 - a * (F.k1 - x) := this
        omega
      · show v + a * (F.k1 - x) ≤ F.v1
        rw [show F.k1 - x = 0 by omega, Int.mul_zero]
        omega
  · constructor
    · by_cases c : F.k0 < x
      · have := g0.2 _ (mem_upAt.mpr (.inl ⟨c, b, e, rfl⟩))
        show v - b * (x - F.k0) ≤ F.v1
        have : v ≤ F.v1 + b * (x - F.k0) := this
        omega
      · show v - b * (x - F.k0) ≤ F.v1
        rw [show x - F.k0 = 0 by omega, Int.mul_zero]
        omega
    · by_cases c : x < F.k1
      · have := g1.1 _ (mem_lowAt.mpr (.inr (.inl ⟨c, b, e, rfl⟩)))
        show F.v0 ≤ v + b * (F.k1 - x)
        have : F.v0 - b * (F.k1 - x) ≤ v := this
        omega
      · show F.v0 ≤ v + b * (F.k1 - x)
        rw [show F.k1 - x = 0 by omega, Int.mul_zero]
        omega
  · have g := hv' (ptS q) (by simp [Fx.all]; exact .inr (.inr (.inr ⟨_, _, hq, rfl⟩)))
    refine ⟨fun c => ?_, fun c => ⟨fun a e => ?_, fun b e => ?_⟩, fun c => ⟨fun a e => ?_, fun b e => ?_⟩⟩
    · have h1 := g.1 _ (mem_lowAt.mpr (.inr (.inr ⟨c, rfl⟩)))
      have h2 := g.2 _ (mem_upAt.mpr (.inr (.inr ⟨c, rfl⟩)))
      have h1 : q.2 ≤ v := h1
      have h2 : v ≤ q.2 := h2
      show q.2 = v
      omega
    · have h1 := g.1 _ (mem_lowAt.mpr (.inl ⟨c, a, e, rfl⟩))
      have h1 : q.2 + a * (x - q.1) ≤ v := h1
      show a * (x - q.1) ≤ v - q.2
      omega
    · have h1 := g.2 _ (mem_upAt.mpr (.inl ⟨c, b, e, rfl⟩))
      have h1 : v ≤ q.2 + b * (x - q.1) := h1
      show v - q.2 ≤ b * (x - q.1)
      omega
    · have h1 := g.2 _ (mem_upAt.mpr (.inr (.inl ⟨c, a, e, rfl⟩)))
      have h1 : v ≤ q.2 - a * (q.1 - x) := h1
      show a * (q.1 - x) ≤ q.2 - v
      omega
    · have h1 := g.1 _ (mem_lowAt.mpr (.inr (.inl ⟨c, b, e, rfl⟩)))
      have h1 : q.2 - b * (q.1 - x) ≤ v := h1
      show q.2 - v ≤ b * (q.1 - x)
      omega
theorem near_symm {s f : Option Int} {p q : Pr} (h : Near s f p q) : Near s f q p := ⟨fun e => (h.1 e.symm).symm, h.2.2, h.2.1⟩
theorem near_refl (s f : Option Int) (p : Pr) : Near s f p p := ⟨fun _ => rfl, fun e => absurd e (Int.lt_irrefl _), fun e => absurd e (Int.lt_irrefl _)⟩
theorem valid_add {F : Fx} {ts ts' : List Pr} {p : Pr} (h : Valid F ts) (hi : F.k0 ≤ p.1 ∧ p.1 ≤ F.k1) (hf : Fits F ts p) (mem : ∀ q ∈ ts', q ∈ ts ∨ q = p) : Valid F ts' := fun q m => by
  rcases mem q m with m1 | rfl
  · obtain ⟨a, b, c⟩ := h q m1
    refine ⟨a, b, fun r mr => ?_⟩
    rcases mem r mr with m2 | rfl
    · exact c r m2
    · exact near_symm (hf.2 q m1)
  · refine ⟨hi, hf.1, fun r mr => ?_⟩
    rcases mem r mr with m2 | rfl
    · exact hf.2 r m2
    · exact near_refl _ _ _


inductive Pro where
  | none
  | one
  | pace (s f : Option Int)
def Pro.obj (kl : Kl) : Pro → Dt
  | .none => .obj kl.Promise []
  | .one => .obj kl.OneToOne []
  | .pace s f => .obj kl.Pace [("slowest", oD s), ("fastest", oD f)]
structure Kn where
  first : Int
  last : Int
  least : Int
  greatest : Int
  pr : Pro
  ts : List Pr
def Kn.fs (kl : Kl) (k : Kn) : List (Str × Dt) := [("first", .v (.int k.first)), ("last", .v (.int k.last)), ("least", .v (.int k.least)), ("greatest", .v (.int k.greatest)), ("promise", k.pr.obj kl), ("taught", .lst (k.ts.map prD))]
def Kn.dt (kl : Kl) (k : Kn) : Dt := .obj kl.Known (k.fs kl)
def okEnds (a b : Int) : Prop := -(10 ^ 18) ≤ a ∧ b ≤ 10 ^ 18 ∧ a ≤ b
def Asc (ts : List Pr) : Prop := ts.Pairwise fun p q => p.1 < q.1
def Kn.F (k : Kn) : Fx := ⟨k.first, k.last, k.least, k.greatest, match k.pr with
  | .pace s _ => s
  | _ => none, match k.pr with
  | .pace _ f => f
  | _ => none⟩
def Dist (ts : List Pr) : Prop := ∀ p ∈ ts, ∀ q ∈ ts, p.2 = q.2 → p.1 = q.1
def smO (o : Option Int) : Prop := ∀ a, o = some a → -(10 ^ 18) ≤ a ∧ a ≤ 10 ^ 18
def GoodK (k : Kn) : Prop := match k.pr with
  | .none => True
  | .one => Dist k.ts ∧ k.last - k.first ≤ k.greatest - k.least
  | .pace s f => k.F.Ok ∧ smO s ∧ smO f ∧ Valid k.F k.ts
structure Kn.Ok (k : Kn) : Prop where
  keys : okEnds k.first k.last
  vals : okEnds k.least k.greatest
  asc : Asc k.ts
  at_ : ∀ p ∈ k.ts, k.first ≤ p.1 ∧ p.1 ≤ k.last
  in_ : ∀ p ∈ k.ts, k.least ≤ p.2 ∧ p.2 ≤ k.greatest
  len : k.ts.length ≤ 40
  good : GoodK k
def toldK : List Pr → Int → Option Int
  | [], _ => none
  | p :: ts, x => if p.1 = x then some p.2 else toldK ts x
theorem toldK_mem : ∀ {ts : List Pr} {x w : Int}, toldK ts x = some w → (x, w) ∈ ts
  | p :: ts, x, w, h => by
    unfold toldK at h
    by_cases c : p.1 = x
    · rw [if_pos c] at h
      cases h
      subst c
      exact List.mem_cons_self
    · rw [if_neg c] at h
      exact List.mem_cons_of_mem _ (toldK_mem h)
theorem toldK_none : ∀ {ts : List Pr} {x : Int}, toldK ts x = none → ∀ p ∈ ts, p.1 ≠ x
  | q :: ts, x, h, p, m => by
    unfold toldK at h
    by_cases c : q.1 = x
    · rw [if_pos c] at h
      cases h
    · rw [if_neg c] at h
      rcases List.mem_cons.mp m with e | m
      · rw [e]
        exact c
      · exact toldK_none h p m
abbrev Gp := Int × Int × Option Pr × Option Pr
def oP : Option Pr → Dt
  | none => .non
  | some p => prD p
def gpD (g : Gp) : Dt := .tup [.v (.int g.1), .v (.int g.2.1), oP g.2.2.1, oP g.2.2.2]
def gapsL (last : Int) : Int → Option Pr → List Pr → List Gp
  | low, before, [] => if low ≤ last then [(low, last, before, none)] else []
  | low, before, s :: t => (if low < s.1 then [(low, s.1 - 1, before, some s)] else []) ++ gapsL last (s.1 + 1) (some s) t
def Kn.gaps (k : Kn) : List Gp := gapsL k.last k.first none k.ts
def findG (gs : List Gp) (key : Int) : Option Gp := gs.foldl (fun a g => if g.1 ≤ key ∧ key ≤ g.2.1 then some g else a) none
def oG : Option Gp → Dt
  | none => .non
  | some g => gpD g
def Free (k : Kn) (key v : Int) : Prop := match k.pr with
  | .none => k.least ≤ v ∧ v ≤ k.greatest
  | .one => (k.least ≤ v ∧ v ≤ k.greatest) ∧ ∀ p ∈ k.ts, p.2 ≠ v
  | .pace _ _ => Fits k.F k.ts (key, v)
def Lot (k : Kn) (key v : Int) : Prop := match toldK k.ts key with
  | some w => v = w
  | none => Free k key v
def noKeyX (kl : Kl) (key : Int) : Xn := ⟨kl.NoKey, [("key", .v (.int key))]⟩
def impX (kl : Kl) (key v : Int) : Xn := ⟨kl.Impossible, [("value", .v (.int v)), ("key", .v (.int key))]⟩
def manyX (kl : Kl) (n : Int) : Xn := ⟨kl.TooMany, [("limit", .v (.int n))]⟩
theorem clean1 {C : Addr} {f : Str} {v : V} : CleanX ⟨C, [(f, .v v)]⟩ := fun g m => by
  rw [List.mem_singleton.mp m]
  exact .v _
def Step (k : Kn) (p : Pr) (k' : Kn) : Prop := (toldK k.ts p.1 ≠ none ∧ k' = k) ∨ (toldK k.ts p.1 = none ∧ ∃ ts', Asc ts' ∧ ts'.Perm (k.ts ++ [p]) ∧ k' = { k with ts := ts' })


def sd_check_ends (kl : Kl) : Sd := fun as Q E => ∃ a b : Int, as = [.v (.int a), .v (.int b)] ∧ (¬ okEnds a b → E (badX kl (a, b))) ∧ (okEnds a b → Q .non)
def d_check_ends (kl : Kl) : DS := (dIfS (dOr (dTest (dOp dLt (dVar 0) (dUn dNeg (dC (.int 1000000000000000000))))) (dOr (dTest (dOp dGt (dVar 1) (dC (.int 1000000000000000000)))) (dTest (dOp dGt (dVar 0) (dVar 1)))))
  (dRaise kl.BadStretch ["low", "high"] (dCons (dVar 0) (dCons (dVar 1) dNil)))
  dNext)
theorem len_check_ends (kl : Kl) : ∀ as Q E, sd_check_ends kl as Q E → as.length = 2 := by
  rintro _ _ _ ⟨_, _, rfl, _⟩
  rfl
theorem pure_check_ends (kl : Kl) : ∀ as Q E, sd_check_ends kl as Q E → d_check_ends kl (dEnds Q E) (startD 2 as) := by
  rintro as Q E ⟨a, b, rfl, he, hq⟩
  refine iteD (fun h => ⟨rfl, he fun o => ?_⟩) (fun h1 => ?_)
  · have h : a < -(10 ^ 18) := h
    have := o.1
    omega
  refine iteD (fun h => ⟨rfl, he fun o => ?_⟩) (fun h2 => ?_)
  · have h : 10 ^ 18 < b := h
    have := o.2.1
    omega
  refine iteD (fun h => ⟨rfl, he fun o => ?_⟩) (fun h3 => ?_)
  · have h : b < a := h
    have := o.2.2
    omega
  have h1 : ¬ a < -(10 ^ 18) := h1
  have h2 : ¬ 10 ^ 18 < b := h2
  have h3 : ¬ b < a := h3
  exact hq ⟨by omega, by omega, by omega⟩
def inK (k : Kn) (key : Int) : Prop := k.first ≤ key ∧ key ≤ k.last
def sd_Known_told (kl : Kl) : Sd := fun as Q E => ∃ (k : Kn) (key : Int), as = [k.dt kl, .v (.int key)] ∧ (¬ inK k key → E (noKeyX kl key)) ∧ (inK k key → Q (oD (toldK k.ts key)))
def d_Known_told (kl : Kl) : DS := (dSeq (dIfS (dOr (dTest (dOp dLt (dVar 1) (dAt [kl.Known] "first" (dVar 0)))) (dTest (dOp dGt (dVar 1) (dAt [kl.Known] "last" (dVar 0)))))
  (dRaise kl.NoKey ["key"] (dCons (dVar 1) dNil))
  dNext)
  (dSeq (dFor (iSeq (dAt [kl.Known] "taught" (dVar 0))) (gdSq 2 (gdCons (gdName 2) (gdCons (gdName 3) gdNil)))
  (dIfS (dTest (dOp dEq (dVar 2) (dVar 1)))
  (dRet (dVar 3))
  dNext))
  (dRetE (dC .non))))
theorem toldK_skip {ts : List Pr} {i : Nat} {p : Pr} {x : Int} (h : ts[i]? = some p) : toldK (ts.drop i) x = if p.1 = x then some p.2 else toldK (ts.drop (i + 1)) x := by
  rw [List.drop_eq_getElem_cons (List.getElem?_eq_some_iff.mp h).1, (List.getElem?_eq_some_iff.mp h).2]
  rfl
theorem pure_Known_told (kl : Kl) : ∀ as Q E, sd_Known_told kl as Q E → d_Known_told kl (dEnds Q E) (startD 4 as) := by
  rintro as Q E ⟨k, key, rfl, he, hq⟩
  refine ⟨_, _, _, rfl, by simp, rfl, ?_⟩
  refine iteD (fun h => ⟨rfl, he fun o => ?_⟩) (fun h1 => ?_)
  · have h : key < k.first := h
    have := o.1
    omega
  refine ⟨_, _, _, rfl, by simp, rfl, ?_⟩
  refine iteD (fun h => ⟨rfl, he fun o => ?_⟩) (fun h2 => ?_)
  · have h : k.last < key := h
    have := o.2
    omega
  have h1 : ¬ key < k.first := h1
  have h2 : ¬ k.last < key := h2
  have hq := hq ⟨by omega, by omega⟩
  refine ⟨_, _, _, rfl, by simp, rfl, ?_⟩
  refine for_inv (fun i ρ => ∃ s2 s3, ρ = [.dat (k.dt kl), .int key, s2, s3] ∧ toldK k.ts key = toldK (k.ts.drop i) key) ⟨_, _, rfl, rfl⟩ ?_ ?_
  · rintro i x ρ hx ⟨s2, s3, rfl, e⟩
    obtain ⟨p, hp, rfl⟩ := get_map hx
    rw [toldK_skip hp] at e
    refine ⟨rfl, rfl, ?_⟩
    refine ⟨_, _, rfl, rfl, rfl, rfl, ?_⟩
    refine iteE (fun h => ?_) (fun h => ?_)
    · have h : p.1 = key := h
      rw [if_pos h] at e
      rw [e] at hq
      exact hq
    · have h : ¬ p.1 = key := h
      rw [if_neg h] at e
      exact ⟨_, _, rfl, e⟩
  · rintro ρ ⟨s2, s3, rfl, e⟩
    rw [List.length_map, List.drop_length] at e
    rw [e] at hq
    exact hq
def sd_Known_gaps (kl : Kl) : Sd := fun as Q _ => ∃ k : Kn, as = [k.dt kl] ∧ k.ts.length ≤ 1000 ∧ Q (.lst (k.gaps.map gpD))
def d_Known_gaps (kl : Kl) : DS := (dSeq (dOwn 1 dNil)
  (dSeq (dAsg (dAt [kl.Known] "first" (dVar 0)) (gdName 2))
  (dSeq (dAsg (dC .non) (gdName 3))
  (dSeq (dFor (iSeq (dAt [kl.Known] "taught" (dVar 0))) (gdName 4)
  (dSeq (dIfS (dTest (dOp dLt (dVar 2) (dOp dIx (dVar 4) (dC (.int 0)))))
  (dApp 1 (dTup (dCons (dVar 2) (dCons (dOp dSub (dOp dIx (dVar 4) (dC (.int 0))) (dC (.int 1))) (dCons (dVar 3) (dCons (dVar 4) dNil))))))
  dNext)
  (dSeq (dAsg (dOp dAdd (dOp dIx (dVar 4) (dC (.int 0))) (dC (.int 1))) (gdName 2))
  (dAsg (dVar 4) (gdName 3)))))
  (dSeq (dIfS (dTest (dOp dLe (dVar 2) (dAt [kl.Known] "last" (dVar 0))))
  (dApp 1 (dTup (dCons (dVar 2) (dCons (dAt [kl.Known] "last" (dVar 0)) (dCons (dVar 3) (dCons (dC .non) dNil))))))
  dNext)
  (dRet (dVar 1)))))))
theorem pure_Known_gaps (kl : Kl) : ∀ as Q E, sd_Known_gaps kl as Q E → d_Known_gaps kl (dEnds Q E) (startD 5 as) := by
  rintro as Q E ⟨k, rfl, hl, hq⟩
  refine ⟨by simp, ?_⟩
  refine ⟨_, _, _, rfl, by simp, rfl, ?_⟩
  refine ⟨_, _, _, rfl, by simp, rfl, ?_⟩
  refine for_inv (fun i ρ => ∃ (G : List Gp) (L : List Dt) (low : Int) (b : Option Pr) (s4 : Sl), ρ = [.dat (k.dt kl), .own L, .int low, .dat (oP b), s4] ∧ L = G.map gpD ∧ k.gaps = G ++ gapsL k.last low b (k.ts.drop i) ∧ G.length ≤ i) ⟨[], _, _, none, _, rfl, rfl, rfl, by simp⟩ ?_ ?_
  · rintro i x ρ hx ⟨G, _, low, b, s4, rfl, rfl, e, lg⟩
    obtain ⟨p, hp, rfl⟩ := get_map hx
    have hi := (List.getElem?_eq_some_iff.mp hp).1
    have e2 : gapsL k.last low b (k.ts.drop i) = (if low < p.1 then [(low, p.1 - 1, b, some p)] else []) ++ gapsL k.last (p.1 + 1) (some p) (k.ts.drop (i + 1)) := by
      rw [List.drop_eq_getElem_cons hi, (List.getElem?_eq_some_iff.mp hp).2]
      rfl
    rw [e2, ← List.append_assoc] at e
    refine ⟨_, at2a, ?_⟩
    refine iteD (fun h => ?_) (fun h => ?_)
    · have h : low < p.1 := h
      rw [if_pos h] at e
      refine ⟨_, at2a, by simp, by simp; omega, ?_⟩
      refine ⟨_, at2a, ?_⟩
      exact ⟨G ++ [(low, p.1 - 1, b, some p)], _, _, some p, .dat (prD p), rfl, by rw [List.map_append]; rfl, e, by simp; omega⟩
    · have h : ¬ low < p.1 := h
      rw [if_neg h, List.append_nil] at e
      refine ⟨_, at2a, ?_⟩
      exact ⟨G, _, _, some p, .dat (prD p), rfl, rfl, e, by omega⟩
  · rintro ρ ⟨G, _, low, b, s4, rfl, rfl, e, lg⟩
    rw [List.length_map, List.drop_length] at e
    rw [List.length_map] at lg
    unfold gapsL at e
    refine ⟨_, _, _, rfl, by simp, rfl, ?_⟩
    refine iteD (fun h => ?_) (fun h => ?_)
    · have h : low ≤ k.last := h
      rw [if_pos h] at e
      rw [e, List.map_append] at hq
      refine ⟨_, _, _, rfl, by simp, rfl, by simp, by simp; omega, ?_⟩
      exact hq
    · have h : ¬ low ≤ k.last := h
      rw [if_neg h, List.append_nil] at e
      rw [e] at hq
      exact hq
def tb_gaps (kl : Kl) : List (Addr × Sd) := [(kl.Known, sd_Known_gaps kl)]
def sd_Known_gap_of (kl : Kl) : Sd := fun as Q _ => ∃ (k : Kn) (key : Int), as = [k.dt kl, .v (.int key)] ∧ k.ts.length ≤ 1000 ∧ Q (oG (findG k.gaps key))
def d_Known_gap_of (kl : Kl) : DS := (dSeq (dAsg (dC .non) (gdName 2))
  (dSeq (dFor (iSeq (dMeth (tb_gaps kl) "gaps" (dVar 0) dNil)) (gdName 3)
  (dIfS (dTest (dChain dLe dLe (dOp dIx (dVar 3) (dC (.int 0))) (dVar 1) (dOp dIx (dVar 3) (dC (.int 1)))))
  (dAsg (dVar 3) (gdName 2))
  dNext))
  (dRet (dVar 2))))
theorem findG_next {gs : List Gp} {i : Nat} {g : Gp} {key : Int} (h : gs[i]? = some g) : findG (gs.take (i + 1)) key = if g.1 ≤ key ∧ key ≤ g.2.1 then some g else findG (gs.take i) key := by
  unfold findG
  rw [take_next h, List.foldl_append]
  rfl
theorem at4a {a b c d : Dt} : atI [a, b, c, d] 0 = some a := rfl
theorem at4b {a b c d : Dt} : atI [a, b, c, d] 1 = some b := rfl
theorem at4c {a b c d : Dt} : atI [a, b, c, d] 2 = some c := rfl
theorem at4d {a b c d : Dt} : atI [a, b, c, d] 3 = some d := rfl
theorem pure_Known_gap_of (kl : Kl) : ∀ as Q E, sd_Known_gap_of kl as Q E → d_Known_gap_of kl (dEnds Q E) (startD 4 as) := by
  rintro as Q E ⟨k, key, rfl, hl, hq⟩
  refine ⟨_, _, sd_Known_gaps kl, rfl, by simp [tb_gaps], rfl, ?_⟩
  refine ⟨k, rfl, hl, ?_⟩
  refine for_inv (fun i ρ => ∃ s3, ρ = [.dat (k.dt kl), .int key, .dat (oG (findG (k.gaps.take i) key)), s3]) ⟨_, rfl⟩ ?_ ?_
  · rintro i x ρ hx ⟨s3, rfl⟩
    obtain ⟨g, hg, rfl⟩ := get_map hx
    have e := findG_next (key := key) hg
    refine ⟨_, at4a, ?_⟩
    refine iteD (fun h1 => ?_) (fun h1 => ?_)
    · refine ⟨_, at4b, ?_⟩
      refine iteD (fun h2 => ?_) (fun h2 => ?_)
      · rw [if_pos ⟨h1, h2⟩] at e
        exact ⟨.dat (gpD g), by rw [e]; rfl⟩
      · rw [if_neg (fun z => h2 z.2)] at e
        exact ⟨.dat (gpD g), by rw [e]; rfl⟩
    · rw [if_neg (fun z => h1 z.1)] at e
      exact ⟨.dat (gpD g), by rw [e]; rfl⟩
  · rintro ρ ⟨s3, rfl⟩
    rw [List.length_map, List.take_length]
    exact hq

def Bef (ts : List Pr) (key : Int) : Option Pr → Prop
  | none => ∀ q ∈ ts, ¬ q.1 < key
  | some p => p ∈ ts ∧ p.1 < key ∧ ∀ q ∈ ts, q.1 < key → q.1 ≤ p.1
def Beh (ts : List Pr) (key : Int) : Option Pr → Prop
  | none => ∀ q ∈ ts, ¬ key < q.1
  | some p => p ∈ ts ∧ key < p.1 ∧ ∀ q ∈ ts, key < q.1 → p.1 ≤ q.1
theorem gaps_fact {last key : Int} : ∀ (ts : List Pr) (low : Int) (b : Option Pr), Asc ts → (∀ p ∈ ts, low ≤ p.1) → ∀ g ∈ gapsL last low b ts, g.1 ≤ key → key ≤ g.2.1 →
    low ≤ g.1 ∧ ((g.2.2.1 = b ∧ ∀ q ∈ ts, ¬ q.1 < key) ∨ ∃ p, g.2.2.1 = some p ∧ Bef ts key (some p)) ∧ Beh ts key g.2.2.2
  | [], low, b, _, _, g, m, h1, h2 => by
    unfold gapsL at m
    split at m
    · rw [List.mem_singleton.mp m]
      exact ⟨Int.le_refl _, .inl ⟨rfl, fun q m => nomatch m⟩, fun q m => nomatch m⟩
    · cases m
  | s :: t, low, b, ha, hl, g, m, h1, h2 => by
    obtain ⟨a1, a2⟩ := List.pairwise_cons.mp ha
    unfold gapsL at m
    rcases List.mem_append.mp m with m | m
    · split at m
      · rw [List.mem_singleton.mp m] at h1 h2 ⊢
        have h2 : key ≤ s.1 - 1 := h2
        refine ⟨Int.le_refl _, .inl ⟨rfl, fun q mq => ?_⟩, List.mem_cons_self, by omega, fun q mq _ => ?_⟩
        · rcases List.mem_cons.mp mq with e | mq
          · rw [e]; omega
          · have := a1 q mq
            omega
        · rcases List.mem_cons.mp mq with e | mq
          · rw [e]; exact Int.le_refl _
          · have := a1 q mq
            omega
      · cases m
    · obtain ⟨z, y, x⟩ := gaps_fact t (s.1 + 1) (some s) a2 (fun p hp => by have := a1 p hp; omega) g m h1 h2
      have hs : s.1 < key := by omega
      refine ⟨by have := hl s List.mem_cons_self; omega, .inr ?_, ?_⟩
      · rcases y with ⟨e, y⟩ | ⟨p, e, y1, y2, y3⟩
        · refine ⟨s, e, List.mem_cons_self, hs, fun q mq hq => ?_⟩
          rcases List.mem_cons.mp mq with e | mq
          · rw [e]; exact Int.le_refl _
          · exact absurd hq (y q mq)
        · refine ⟨p, e, List.mem_cons_of_mem _ y1, y2, fun q mq hq => ?_⟩
          rcases List.mem_cons.mp mq with e | mq
          · rw [e]
            exact Int.le_of_lt (a1 p y1)
          · exact y3 q mq hq
      · revert x
        cases g.2.2.2 with
        | none =>
          intro x q mq
          rcases List.mem_cons.mp mq with e | mq
          · rw [e]; omega
          · exact x q mq
        | some p =>
          rintro ⟨x1, x2, x3⟩
          refine ⟨List.mem_cons_of_mem _ x1, x2, fun q mq hq => ?_⟩
          rcases List.mem_cons.mp mq with e | mq
          · rw [e] at hq
            omega
          · exact x3 q mq hq
theorem gaps_has {last key : Int} : ∀ (ts : List Pr) (low : Int) (b : Option Pr), Asc ts → low ≤ key → key ≤ last → toldK ts key = none → ∃ g ∈ gapsL last low b ts, g.1 ≤ key ∧ key ≤ g.2.1
  | [], low, b, _, h1, h2, _ => by
    unfold gapsL
    rw [if_pos (by omega)]
    exact ⟨_, List.mem_singleton.mpr rfl, h1, h2⟩
  | s :: t, low, b, ha, h1, h2, h3 => by
    obtain ⟨a1, a2⟩ := List.pairwise_cons.mp ha
    have ne := toldK_none h3 s List.mem_cons_self
    unfold gapsL
    rcases Int.lt_or_le key s.1 with c | c
    · rw [if_pos (by omega)]
      exact ⟨_, List.mem_append_left _ (List.mem_singleton.mpr rfl), h1, by show key ≤ s.1 - 1; omega⟩
    · obtain ⟨g, m, z⟩ := gaps_has t (s.1 + 1) (some s) a2 (by omega) h2 (by
        unfold toldK at h3
        rwa [if_neg ne] at h3)
      exact ⟨g, List.mem_append_right _ m, z⟩
theorem findG_sound {key : Int} : ∀ (gs : List Gp) (a : Option Gp) {g : Gp}, gs.foldl (fun a g => if g.1 ≤ key ∧ key ≤ g.2.1 then some g else a) a = some g → a = some g ∨ (g ∈ gs ∧ g.1 ≤ key ∧ key ≤ g.2.1)
  | [], a, g, h => .inl h
  | x :: gs, a, g, h => by
    rcases findG_sound gs _ h with e | ⟨m, z⟩
    · have e : (if x.1 ≤ key ∧ key ≤ x.2.1 then some x else a) = some g := e
      split at e
      · cases e
        exact .inr ⟨List.mem_cons_self, ‹_›⟩
      · exact .inl e
    · exact .inr ⟨List.mem_cons_of_mem _ m, z⟩
theorem findG_none {key : Int} : ∀ (gs : List Gp) (a : Option Gp), gs.foldl (fun a g => if g.1 ≤ key ∧ key ≤ g.2.1 then some g else a) a = none → a = none ∧ ∀ g ∈ gs, ¬ (g.1 ≤ key ∧ key ≤ g.2.1)
  | [], a, h => ⟨h, fun g m => nomatch m⟩
  | x :: gs, a, h => by
    obtain ⟨e, z⟩ := findG_none gs _ h
    have e : (if x.1 ≤ key ∧ key ≤ x.2.1 then some x else a) = none := e
    split at e
    · cases e
    · refine ⟨e, fun g m => ?_⟩
      rcases List.mem_cons.mp m with rfl | m
      · assumption
      · exact z g m
theorem gap_key {k : Kn} (hk : k.Ok) {key : Int} (h1 : inK k key) (h2 : toldK k.ts key = none) : ∃ g : Gp, findG k.gaps key = some g ∧ g ∈ k.gaps ∧ (g.1 ≤ key ∧ key ≤ g.2.1) ∧ k.first ≤ g.1 ∧ Bef k.ts key g.2.2.1 ∧ Beh k.ts key g.2.2.2 := by
  have hl : ∀ p ∈ k.ts, k.first ≤ p.1 := fun p m => (hk.at_ p m).1
  cases e : findG k.gaps key with
  | none =>
    obtain ⟨g, m, z⟩ := gaps_has (last := k.last) k.ts k.first none hk.asc h1.1 h1.2 h2
    exact absurd z ((findG_none _ _ e).2 g m)
  | some g =>
    rcases findG_sound _ _ e with z | ⟨m, z⟩
    · cases z
    · obtain ⟨y1, y2, y3⟩ := gaps_fact k.ts k.first none hk.asc hl g m z.1 z.2
      refine ⟨g, rfl, m, z, y1, ?_, y3⟩
      rcases y2 with ⟨e, y⟩ | ⟨p, e, y⟩
      · rw [e]
        exact y
      · rw [e]
        exact y
abbrev Ln := Int × Int × Int
def lnD (l : Ln) : Dt := .tup [.v (.int l.1), .v (.int l.2.1), .v (.int l.2.2)]
def hgt (l : Ln) (key : Int) : Int := l.2.1 + l.2.2 * (key - l.1)
def endOf (o : Option Pr) (x v : Int) : Pr := o.getD (x, v)
def lowerL (F : Fx) (bef beh : Option Pr) : List Ln := [(F.k0, F.v0, 0)] ++ (match F.s with
  | some a => [((endOf bef F.k0 F.v0).1, (endOf bef F.k0 F.v0).2, a)]
  | none => []) ++ match F.f with
  | some b => [((endOf beh F.k1 F.v0).1, (endOf beh F.k1 F.v0).2, b)]
  | none => []
def upperL (F : Fx) (bef beh : Option Pr) : List Ln := [(F.k0, F.v1, 0)] ++ (match F.f with
  | some b => [((endOf bef F.k0 F.v1).1, (endOf bef F.k0 F.v1).2, b)]
  | none => []) ++ match F.s with
  | some a => [((endOf beh F.k1 F.v1).1, (endOf beh F.k1 F.v1).2, a)]
  | none => []
theorem mem_lowerL {F : Fx} {bef beh : Option Pr} {l : Ln} : l ∈ lowerL F bef beh ↔ l = (F.k0, F.v0, 0) ∨ (∃ a, F.s = some a ∧ l = ((endOf bef F.k0 F.v0).1, (endOf bef F.k0 F.v0).2, a)) ∨ ∃ b, F.f = some b ∧ l = ((endOf beh F.k1 F.v0).1, (endOf beh F.k1 F.v0).2, b) := by
  unfold lowerL
  cases F.s <;> cases F.f <;> simp
theorem mem_upperL {F : Fx} {bef beh : Option Pr} {l : Ln} : l ∈ upperL F bef beh ↔ l = (F.k0, F.v1, 0) ∨ (∃ b, F.f = some b ∧ l = ((endOf bef F.k0 F.v1).1, (endOf bef F.k0 F.v1).2, b)) ∨ ∃ a, F.s = some a ∧ l = ((endOf beh F.k1 F.v1).1, (endOf beh F.k1 F.v1).2, a) := by
  unfold upperL
  cases F.s <;> cases F.f <;> simp
theorem lines_fit {F : Fx} {ts : List Pr} {bef beh : Option Pr} {key v : Int} (hv : Valid F ts) (hn : ∀ q ∈ ts, q.1 ≠ key) (h1 : Bef ts key bef) (h2 : Beh ts key beh) (hx : F.k0 ≤ key ∧ key ≤ F.k1) :
    ((∀ l ∈ lowerL F bef beh, hgt l key ≤ v) ∧ ∀ l ∈ upperL F bef beh, v ≤ hgt l key) ↔ Fits F ts (key, v) := by
  constructor
  · rintro ⟨lo, up⟩
    have l0 := lo _ (mem_lowerL.mpr (.inl rfl))
    have u0 := up _ (mem_upperL.mpr (.inl rfl))
    have l0 : F.v0 + 0 * (key - F.k0) ≤ v := l0
    have u0 : v ≤ F.v1 + 0 * (key - F.k0) := u0
    rw [Int.zero_mul] at l0 u0
    have ls : ∀ a, F.s = some a → (endOf bef F.k0 F.v0).2 + a * (key - (endOf bef F.k0 F.v0).1) ≤ v := fun a e => lo _ (mem_lowerL.mpr (.inr (.inl ⟨a, e, rfl⟩)))
    have lf : ∀ b, F.f = some b → (endOf beh F.k1 F.v0).2 + b * (key - (endOf beh F.k1 F.v0).1) ≤ v := fun b e => lo _ (mem_lowerL.mpr (.inr (.inr ⟨b, e, rfl⟩)))
    have uf : ∀ b, F.f = some b → v ≤ (endOf bef F.k0 F.v1).2 + b * (key - (endOf bef F.k0 F.v1).1) := fun b e => up _ (mem_upperL.mpr (.inr (.inl ⟨b, e, rfl⟩)))
    have us : ∀ a, F.s = some a → v ≤ (endOf beh F.k1 F.v1).2 + a * (key - (endOf beh F.k1 F.v1).1) := fun a e => up _ (mem_upperL.mpr (.inr (.inr ⟨a, e, rfl⟩)))
    refine ⟨⟨⟨by omega, by omega⟩, fun a e => ⟨?_, ?_⟩, fun b e => ⟨?_, ?_⟩⟩, fun q hq => ⟨fun c => absurd c (hn q hq), fun c => ?_, fun c => ?_⟩⟩
    · have z := ls a e
      cases bef with
      | none => exact z
      | some p =>
        have y := ((hv p h1.1).2.1.2.1 a e).1
        have z : p.2 + a * (key - p.1) ≤ v := z
        show F.v0 + a * (key - F.k0) ≤ v
        simp only [Int.mul_sub] at *
        omega
    · have z := us a e
      cases beh with
      | none =>
        have z : v ≤ F.v1 + a * (key - F.k1) := z
        show v + a * (F.k1 - key) ≤ F.v1
        simp only [Int.mul_sub] at *
        omega
      | some p =>
        have y := ((hv p h2.1).2.1.2.1 a e).2
        have z : v ≤ p.2 + a * (key - p.1) := z
        show v + a * (F.k1 - key) ≤ F.v1
        simp only [Int.mul_sub] at *
        omega
    · have z := uf b e
      cases bef with
      | none =>
        have z : v ≤ F.v1 + b * (key - F.k0) := z
        show v - b * (key - F.k0) ≤ F.v1
        omega
      | some p =>
        have y := ((hv p h1.1).2.1.2.2 b e).1
        have z : v ≤ p.2 + b * (key - p.1) := z
        show v - b * (key - F.k0) ≤ F.v1
        simp only [Int.mul_sub] at *
        omega
    · have z := lf b e
      cases beh with
      | none =>
        have z : F.v0 + b * (key - F.k1) ≤ v := z
        show F.v0 ≤ v + b * (F.k1 - key)
        simp only [Int.mul_sub] at *
        omega
      | some p =>
        have y := ((hv p h2.1).2.1.2.2 b e).2
        have z : p.2 + b * (key - p.1) ≤ v := z
        show F.v0 ≤ v + b * (F.k1 - key)
        simp only [Int.mul_sub] at *
        omega
    · have c : q.1 < key := c
      cases bef with
      | none => exact absurd c (h1 q hq)
      | some p =>
        have np := (hv p h1.1).2.2 q hq
        have qp := h1.2.2 q hq c
        refine ⟨fun a e => ?_, fun b e => ?_⟩
        · have z := ls a e
          have z : p.2 + a * (key - p.1) ≤ v := z
          show a * (key - q.1) ≤ v - q.2
          rcases Int.lt_or_eq_of_le qp with w | w
          · have y := (np.2.1 w).1 a e
            simp only [Int.mul_sub] at *
            omega
          · have y := np.1 w
            rw [w, y]
            omega
        · have z := uf b e
          have z : v ≤ p.2 + b * (key - p.1) := z
          show v - q.2 ≤ b * (key - q.1)
          rcases Int.lt_or_eq_of_le qp with w | w
          · have y := (np.2.1 w).2 b e
            simp only [Int.mul_sub] at *
            omega
          · have y := np.1 w
            rw [w, y]
            omega
    · have c : key < q.1 := c
      cases beh with
      | none => exact absurd c (h2 q hq)
      | some p =>
        have np := (hv p h2.1).2.2 q hq
        have qp := h2.2.2 q hq c
        refine ⟨fun a e => ?_, fun b e => ?_⟩
        · have z := us a e
          have z : v ≤ p.2 + a * (key - p.1) := z
          show a * (q.1 - key) ≤ q.2 - v
          rcases Int.lt_or_eq_of_le qp with w | w
          · have y := (np.2.2 w).1 a e
            simp only [Int.mul_sub] at *
            omega
          · have y := np.1 w.symm
            simp only [Int.mul_sub] at *
            rw [← w]
            omega
        · have z := lf b e
          have z : p.2 + b * (key - p.1) ≤ v := z
          show q.2 - v ≤ b * (q.1 - key)
          rcases Int.lt_or_eq_of_le qp with w | w
          · have y := (np.2.2 w).2 b e
            simp only [Int.mul_sub] at *
            omega
          · have y := np.1 w.symm
            simp only [Int.mul_sub] at *
            rw [← w]
            omega
  · rintro ⟨⟨r1, r2, r3⟩, hf⟩
    have r1 : F.v0 ≤ v ∧ v ≤ F.v1 := r1
    refine ⟨fun l hl => ?_, fun l hl => ?_⟩
    · rcases mem_lowerL.mp hl with rfl | ⟨a, e, rfl⟩ | ⟨b, e, rfl⟩
      · show F.v0 + 0 * (key - F.k0) ≤ v
        rw [Int.zero_mul]
        omega
      · cases bef with
        | none => exact (r2 a e).1
        | some p =>
          have y := ((hf p h1.1).2.1 h1.2.1).1 a e
          have y : a * (key - p.1) ≤ v - p.2 := y
          show p.2 + a * (key - p.1) ≤ v
          omega
      · cases beh with
        | none =>
          have y := (r3 b e).2
          have y : F.v0 ≤ v + b * (F.k1 - key) := y
          show F.v0 + b * (key - F.k1) ≤ v
          simp only [Int.mul_sub] at *
          omega
        | some p =>
          have y := ((hf p h2.1).2.2 h2.2.1).2 b e
          have y : p.2 - v ≤ b * (p.1 - key) := y
          show p.2 + b * (key - p.1) ≤ v
          simp only [Int.mul_sub] at *
          omega
    · rcases mem_upperL.mp hl with rfl | ⟨b, e, rfl⟩ | ⟨a, e, rfl⟩
      · show v ≤ F.v1 + 0 * (key - F.k0)
        rw [Int.zero_mul]
        omega
      · cases bef with
        | none =>
          have y := (r3 b e).1
          have y : v - b * (key - F.k0) ≤ F.v1 := y
          show v ≤ F.v1 + b * (key - F.k0)
          omega
        | some p =>
          have y := ((hf p h1.1).2.1 h1.2.1).2 b e
          have y : v - p.2 ≤ b * (key - p.1) := y
          show v ≤ p.2 + b * (key - p.1)
          omega
      · cases beh with
        | none =>
          have y := (r2 a e).2
          have y : v + a * (F.k1 - key) ≤ F.v1 := y
          show v ≤ F.v1 + a * (key - F.k1)
          simp only [Int.mul_sub] at *
          omega
        | some p =>
          have y := ((hf p h2.1).2.2 h2.2.1).1 a e
          have y : a * (p.1 - key) ≤ p.2 - v := y
          show v ≤ p.2 + a * (key - p.1)
          simp only [Int.mul_sub] at *
          omega
theorem fits_bnd {F : Fx} {rows : List Pr} {p : Pr} (h : Fits F rows p) : F.v0 ≤ p.2 ∧ p.2 ≤ F.v1 := h.1.1


def sd__law_amount : Sd := fun as Q _ => ∃ low high : Int, as = [.drw, .v (.int low), .v (.int high)] ∧ low ≤ high ∧ ∀ r, low ≤ r → r ≤ high → Q (.v (.int r))
def d__law_amount : DS := (dSeq (dAsg (dCall sd__law_next [] (dCons (dVar 0) (dCons (dOp dPow (dC (.int 10)) (dC (.int 20))) dNil))) (gdName 3))
  (dSeq (dAsg (dOp dMod (dCB dInt1 (dCons (dVar 3) dNil)) (dC (.int 4))) (gdName 4))
  (dSeq (dAsg (dOp dFdiv (dVar 3) (dC (.int 4))) (gdName 3))
  (dSeq (dIfS (dTest (dOp dEq (dVar 4) (dC (.int 1))))
  (dRetE (dCB dMin2 (dCons (dVar 2) (dCons (dOp dAdd (dVar 1) (dOp dMod (dCB dInt1 (dCons (dVar 3) dNil)) (dC (.int 4)))) dNil))))
  dNext)
  (dSeq (dIfS (dTest (dOp dEq (dVar 4) (dC (.int 2))))
  (dRetE (dCB dMax2 (dCons (dVar 1) (dCons (dOp dSub (dVar 2) (dOp dMod (dCB dInt1 (dCons (dVar 3) dNil)) (dC (.int 4)))) dNil))))
  dNext)
  (dSeq (dIfS (dTest (dOp dEq (dVar 4) (dC (.int 3))))
  (dRetE (dCB dMax2 (dCons (dVar 1) (dCons (dCB dMin2 (dCons (dVar 2) (dCons (dOp dSub (dOp dMod (dCB dInt1 (dCons (dVar 3) dNil)) (dC (.int 21))) (dC (.int 10))) dNil))) dNil))))
  dNext)
  (dRetE (dOp dAdd (dVar 1) (dOp dMod (dCB dInt1 (dCons (dVar 3) dNil)) (dOp dAdd (dOp dSub (dVar 2) (dVar 1)) (dC (.int 1))))))))))))
theorem len__law_amount : ∀ as Q E, sd__law_amount as Q E → as.length = 3 := by
  rintro _ _ _ ⟨_, _, rfl, _⟩
  rfl
theorem pure__law_amount : ∀ as Q E, sd__law_amount as Q E → d__law_amount (dEnds Q E) (startD 5 as) := by
  rintro as Q E ⟨low, high, rfl, hl, hq⟩
  refine ⟨⟨by decide, by decide, by decide⟩, ?_⟩
  refine ⟨10 ^ 20, rfl, by decide, fun n h0 h1 => ?_⟩
  refine ⟨(by decide : (0 : Int) < 4), ?_⟩
  refine ⟨(⟨by decide, by decide⟩ : (0 : Int) < 4 ∧ (4 : Int) < 2 ^ 250), ?_⟩
  have n0 : 0 ≤ n / 4 := Int.ediv_nonneg h0 (by decide)
  have m1 : ∀ m : Int, 0 < m → 0 ≤ (n / 4) % m ∧ (n / 4) % m < m := fun m h => ⟨Int.emod_nonneg _ (by omega), Int.emod_lt_of_pos _ h⟩
  refine ⟨_, _, rfl, rfl, rfl, rfl, ?_⟩
  refine iteE (fun h => ?_) (fun h => ?_)
  · refine ⟨(by decide : (0 : Int) < 4), ?_⟩
    have := m1 4 (by decide)
    refine hq _ ?_ ?_ <;> split <;> omega
  refine ⟨_, _, rfl, rfl, rfl, rfl, ?_⟩
  refine iteE (fun h => ?_) (fun h => ?_)
  · refine ⟨(by decide : (0 : Int) < 4), ?_⟩
    have := m1 4 (by decide)
    refine hq _ ?_ ?_ <;> split <;> omega
  refine ⟨_, _, rfl, rfl, rfl, rfl, ?_⟩
  refine iteE (fun h => ?_) (fun h => ?_)
  · refine ⟨(by decide : (0 : Int) < 21), ?_⟩
    have := m1 21 (by decide)
    refine hq _ ?_ ?_ <;> split <;> split <;> omega
  · have hp : 0 < high - low + 1 := by omega
    have := m1 _ hp
    refine ⟨hp, ?_⟩
    refine hq _ ?_ ?_ <;> omega

def sd__law_range : Sd := fun as Q _ => as = [.drw] ∧ ∀ a b, okEnds a b → Q (.tup [.v (.int a), .v (.int b)])
def d__law_range : DS := (dSeq (dAsg (dCall sd__law_next [] (dCons (dVar 0) (dCons (dC (.int 6)) dNil))) (gdName 1))
  (dSeq (dIfS (dTest (dOp dEq (dVar 1) (dC (.int 1))))
  (dRetE (dTup (dCons (dUn dNeg (dOp dPow (dC (.int 10)) (dC (.int 18)))) (dCons (dOp dPow (dC (.int 10)) (dC (.int 18))) dNil))))
  dNext)
  (dSeq (dIfS (dTest (dOp dEq (dVar 1) (dC (.int 2))))
  (dSeq (dAsg (dCall sd__law_amount [] (dCons (dVar 0) (dCons (dUn dNeg (dOp dPow (dC (.int 10)) (dC (.int 18)))) (dCons (dOp dPow (dC (.int 10)) (dC (.int 18))) dNil)))) (gdName 2))
  (dRetE (dTup (dCons (dVar 2) (dCons (dVar 2) dNil)))))
  dNext)
  (dSeq (dIfS (dTest (dOp dEq (dVar 1) (dC (.int 3))))
  (dRetE (dTup (dCons (dOp dSub (dOp dPow (dC (.int 10)) (dC (.int 18))) (dCall sd__law_next [] (dCons (dVar 0) (dCons (dC (.int 30)) dNil)))) (dCons (dOp dPow (dC (.int 10)) (dC (.int 18))) dNil))))
  dNext)
  (dSeq (dIfS (dTest (dOp dEq (dVar 1) (dC (.int 4))))
  (dSeq (dAsg (dCall sd__law_amount [] (dCons (dVar 0) (dCons (dUn dNeg (dOp dPow (dC (.int 10)) (dC (.int 18)))) (dCons (dOp dPow (dC (.int 10)) (dC (.int 18))) dNil)))) (gdName 2))
  (dRetE (dTup (dCons (dVar 2) (dCons (dCall sd__law_amount [] (dCons (dVar 0) (dCons (dVar 2) (dCons (dOp dPow (dC (.int 10)) (dC (.int 18))) dNil)))) dNil)))))
  dNext)
  (dRetE (dTup (dCons (dUn dNeg (dC (.int 2))) (dCons (dOp dSub (dCall sd__law_next [] (dCons (dVar 0) (dCons (dC (.int 24)) dNil))) (dC (.int 2))) dNil)))))))))
theorem len__law_range : ∀ as Q E, sd__law_range as Q E → as.length = 1 := by
  rintro _ _ _ ⟨rfl, _⟩
  rfl
theorem pure__law_range : ∀ as Q E, sd__law_range as Q E → d__law_range (dEnds Q E) (startD 3 as) := by
  rintro as Q E ⟨rfl, hq⟩
  have c18 : CPow 10 18 := ⟨by decide, by decide, by decide⟩
  refine ⟨6, rfl, by decide, fun k _ _ => ?_⟩
  refine ⟨_, _, rfl, rfl, rfl, rfl, ?_⟩
  refine iteE (fun _ => ?_) (fun _ => ?_)
  · exact ⟨c18, c18, by simp, hq (-(10 ^ 18)) (10 ^ 18) ⟨by decide, by decide, by decide⟩⟩
  refine ⟨_, _, rfl, rfl, rfl, rfl, ?_⟩
  refine iteE (fun _ => ?_) (fun _ => ?_)
  · refine ⟨c18, c18, ?_⟩
    refine ⟨-(10 ^ 18), 10 ^ 18, rfl, by decide, fun x h1 h2 => ?_⟩
    exact ⟨by simp, hq x x ⟨h1, h2, Int.le_refl _⟩⟩
  refine ⟨_, _, rfl, rfl, rfl, rfl, ?_⟩
  refine iteE (fun _ => ?_) (fun _ => ?_)
  · refine ⟨c18, ?_⟩
    refine ⟨30, rfl, by decide, fun x h1 h2 => ?_⟩
    refine ⟨c18, by simp, ?_⟩
    exact hq (10 ^ 18 - x) (10 ^ 18) ⟨by omega, by decide, by omega⟩
  refine ⟨_, _, rfl, rfl, rfl, rfl, ?_⟩
  refine iteE (fun _ => ?_) (fun _ => ?_)
  · refine ⟨c18, c18, ?_⟩
    refine ⟨-(10 ^ 18), 10 ^ 18, rfl, by decide, fun x h1 h2 => ?_⟩
    refine ⟨c18, ?_⟩
    refine ⟨x, 10 ^ 18, rfl, h2, fun y h3 h4 => ?_⟩
    exact ⟨by simp, hq x y ⟨h1, h4, h3⟩⟩
  refine ⟨24, rfl, by decide, fun x h1 h2 => ?_⟩
  exact ⟨by simp, hq (-2) (x - 2) ⟨by decide, by omega, by omega⟩⟩

inductive Kd where
  | none
  | one
  | pace
def kdT : Kd → Str
  | .none => "none"
  | .one => "one"
  | .pace => "pace"
structure FOk (F : Fx) (kd : Kd) : Prop where
  keys : okEnds F.k0 F.k1
  vals : okEnds F.v0 F.v1
  ok : F.Ok
  so : smO F.s
  fo : smO F.f
  np : kd ≠ .pace → F.s = none ∧ F.f = none
  one : kd = .one → F.k1 - F.k0 ≤ F.v1 - F.v0
def fxL (F : Fx) (kd : Kd) : List (Key × Dt) := dctOf [("keys" : Str), ("values" : Str), ("kind" : Str), ("slow" : Str), ("quick" : Str)] [.tup [.v (.int F.k0), .v (.int F.k1)], .tup [.v (.int F.v0), .v (.int F.v1)], .v (.str (kdT kd)), oD F.s, oD F.f]
def fxD (F : Fx) (kd : Kd) : Dt := .dct (fxL F kd)
theorem s_kv : ¬ (("keys" : Str) = ("values" : Str)) := by decide +kernel
theorem s_kk : ¬ (("keys" : Str) = ("kind" : Str)) := by decide +kernel
theorem s_vk : ¬ (("values" : Str) = ("kind" : Str)) := by decide +kernel
theorem s_ks : ¬ (("keys" : Str) = ("slow" : Str)) := by decide +kernel
theorem s_vs : ¬ (("values" : Str) = ("slow" : Str)) := by decide +kernel
theorem s_is : ¬ (("kind" : Str) = ("slow" : Str)) := by decide +kernel
theorem s_kq : ¬ (("keys" : Str) = ("quick" : Str)) := by decide +kernel
theorem s_vq : ¬ (("values" : Str) = ("quick" : Str)) := by decide +kernel
theorem s_iq : ¬ (("kind" : Str) = ("quick" : Str)) := by decide +kernel
theorem s_sq : ¬ (("slow" : Str) = ("quick" : Str)) := by decide +kernel
theorem at_keys {F : Fx} {kd : Kd} : DW.atS (fxL F kd) ("keys" : Str) = some (.tup [.v (.int F.k0), .v (.int F.k1)]) := by
  unfold fxL dctOf DW.atS
  rw [if_pos rfl]
theorem at_vals {F : Fx} {kd : Kd} : DW.atS (fxL F kd) ("values" : Str) = some (.tup [.v (.int F.v0), .v (.int F.v1)]) := by
  simp only [fxL, dctOf, DW.atS, if_neg s_kv, if_true]
theorem at_kind {F : Fx} {kd : Kd} : DW.atS (fxL F kd) ("kind" : Str) = some (.v (.str (kdT kd))) := by
  simp only [fxL, dctOf, DW.atS, if_neg s_kk, if_neg s_vk, if_true]
theorem at_slow {F : Fx} {kd : Kd} : DW.atS (fxL F kd) ("slow" : Str) = some (oD F.s) := by
  simp only [fxL, dctOf, DW.atS, if_neg s_ks, if_neg s_vs, if_neg s_is, if_true]
theorem at_quick {F : Fx} {kd : Kd} : DW.atS (fxL F kd) ("quick" : Str) = some (oD F.f) := by
  simp only [fxL, dctOf, DW.atS, if_neg s_kq, if_neg s_vq, if_neg s_iq, if_neg s_sq, if_true]
theorem gdN {i : Nat} {d : Dt} {ρ : En} {R : En → Prop} (h : R (ρ.set i (.dat d))) : gdName i (.dat d) ρ R := h
theorem nxN {K : En → Prop} {rt : Dt → Prop} {bk ct : En → Prop} {ex : Xn → En → Prop} {rs : Dt → En → Prop} {ρ : En} (h : K ρ) : DEnds.nx { nx := K, rt := rt, bk := bk, ct := ct, ex := ex, rs := rs } ρ := h
theorem if_cut {c : DTt} {t1 t2 u : DS} {D : DEnds} {ρ : En} (P : En → Prop) (h2 : ∀ ρ', P ρ' → u D ρ') (h1 : ∀ K : En → Prop, (∀ ρ', P ρ' → K ρ') → dIfS c t1 t2 { D with nx := K } ρ) : dSeq (dIfS c t1 t2) u D ρ := h1 _ h2
theorem fOk0 {a b lo hi : Int} (h1 : okEnds a b) (h2 : okEnds lo hi) : Fx.Ok ⟨a, b, lo, hi, none, none⟩ := ⟨h1.2.2, h2.2.2, fun _ _ e => (nomatch e), fun _ e => (nomatch e), fun _ e => (nomatch e)⟩

def sd__law_speed : Sd := fun as Q _ => as = [.drw] ∧ ∀ o : Option Int, smO o → Q (oD o)
def d__law_speed : DS := (dSeq (dAsg (dCall sd__law_next [] (dCons (dVar 0) (dCons (dC (.int 4)) dNil))) (gdName 1))
  (dSeq (dIfS (dTest (dOp dEq (dVar 1) (dC (.int 0))))
  (dRetE (dC .non))
  dNext)
  (dSeq (dIfS (dTest (dOp dEq (dVar 1) (dC (.int 1))))
  (dRetE (dCall sd__law_amount [] (dCons (dVar 0) (dCons (dUn dNeg (dOp dPow (dC (.int 10)) (dC (.int 18)))) (dCons (dOp dPow (dC (.int 10)) (dC (.int 18))) dNil)))))
  dNext)
  (dRetE (dOp dSub (dCall sd__law_next [] (dCons (dVar 0) (dCons (dC (.int 9)) dNil))) (dC (.int 4)))))))
theorem len__law_speed : ∀ as Q E, sd__law_speed as Q E → as.length = 1 := by
  rintro _ _ _ ⟨rfl, _⟩
  rfl
theorem pure__law_speed : ∀ as Q E, sd__law_speed as Q E → d__law_speed (dEnds Q E) (startD 2 as) := by
  rintro as Q E ⟨rfl, hq⟩
  have c18 : CPow 10 18 := ⟨by decide, by decide, by decide⟩
  have num : ∀ i : Int, -(10 ^ 18) ≤ i → i ≤ 10 ^ 18 → Q (.v (.int i)) := fun i h1 h2 => hq (some i) fun a e => by cases e; exact ⟨h1, h2⟩
  refine ⟨4, rfl, by decide, fun k _ _ => ?_⟩
  refine ⟨_, _, rfl, rfl, rfl, rfl, ?_⟩
  refine iteE (fun _ => hq none fun a e => nomatch e) (fun _ => ?_)
  refine ⟨_, _, rfl, rfl, rfl, rfl, ?_⟩
  refine iteE (fun _ => ?_) (fun _ => ?_)
  · refine ⟨c18, c18, ?_⟩
    exact ⟨-(10 ^ 18), 10 ^ 18, rfl, by decide, fun x h1 h2 => num x h1 h2⟩
  · refine ⟨9, rfl, by decide, fun x h1 h2 => ?_⟩
    exact num (x - 4) (by omega) (by omega)
def sd__law_facts : Sd := fun as Q _ => ∃ kd : Kd, as = [.drw, .v (.str (kdT kd))] ∧ ∀ F, FOk F kd → Q (fxD F kd)
def d__law_facts : DS := (dSeq (dAsg (dCall sd__law_range [] (dCons (dVar 0) dNil)) (gdName 2))
  (dSeq (dAsg (dCall sd__law_range [] (dCons (dVar 0) dNil)) (gdName 3))
  (dSeq (dAsg (dOp dSub (dOp dIx (dVar 2) (dC (.int 1))) (dOp dIx (dVar 2) (dC (.int 0)))) (gdName 4))
  (dSeq (dAsg (dOp dSub (dOp dIx (dVar 3) (dC (.int 1))) (dOp dIx (dVar 3) (dC (.int 0)))) (gdName 5))
  (dSeq (dAsg (dC .non) (gdName 6))
  (dSeq (dAsg (dC .non) (gdName 7))
  (dSeq (dIfS (dTest (dOp dEq (dVar 1) (dC (.str (PySem.Str.ofString "pace")))))
  (dSeq (dAsg (dCall sd__law_speed [] (dCons (dVar 0) dNil)) (gdName 6))
  (dSeq (dAsg (dCall sd__law_speed [] (dCons (dVar 0) dNil)) (gdName 7))
  (dSeq (dIfS (dAnd (dTest (dOp dNotN (dVar 6) (dC .non))) (dAnd (dTest (dOp dNotN (dVar 7) (dC .non))) (dTest (dOp dGt (dVar 6) (dVar 7)))))
  (dPar 6 7 (dCons (dVar 7) (dCons (dVar 6) dNil)))
  dNext)
  (dSeq (dIfS (dAnd (dTest (dOp dNotN (dVar 6) (dC .non))) (dAnd (dTest (dOp dGt (dVar 6) (dC (.int 0)))) (dTest (dOp dGt (dOp dMul (dVar 6) (dVar 4)) (dVar 5)))))
  (dAsg (dOp dFdiv (dVar 5) (dVar 4)) (gdName 6))
  dNext)
  (dIfS (dAnd (dTest (dOp dNotN (dVar 7) (dC .non))) (dAnd (dTest (dOp dLt (dVar 7) (dC (.int 0)))) (dTest (dOp dGt (dOp dSub (dC (.int 0)) (dOp dMul (dVar 7) (dVar 4))) (dVar 5)))))
  (dAsg (dOp dSub (dC (.int 0)) (dOp dFdiv (dVar 5) (dVar 4))) (gdName 7))
  dNext)))))
  dNext)
  (dSeq (dIfS (dAnd (dTest (dOp dEq (dVar 1) (dC (.str (PySem.Str.ofString "one"))))) (dTest (dOp dGt (dVar 4) (dVar 5))))
  (dAsg (dTup (dCons (dOp dIx (dVar 2) (dC (.int 0))) (dCons (dOp dAdd (dOp dIx (dVar 2) (dC (.int 0))) (dVar 5)) dNil))) (gdName 2))
  dNext)
  (dRetE (dDisp [(PySem.Str.ofString "keys"), (PySem.Str.ofString "values"), (PySem.Str.ofString "kind"), (PySem.Str.ofString "slow"), (PySem.Str.ofString "quick")] (dCons (dVar 2) (dCons (dVar 3) (dCons (dVar 1) (dCons (dVar 6) (dCons (dVar 7) dNil)))))))))))))))
theorem len__law_facts : ∀ as Q E, sd__law_facts as Q E → as.length = 2 := by
  rintro _ _ _ ⟨_, rfl, _⟩
  rfl
theorem pure__law_facts : ∀ as Q E, sd__law_facts as Q E → d__law_facts (dEnds Q E) (startD 8 as) := by
  rintro as Q E ⟨kd, rfl, hq⟩
  refine ⟨rfl, fun a b o1 => ?_⟩
  refine ⟨rfl, fun lo hi o2 => ?_⟩
  refine ⟨_, at2b, _, at2a, ?_⟩
  refine ⟨_, at2b, _, at2a, ?_⟩
  cases kd with
  | none =>
    refine ⟨_, _, rfl, rfl, by decide +kernel, by decide +kernel, ?_⟩
    refine ⟨_, _, rfl, rfl, by decide +kernel, by decide +kernel, ?_⟩
    exact hq ⟨a, b, lo, hi, none, none⟩ ⟨o1, o2, fOk0 o1 o2, fun _ e => (nomatch e), fun _ e => (nomatch e), fun _ => ⟨rfl, rfl⟩, fun e => nomatch e⟩
  | one =>
    refine ⟨_, _, rfl, rfl, by decide +kernel, by decide +kernel, ?_⟩
    refine ⟨_, _, rfl, rfl, by decide +kernel, by decide +kernel, ?_⟩
    refine iteD (fun h => ?_) (fun h => ?_)
    · have h : hi - lo < b - a := h
      have := o2.2.2
      refine ⟨_, at2a, _, at2a, by simp, ?_⟩
      have o3 : okEnds a (a + (hi - lo)) := ⟨o1.1, by have := o1.2.1; omega, by omega⟩
      exact hq ⟨a, a + (hi - lo), lo, hi, none, none⟩ ⟨o3, o2, fOk0 o3 o2, fun _ e => (nomatch e), fun _ e => (nomatch e), fun _ => ⟨rfl, rfl⟩, fun _ => by show a + (hi - lo) - a ≤ hi - lo; omega⟩
    · have h : ¬ hi - lo < b - a := h
      exact hq ⟨a, b, lo, hi, none, none⟩ ⟨o1, o2, fOk0 o1 o2, fun _ e => (nomatch e), fun _ e => (nomatch e), fun _ => ⟨rfl, rfl⟩, fun _ => by show b - a ≤ hi - lo; omega⟩
  | pace =>
    refine ⟨_, _, rfl, rfl, by decide +kernel, by decide +kernel, ?_⟩
    refine ⟨rfl, fun s0 hs0 => ?_⟩
    refine ⟨rfl, fun f0 hf0 => ?_⟩
    refine gdN (nxN ?_)
    refine if_cut (fun ρ => ∃ s f : Option Int, smO s ∧ smO f ∧ (∀ x y, s = some x → f = some y → x ≤ y) ∧ ρ = [.dat .drw, .dat (.v (.str (kdT .pace))), .dat (.tup [.v (.int a), .v (.int b)]), .dat (.tup [.v (.int lo), .v (.int hi)]), .int (b - a), .int (hi - lo), .dat (oD s), .dat (oD f)]) ?_ ?_
    rotate_left
    · intro K kk
      cases s0 with
      | none => exact ⟨rfl, _, rfl, kk _ ⟨none, f0, hs0, hf0, fun _ _ e => (nomatch e), rfl⟩⟩
      | some x =>
        cases f0 with
        | none => exact ⟨rfl, _, rfl, rfl, _, rfl, kk _ ⟨some x, none, hs0, hf0, fun _ _ _ e => (nomatch e), rfl⟩⟩
        | some y =>
          refine ⟨rfl, _, rfl, rfl, _, rfl, ?_⟩
          refine iteD (fun h => ?_) (fun h => ?_)
          · have h : y < x := h
            exact kk _ ⟨some y, some x, hf0, hs0, fun _ _ e e' => by cases e; cases e'; omega, rfl⟩
          · have h : ¬ y < x := h
            exact kk _ ⟨some x, some y, hs0, hf0, fun _ _ e e' => by cases e; cases e'; omega, rfl⟩
    rintro ρ ⟨s, f, hs, hf, ord, rfl⟩
    have d0 : 0 ≤ b - a := by have := o1.2.2; omega
    have r0 : 0 ≤ hi - lo := by have := o2.2.2; omega
    refine if_cut (fun ρ => ∃ s f : Option Int, smO s ∧ smO f ∧ (∀ x y, s = some x → f = some y → x ≤ y) ∧ (∀ x, s = some x → x * (b - a) ≤ hi - lo) ∧ ρ = [.dat .drw, .dat (.v (.str (kdT .pace))), .dat (.tup [.v (.int a), .v (.int b)]), .dat (.tup [.v (.int lo), .v (.int hi)]), .int (b - a), .int (hi - lo), .dat (oD s), .dat (oD f)]) ?_ ?_
    rotate_left
    · intro K kk
      cases s with
      | none => exact ⟨rfl, _, rfl, kk _ ⟨none, f, hs, hf, ord, fun _ e => (nomatch e), rfl⟩⟩
      | some x =>
        have bx := hs x rfl
        refine ⟨rfl, _, rfl, ?_⟩
        refine iteD (fun h => ?_) (fun h => ?_)
        · have h : 0 < x := h
          refine ⟨.inl ⟨by omega, by omega⟩, ?_⟩
          refine iteD (fun h2 => ?_) (fun h2 => ?_)
          · have h2 : hi - lo < x * (b - a) := h2
            have dp : 0 < b - a := by
              rcases Int.lt_or_le 0 (b - a) with z | z
              · exact z
              · rw [show b - a = 0 by omega, Int.mul_zero] at h2
                omega
            refine ⟨⟨dp, by have := o1.1; have := o1.2.1; omega⟩, ?_⟩
            have q0 : 0 ≤ (hi - lo) / (b - a) := Int.ediv_nonneg r0 d0
            have q1 : (hi - lo) / (b - a) * (b - a) ≤ hi - lo := Int.ediv_mul_le _ (by omega)
            have q2 : (hi - lo) / (b - a) ≤ x := by
              refine Int.le_of_lt (Int.ediv_lt_of_lt_mul dp h2)
            exact kk _ ⟨some ((hi - lo) / (b - a)), f, fun _ e => by cases e; constructor <;> omega, hf, fun u v e e' => by cases e; exact Int.le_trans q2 (ord x v rfl e'), fun u e => by cases e; exact q1, rfl⟩
          · have h2 : ¬ hi - lo < x * (b - a) := h2
            exact kk _ ⟨some x, f, hs, hf, ord, fun u e => by cases e; omega, rfl⟩
        · have h : ¬ 0 < x := h
          have m : x * (b - a) ≤ 0 := Int.mul_nonpos_of_nonpos_of_nonneg (by omega) d0
          exact kk _ ⟨some x, f, hs, hf, ord, fun u e => by cases e; omega, rfl⟩
    rintro ρ ⟨s, f, hs, hf, ord, hsl, rfl⟩
    have fin : ∀ f : Option Int, smO f → (∀ x y, s = some x → f = some y → x ≤ y) → (∀ y, f = some y → -(y * (b - a)) ≤ hi - lo) → Q (fxD ⟨a, b, lo, hi, s, f⟩ .pace) := fun f h1 h2 h3 =>
      hq ⟨a, b, lo, hi, s, f⟩ ⟨o1, o2, ⟨o1.2.2, o2.2.2, h2, hsl, h3⟩, hs, h1, fun e => absurd rfl e, fun e => nomatch e⟩
    have last : ∀ f : Option Int, smO f → (∀ x y, s = some x → f = some y → x ≤ y) → (∀ y, f = some y → -(y * (b - a)) ≤ hi - lo) → ∃ (x y : PyData), True := fun _ _ _ _ => ⟨.none, .none, trivial⟩
    cases f with
    | none =>
      refine ⟨rfl, _, rfl, ?_⟩
      refine ⟨_, _, rfl, rfl, by decide +kernel, by decide +kernel, ?_⟩
      exact fin none hf (fun _ _ _ e => nomatch e) (fun _ e => nomatch e)
    | some y =>
      have bx := hf y rfl
      refine ⟨rfl, _, rfl, ?_⟩
      refine iteD (fun h => ?_) (fun h => ?_)
      · have h : y < 0 := h
        refine ⟨.inl ⟨by omega, by omega⟩, ?_⟩
        refine iteD (fun h2 => ?_) (fun h2 => ?_)
        · have h2 : hi - lo < 0 - y * (b - a) := h2
          have dp : 0 < b - a := by
            rcases Int.lt_or_le 0 (b - a) with z | z
            · exact z
            · rw [show b - a = 0 by omega, Int.mul_zero] at h2
              omega
          refine ⟨⟨dp, by have := o1.1; have := o1.2.1; omega⟩, ?_⟩
          have q0 : 0 ≤ (hi - lo) / (b - a) := Int.ediv_nonneg r0 d0
          have q1 : (hi - lo) / (b - a) * (b - a) ≤ hi - lo := Int.ediv_mul_le _ (by omega)
          have q2 : (hi - lo) / (b - a) ≤ -y := by
            refine Int.le_of_lt (Int.ediv_lt_of_lt_mul dp ?_)
            rw [Int.neg_mul]
            omega
          refine ⟨_, _, rfl, rfl, by decide +kernel, by decide +kernel, ?_⟩
          exact fin (some (0 - (hi - lo) / (b - a))) (fun _ e => by cases e; constructor <;> omega) (fun u v e e' => by cases e'; have := ord u y e rfl; omega) (fun v e => by cases e; rw [Int.sub_mul, Int.zero_mul]; omega)
        · have h2 : ¬ hi - lo < 0 - y * (b - a) := h2
          refine ⟨_, _, rfl, rfl, by decide +kernel, by decide +kernel, ?_⟩
          exact fin (some y) hf (fun u v e e' => ord u v e e') (fun v e => by cases e; omega)
      · have h : ¬ y < 0 := h
        have m : 0 ≤ y * (b - a) := Int.mul_nonneg (by omega) d0
        refine ⟨_, _, rfl, rfl, by decide +kernel, by decide +kernel, ?_⟩
        exact fin (some y) hf (fun u v e e' => ord u v e e') (fun v e => by cases e; omega)

def PrOk : Pro → Prop
  | .none => True
  | .one => True
  | .pace s f => smO s ∧ smO f ∧ ∀ a b, s = some a → f = some b → a ≤ b
def Exi (k : Kn) : Prop := match k.pr with
  | .none => True
  | .one => k.last - k.first ≤ k.greatest - k.least
  | .pace s f => (∀ a, s = some a → a * (k.last - k.first) ≤ k.greatest - k.least) ∧ ∀ b, f = some b → -(b * (k.last - k.first)) ≤ k.greatest - k.least
theorem good0 {a b lo hi : Int} {pr : Pro} (h1 : okEnds a b) (h2 : okEnds lo hi) (hp : PrOk pr) (hx : Exi ⟨a, b, lo, hi, pr, []⟩) : GoodK ⟨a, b, lo, hi, pr, []⟩ := by
  cases pr with
  | none => trivial
  | one => exact ⟨fun p m => (nomatch m), hx⟩
  | pace s f =>
    exact ⟨⟨h1.2.2, h2.2.2, hp.2.2, hx.1, hx.2⟩, hp.1, hp.2.1, fun p m => nomatch m⟩
def sd_Promise_exists (kl : Kl) : Sd := fun as Q _ => ∃ d : Dt, as = [.obj kl.Promise [], d] ∧ Q (.v (.bl true))
def d_Promise_exists : DS := (dRetE (dC (.bl true)))
theorem pure_Promise_exists (kl : Kl) : ∀ as Q E, sd_Promise_exists kl as Q E → d_Promise_exists (dEnds Q E) (startD 2 as) := by
  rintro as Q E ⟨d, rfl, hq⟩
  exact hq
def sd_OneToOne_exists (kl : Kl) : Sd := fun as Q _ => ∃ k : Kn, as = [.obj kl.OneToOne [], k.dt kl] ∧ Q (.v (.bl (decide (k.last - k.first ≤ k.greatest - k.least))))
def d_OneToOne_exists (kl : Kl) : DS := (dRetE (dOp dLe (dOp dSub (dAt [kl.Known] "last" (dVar 1)) (dAt [kl.Known] "first" (dVar 1))) (dOp dSub (dAt [kl.Known] "greatest" (dVar 1)) (dAt [kl.Known] "least" (dVar 1)))))
theorem pure_OneToOne_exists (kl : Kl) : ∀ as Q E, sd_OneToOne_exists kl as Q E → d_OneToOne_exists kl (dEnds Q E) (startD 2 as) := by
  rintro as Q E ⟨k, rfl, hq⟩
  refine ⟨_, _, _, rfl, by simp, rfl, ?_⟩
  refine ⟨_, _, _, rfl, by simp, rfl, ?_⟩
  refine ⟨_, _, _, rfl, by simp, rfl, ?_⟩
  refine ⟨_, _, _, rfl, by simp, rfl, ?_⟩
  exact hq
def paceO (kl : Kl) (s f : Option Int) : Dt := .obj kl.Pace [("slowest", oD s), ("fastest", oD f)]
def exS (k : Kn) : Option Int → Bool
  | some a => decide (a * (k.last - k.first) ≤ k.greatest - k.least)
  | none => true
def exF (k : Kn) : Option Int → Bool
  | some b => decide (-b * (k.last - k.first) ≤ k.greatest - k.least)
  | none => true
def exB (k : Kn) (s f : Option Int) : Bool := exS k s && exF k f
def sd_Pace_exists (kl : Kl) : Sd := fun as Q _ => ∃ (k : Kn) (s f : Option Int), as = [paceO kl s f, k.dt kl] ∧ smO s ∧ smO f ∧ Q (.v (.bl (exB k s f)))
def d_Pace_exists (kl : Kl) : DS := (dSeq (dAsg (dOp dSub (dAt [kl.Known] "last" (dVar 1)) (dAt [kl.Known] "first" (dVar 1))) (gdName 2))
  (dSeq (dAsg (dOp dSub (dAt [kl.Known] "greatest" (dVar 1)) (dAt [kl.Known] "least" (dVar 1))) (gdName 3))
  (dSeq (dIfS (dAnd (dTest (dOp dNotN (dAt [kl.Pace] "slowest" (dVar 0)) (dC .non))) (dTest (dOp dGt (dOp dMul (dAt [kl.Pace] "slowest" (dVar 0)) (dVar 2)) (dVar 3))))
  (dRetE (dC (.bl false)))
  dNext)
  (dRetE (dOrT (dOp dIsN (dAt [kl.Pace] "fastest" (dVar 0)) (dC .non)) (dOp dLe (dOp dMul (dUn dNeg (dAt [kl.Pace] "fastest" (dVar 0))) (dVar 2)) (dVar 3)))))))
theorem sm_lt {o : Option Int} (h : smO o) {a : Int} (e : o = some a) : -(2 ^ 64) < a ∧ a < 2 ^ 64 := by
  have := h a e
  omega
theorem pure_Pace_exists (kl : Kl) : ∀ as Q E, sd_Pace_exists kl as Q E → d_Pace_exists kl (dEnds Q E) (startD 4 as) := by
  rintro as Q E ⟨k, s, f, rfl, hs, hf, hq⟩
  refine ⟨_, _, _, rfl, by simp, rfl, ?_⟩
  refine ⟨_, _, _, rfl, by simp, rfl, ?_⟩
  refine ⟨_, _, _, rfl, by simp, rfl, ?_⟩
  refine ⟨_, _, _, rfl, by simp, rfl, ?_⟩
  refine gdN (nxN ?_)
  refine if_cut (fun ρ => ρ = [.dat (paceO kl s f), .dat (k.dt kl), .int (k.last - k.first), .int (k.greatest - k.least)] ∧ ∀ a, s = some a → a * (k.last - k.first) ≤ k.greatest - k.least) ?_ ?_
  rotate_left
  · intro K kk
    refine ⟨_, _, _, rfl, by simp [paceO], rfl, ?_⟩
    cases s with
    | none => exact ⟨rfl, _, rfl, kk _ ⟨rfl, fun a e => nomatch e⟩⟩
    | some a =>
      refine ⟨rfl, _, rfl, ?_⟩
      refine ⟨_, _, _, rfl, by simp [paceO], rfl, .inl (sm_lt hs rfl), ?_⟩
      refine iteD (fun h => ?_) (fun h => ?_)
      · have h : k.greatest - k.least < a * (k.last - k.first) := h
        have e : exB k (some a) f = false := by
          show (decide (a * (k.last - k.first) ≤ k.greatest - k.least) && exF k f) = false
          rw [decide_eq_false (by omega)]
          rfl
        rw [e] at hq
        exact hq
      · have h : ¬ k.greatest - k.least < a * (k.last - k.first) := h
        exact kk _ ⟨rfl, fun b e => by cases e; omega⟩
  rintro ρ ⟨rfl, h1⟩
  have e1 : exB k s f = exF k f := by
    cases s with
    | none => exact Bool.true_and _
    | some a =>
      show (decide (a * (k.last - k.first) ≤ k.greatest - k.least) && exF k f) = exF k f
      rw [decide_eq_true (h1 a rfl)]
      exact Bool.true_and _
  rw [e1] at hq
  refine ⟨_, _, _, rfl, by simp [paceO], rfl, ?_⟩
  cases f with
  | none => exact ⟨rfl, _, rfl, hq⟩
  | some b =>
    refine ⟨rfl, _, rfl, ?_⟩
    refine ⟨_, _, _, rfl, by simp [paceO], rfl, ?_⟩
    refine ⟨.inl ⟨by have := hf b rfl; omega, by have := hf b rfl; omega⟩, ?_⟩
    exact hq
def sd_Promise_free (kl : Kl) : Sd := fun as Q _ => ∃ (k : Kn) (C : Addr) (gs : List (Str × Dt)) (g x : Dt), as = [.obj C gs, k.dt kl, g, x] ∧ okEnds k.least k.greatest ∧ ∀ qs, St qs → (∀ v, In qs v ↔ k.least ≤ v ∧ v ≤ k.greatest) → qs.length ≤ 1 → Q (stD kl qs)
def d_Promise_free (kl : Kl) : DS := (dRetE (dMake (sd_Stretches___init__ kl) (dCons (dLst (dCons (dTup (dCons (dAt [kl.Known] "least" (dVar 1)) (dCons (dAt [kl.Known] "greatest" (dVar 1)) dNil))) dNil)) dNil)))
theorem pure_Promise_free (kl : Kl) : ∀ as Q E, sd_Promise_free kl as Q E → d_Promise_free kl (dEnds Q E) (startD 4 as) := by
  rintro as Q E ⟨k, C, gs, g, x, rfl, ho, hq⟩
  have gd : Good [(k.least, k.greatest)] := ⟨fun q m => by rw [List.mem_singleton.mp m]; exact ho.2.2, fun q m => by rw [List.mem_singleton.mp m]; exact ⟨ho.1, ho.2.1⟩⟩
  refine ⟨_, _, _, rfl, by simp, rfl, ?_⟩
  refine ⟨_, _, _, rfl, by simp, rfl, ?_⟩
  refine ⟨by simp, by simp, ?_⟩
  refine ⟨[(k.least, k.greatest)], _, rfl, .inl rfl, by simp, fun p h => no_bad gd p h, fun _ qs h1 h2 h3 => ?_⟩
  refine hq qs h1 (fun v => ?_) h3
  rw [h2, In_cons]
  simp [In_nil]
def sd_OneToOne_free (kl : Kl) : Sd := fun as Q _ => ∃ (k : Kn) (g x : Dt), as = [.obj kl.OneToOne [], k.dt kl, g, x] ∧ k.Ok ∧ ∀ qs, St qs → (∀ v, In qs v ↔ (k.least ≤ v ∧ v ≤ k.greatest) ∧ ∀ p ∈ k.ts, p.2 ≠ v) → qs.length ≤ 100 → Q (stD kl qs)
def d_OneToOne_free (kl : Kl) : DS := (dSeq (dAsg (dMake (sd_Stretches___init__ kl) (dCons (dLc (iSeq (dAt [kl.Known] "taught" (dVar 1))) (gdSq 2 (gdCons (gdName 6) (gdCons (gdName 7) gdNil))) dYes (dTup (dCons (dVar 7) (dCons (dVar 7) dNil))) [6, 7]) dNil)) (gdName 5))
  (dSeq (dRetE (dOp (d2Sl kl.Stretches (sd_Stretches___sub__ kl) dSub) (dSup kl.OneToOne (sd_Promise_free kl) (dCons (dVar 1) (dCons (dVar 2) (dCons (dVar 3) dNil)))) (dVar 5)))
  dNext))
theorem pts_map (ts : List Pr) : (List.range (ts.map prD).length).map (fun i => prD ((ts.getD i (0, 0)).2, (ts.getD i (0, 0)).2)) = (ts.map fun p => (p.2, p.2)).map prD := by
  rw [List.length_map]
  refine List.ext_getElem (by simp) fun i h1 h2 => ?_
  have h : i < ts.length := by simpa using h1
  simp [List.getD_eq_getElem?_getD, List.getElem?_eq_getElem h]
theorem good_pts {ts : List Pr} (h : ∀ p ∈ ts, -(10 ^ 18) ≤ p.2 ∧ p.2 ≤ 10 ^ 18) : Good (ts.map fun p => (p.2, p.2)) := by
  refine ⟨fun q m => ?_, fun q m => ?_⟩
  · obtain ⟨p, mp, e⟩ := List.mem_map.mp m
    rw [← e]
    exact Int.le_refl _
  · obtain ⟨p, mp, e⟩ := List.mem_map.mp m
    rw [← e]
    exact h p mp
theorem in_pts {ts : List Pr} {v : Int} : In (ts.map fun p => (p.2, p.2)) v ↔ ∃ p ∈ ts, p.2 = v := by
  constructor
  · rintro ⟨q, m, h1, h2⟩
    obtain ⟨p, mp, e⟩ := List.mem_map.mp m
    rw [← e] at h1 h2
    exact ⟨p, mp, Int.le_antisymm h1 h2⟩
  · rintro ⟨p, mp, e⟩
    exact ⟨(p.2, p.2), List.mem_map.mpr ⟨p, mp, rfl⟩, by rw [e]; exact Int.le_refl _, by rw [e]; exact Int.le_refl _⟩
theorem pure_OneToOne_free (kl : Kl) : ∀ as Q E, sd_OneToOne_free kl as Q E → d_OneToOne_free kl (dEnds Q E) (startD 8 as) := by
  rintro as Q E ⟨k, g, x, rfl, hk, hq⟩
  have kl40 := hk.len
  have kv := hk.vals
  have gd : Good (k.ts.map fun p => (p.2, p.2)) := good_pts fun p m => by
    have := hk.in_ p m
    exact ⟨Int.le_trans kv.1 this.1, Int.le_trans this.2 kv.2.1⟩
  refine ⟨_, _, _, rfl, by simp, rfl, ?_⟩
  refine lc_map (fun i => prD ((k.ts.getD i (0, 0)).2, (k.ts.getD i (0, 0)).2)) (by rw [List.length_map]; omega) (fun i x hx R hR => ?_) ?_
  · obtain ⟨p, hp, rfl⟩ := get_map hx
    refine ⟨rfl, rfl, by simp, ?_⟩
    rw [List.getD_eq_getElem?_getD, hp] at hR
    exact hR
  rw [pts_map]
  refine ⟨k.ts.map fun p => (p.2, p.2), _, rfl, .inl rfl, by rw [List.length_map]; omega, fun p h => no_bad gd p h, fun _ t ht et lt => ?_⟩
  rw [List.length_map] at lt
  refine ⟨[], rfl, ?_⟩
  refine ⟨k, kl.OneToOne, [], g, x, rfl, kv, fun s hs es ls => ?_⟩
  refine ⟨rfl, _, rfl, s, t, rfl, hs, ht, by omega, fun w hw ew lw => ?_⟩
  refine hq w hw (fun v => ?_) (by omega)
  rw [ew, es, et, in_pts]
  exact ⟨fun z => ⟨z.1, fun p m e => z.2 ⟨p, m, e⟩⟩, fun z => ⟨z.1, fun ⟨p, m, e⟩ => z.2 p m e⟩⟩

def lnO (p : Option Pr) (x v : Int) : Option Int → List Ln
  | some a => [((endOf p x v).1, (endOf p x v).2, a)]
  | none => []
theorem plain1 {d : Dt} {Q : List Dt → Prop} (h : Q [d]) : DW.plain [.dat d] Q := h
def sd_Pace_lower (kl : Kl) : Sd := fun as Q _ => ∃ (k : Kn) (s f : Option Int) (g : Gp), as = [paceO kl s f, k.dt kl, gpD g] ∧ Q (.lst ((lowerL ⟨k.first, k.last, k.least, k.greatest, s, f⟩ g.2.2.1 g.2.2.2).map lnD))
def d_Pace_lower (kl : Kl) : DS := (dSeq (dOwn 3 (dCons (dTup (dCons (dAt [kl.Known] "first" (dVar 1)) (dCons (dAt [kl.Known] "least" (dVar 1)) (dCons (dC (.int 0)) dNil)))) dNil))
  (dSeq (dIfS (dTest (dOp dNotN (dAt [kl.Pace] "slowest" (dVar 0)) (dC .non)))
  (dSeq (dAsg (dOrT (dOp dIx (dVar 2) (dC (.int 2))) (dTup (dCons (dAt [kl.Known] "first" (dVar 1)) (dCons (dAt [kl.Known] "least" (dVar 1)) dNil)))) (gdSq 2 (gdCons (gdName 4) (gdCons (gdName 5) gdNil))))
  (dApp 3 (dTup (dCons (dVar 4) (dCons (dVar 5) (dCons (dAt [kl.Pace] "slowest" (dVar 0)) dNil))))))
  dNext)
  (dSeq (dIfS (dTest (dOp dNotN (dAt [kl.Pace] "fastest" (dVar 0)) (dC .non)))
  (dSeq (dAsg (dOrT (dOp dIx (dVar 2) (dC (.int 3))) (dTup (dCons (dAt [kl.Known] "last" (dVar 1)) (dCons (dAt [kl.Known] "least" (dVar 1)) dNil)))) (gdSq 2 (gdCons (gdName 4) (gdCons (gdName 5) gdNil))))
  (dApp 3 (dTup (dCons (dVar 4) (dCons (dVar 5) (dCons (dAt [kl.Pace] "fastest" (dVar 0)) dNil))))))
  dNext)
  (dRet (dVar 3)))))
theorem pure_Pace_lower (kl : Kl) : ∀ as Q E, sd_Pace_lower kl as Q E → d_Pace_lower kl (dEnds Q E) (startD 6 as) := by
  rintro as Q E ⟨k, s, f, ⟨g1, g2, bef, beh⟩, rfl, hq⟩
  refine ⟨_, _, _, rfl, by simp, rfl, ?_⟩
  refine ⟨_, _, _, rfl, by simp, rfl, ?_⟩
  refine ⟨by simp, by simp, ?_⟩
  refine plain1 (nxN ?_)
  refine if_cut (fun ρ => ∃ (s4 s5 : Sl) (L : List Dt), ρ = [.dat (paceO kl s f), .dat (k.dt kl), .dat (gpD (g1, g2, bef, beh)), .own L, s4, s5] ∧ L = ([(k.first, k.least, 0)] ++ lnO bef k.first k.least s).map lnD) ?_ ?_
  rotate_left
  · intro K kk
    refine ⟨_, _, _, rfl, by simp [paceO], rfl, ?_⟩
    cases s with
    | none => exact ⟨rfl, _, rfl, kk _ ⟨_, _, _, rfl, rfl⟩⟩
    | some a =>
      refine ⟨rfl, _, rfl, ?_⟩
      refine ⟨_, at4c, ?_⟩
      cases bef with
      | none =>
        refine ⟨_, _, _, rfl, by simp, rfl, ?_⟩
        refine ⟨_, _, _, rfl, by simp, rfl, ?_⟩
        refine ⟨by simp, rfl, rfl, ?_⟩
        refine ⟨_, _, _, rfl, by simp [paceO], rfl, by simp, by simp, ?_⟩
        exact kk _ ⟨_, _, _, rfl, rfl⟩
      | some p =>
        refine ⟨rfl, rfl, ?_⟩
        refine ⟨_, _, _, rfl, by simp [paceO], rfl, by simp, by simp, ?_⟩
        exact kk _ ⟨_, _, _, rfl, rfl⟩
  rintro ρ ⟨s4, s5, _, rfl, rfl⟩
  refine if_cut (fun ρ => ∃ (s4 s5 : Sl) (L : List Dt), ρ = [.dat (paceO kl s f), .dat (k.dt kl), .dat (gpD (g1, g2, bef, beh)), .own L, s4, s5] ∧ L = (lowerL ⟨k.first, k.last, k.least, k.greatest, s, f⟩ bef beh).map lnD) ?_ ?_
  rotate_left
  · intro K kk
    refine ⟨_, _, _, rfl, by simp [paceO], rfl, ?_⟩
    cases f with
    | none => exact ⟨rfl, _, rfl, kk _ ⟨_, _, _, rfl, by cases s <;> rfl⟩⟩
    | some b =>
      refine ⟨rfl, _, rfl, ?_⟩
      refine ⟨_, at4d, ?_⟩
      cases beh with
      | none =>
        refine ⟨_, _, _, rfl, by simp, rfl, ?_⟩
        refine ⟨_, _, _, rfl, by simp, rfl, ?_⟩
        refine ⟨by simp, rfl, rfl, ?_⟩
        refine ⟨_, _, _, rfl, by simp [paceO], rfl, by simp, by cases s <;> simp [lnO], ?_⟩
        exact kk _ ⟨_, _, _, rfl, by cases s <;> rfl⟩
      | some p =>
        refine ⟨rfl, rfl, ?_⟩
        refine ⟨_, _, _, rfl, by simp [paceO], rfl, by simp, by cases s <;> simp [lnO], ?_⟩
        exact kk _ ⟨_, _, _, rfl, by cases s <;> rfl⟩
  rintro ρ ⟨s4, s5, _, rfl, rfl⟩
  exact hq
def sd_Pace_upper (kl : Kl) : Sd := fun as Q _ => ∃ (k : Kn) (s f : Option Int) (g : Gp), as = [paceO kl s f, k.dt kl, gpD g] ∧ Q (.lst ((upperL ⟨k.first, k.last, k.least, k.greatest, s, f⟩ g.2.2.1 g.2.2.2).map lnD))
def d_Pace_upper (kl : Kl) : DS := (dSeq (dOwn 3 (dCons (dTup (dCons (dAt [kl.Known] "first" (dVar 1)) (dCons (dAt [kl.Known] "greatest" (dVar 1)) (dCons (dC (.int 0)) dNil)))) dNil))
  (dSeq (dIfS (dTest (dOp dNotN (dAt [kl.Pace] "fastest" (dVar 0)) (dC .non)))
  (dSeq (dAsg (dOrT (dOp dIx (dVar 2) (dC (.int 2))) (dTup (dCons (dAt [kl.Known] "first" (dVar 1)) (dCons (dAt [kl.Known] "greatest" (dVar 1)) dNil)))) (gdSq 2 (gdCons (gdName 4) (gdCons (gdName 5) gdNil))))
  (dApp 3 (dTup (dCons (dVar 4) (dCons (dVar 5) (dCons (dAt [kl.Pace] "fastest" (dVar 0)) dNil))))))
  dNext)
  (dSeq (dIfS (dTest (dOp dNotN (dAt [kl.Pace] "slowest" (dVar 0)) (dC .non)))
  (dSeq (dAsg (dOrT (dOp dIx (dVar 2) (dC (.int 3))) (dTup (dCons (dAt [kl.Known] "last" (dVar 1)) (dCons (dAt [kl.Known] "greatest" (dVar 1)) dNil)))) (gdSq 2 (gdCons (gdName 4) (gdCons (gdName 5) gdNil))))
  (dApp 3 (dTup (dCons (dVar 4) (dCons (dVar 5) (dCons (dAt [kl.Pace] "slowest" (dVar 0)) dNil))))))
  dNext)
  (dRet (dVar 3)))))
theorem pure_Pace_upper (kl : Kl) : ∀ as Q E, sd_Pace_upper kl as Q E → d_Pace_upper kl (dEnds Q E) (startD 6 as) := by
  rintro as Q E ⟨k, s, f, ⟨g1, g2, bef, beh⟩, rfl, hq⟩
  refine ⟨_, _, _, rfl, by simp, rfl, ?_⟩
  refine ⟨_, _, _, rfl, by simp, rfl, ?_⟩
  refine ⟨by simp, by simp, ?_⟩
  refine plain1 (nxN ?_)
  refine if_cut (fun ρ => ∃ (s4 s5 : Sl) (L : List Dt), ρ = [.dat (paceO kl s f), .dat (k.dt kl), .dat (gpD (g1, g2, bef, beh)), .own L, s4, s5] ∧ L = ([(k.first, k.greatest, 0)] ++ lnO bef k.first k.greatest f).map lnD) ?_ ?_
  rotate_left
  · intro K kk
    refine ⟨_, _, _, rfl, by simp [paceO], rfl, ?_⟩
    cases f with
    | none => exact ⟨rfl, _, rfl, kk _ ⟨_, _, _, rfl, rfl⟩⟩
    | some a =>
      refine ⟨rfl, _, rfl, ?_⟩
      refine ⟨_, at4c, ?_⟩
      cases bef with
      | none =>
        refine ⟨_, _, _, rfl, by simp, rfl, ?_⟩
        refine ⟨_, _, _, rfl, by simp, rfl, ?_⟩
        refine ⟨by simp, rfl, rfl, ?_⟩
        refine ⟨_, _, _, rfl, by simp [paceO], rfl, by simp, by simp, ?_⟩
        exact kk _ ⟨_, _, _, rfl, rfl⟩
      | some p =>
        refine ⟨rfl, rfl, ?_⟩
        refine ⟨_, _, _, rfl, by simp [paceO], rfl, by simp, by simp, ?_⟩
        exact kk _ ⟨_, _, _, rfl, rfl⟩
  rintro ρ ⟨s4, s5, _, rfl, rfl⟩
  refine if_cut (fun ρ => ∃ (s4 s5 : Sl) (L : List Dt), ρ = [.dat (paceO kl s f), .dat (k.dt kl), .dat (gpD (g1, g2, bef, beh)), .own L, s4, s5] ∧ L = (upperL ⟨k.first, k.last, k.least, k.greatest, s, f⟩ bef beh).map lnD) ?_ ?_
  rotate_left
  · intro K kk
    refine ⟨_, _, _, rfl, by simp [paceO], rfl, ?_⟩
    cases s with
    | none => exact ⟨rfl, _, rfl, kk _ ⟨_, _, _, rfl, by cases f <;> rfl⟩⟩
    | some b =>
      refine ⟨rfl, _, rfl, ?_⟩
      refine ⟨_, at4d, ?_⟩
      cases beh with
      | none =>
        refine ⟨_, _, _, rfl, by simp, rfl, ?_⟩
        refine ⟨_, _, _, rfl, by simp, rfl, ?_⟩
        refine ⟨by simp, rfl, rfl, ?_⟩
        refine ⟨_, _, _, rfl, by simp [paceO], rfl, by simp, by cases f <;> simp [lnO], ?_⟩
        exact kk _ ⟨_, _, _, rfl, by cases f <;> rfl⟩
      | some p =>
        refine ⟨rfl, rfl, ?_⟩
        refine ⟨_, _, _, rfl, by simp [paceO], rfl, by simp, by cases f <;> simp [lnO], ?_⟩
        exact kk _ ⟨_, _, _, rfl, by cases f <;> rfl⟩
  rintro ρ ⟨s4, s5, _, rfl, rfl⟩
  exact hq
def sd_height : Sd := fun as Q _ => ∃ (l : Ln) (key : Int), as = [lnD l, .v (.int key)] ∧ (-(2 ^ 64) < l.2.2 ∧ l.2.2 < 2 ^ 64) ∧ Q (.v (.int (hgt l key)))
def d_height : DS := (dSeq (dAsg (dVar 0) (gdSq 3 (gdCons (gdName 2) (gdCons (gdName 3) (gdCons (gdName 4) gdNil)))))
  (dRetE (dOp dAdd (dVar 3) (dOp dMul (dVar 4) (dOp dSub (dVar 1) (dVar 2))))))
theorem len_height : ∀ as Q E, sd_height as Q E → as.length = 2 := by
  rintro _ _ _ ⟨_, _, rfl, _⟩
  rfl
theorem pure_height : ∀ as Q E, sd_height as Q E → d_height (dEnds Q E) (startD 5 as) := by
  rintro as Q E ⟨l, key, rfl, hl, hq⟩
  exact ⟨rfl, rfl, .inl hl, hq⟩
def tb_lower (kl : Kl) : List (Addr × Sd) := [(kl.Pace, sd_Pace_lower kl)]
def tb_upper (kl : Kl) : List (Addr × Sd) := [(kl.Pace, sd_Pace_upper kl)]
def sd_Pace_free (kl : Kl) : Sd := fun as Q _ => ∃ (k : Kn) (s f : Option Int) (key : Int), as = [paceO kl s f, k.dt kl, oG (findG k.gaps key), .v (.int key)] ∧ k.pr = .pace s f ∧ k.Ok ∧ toldK k.ts key = none ∧ inK k key ∧ ∀ lo hi qs, lo ≤ hi → (∀ v, (lo ≤ v ∧ v ≤ hi) ↔ Fits k.F k.ts (key, v)) → St qs → (∀ v, In qs v ↔ Fits k.F k.ts (key, v)) → qs.length ≤ 1 → Q (stD kl qs)
def d_Pace_free (kl : Kl) : DS := (dSeq (dAsg (dCB dMaxL (dCons (dLc (iSeq (dMeth (tb_lower kl) "lower" (dVar 0) (dCons (dVar 1) (dCons (dVar 2) dNil)))) (gdName 6) dYes (dCall sd_height [] (dCons (dVar 6) (dCons (dVar 3) dNil))) [6]) dNil)) (gdName 4))
  (dSeq (dAsg (dCB dMinL (dCons (dLc (iSeq (dMeth (tb_upper kl) "upper" (dVar 0) (dCons (dVar 1) (dCons (dVar 2) dNil)))) (gdName 6) dYes (dCall sd_height [] (dCons (dVar 6) (dCons (dVar 3) dNil))) [6]) dNil)) (gdName 5))
  (dRetE (dMake (sd_Stretches___init__ kl) (dCons (dLst (dCons (dTup (dCons (dVar 4) (dCons (dVar 5) dNil))) dNil)) dNil)))))
theorem lowerL_slope {F : Fx} {bef beh : Option Pr} (h1 : smO F.s) (h2 : smO F.f) {l : Ln} (m : l ∈ lowerL F bef beh) : -(2 ^ 64) < l.2.2 ∧ l.2.2 < 2 ^ 64 := by
  rcases mem_lowerL.mp m with rfl | ⟨a, e, rfl⟩ | ⟨b, e, rfl⟩
  · exact ⟨(by decide : -(2 ^ 64) < (0 : Int)), (by decide : (0 : Int) < 2 ^ 64)⟩
  · exact sm_lt h1 e
  · exact sm_lt h2 e
theorem upperL_slope {F : Fx} {bef beh : Option Pr} (h1 : smO F.s) (h2 : smO F.f) {l : Ln} (m : l ∈ upperL F bef beh) : -(2 ^ 64) < l.2.2 ∧ l.2.2 < 2 ^ 64 := by
  rcases mem_upperL.mp m with rfl | ⟨a, e, rfl⟩ | ⟨b, e, rfl⟩
  · exact ⟨(by decide : -(2 ^ 64) < (0 : Int)), (by decide : (0 : Int) < 2 ^ 64)⟩
  · exact sm_lt h2 e
  · exact sm_lt h1 e
theorem lowerL_len (F : Fx) (bef beh : Option Pr) : 0 < (lowerL F bef beh).length ∧ (lowerL F bef beh).length ≤ 3 := by
  unfold lowerL
  cases F.s <;> cases F.f <;> simp
theorem upperL_len (F : Fx) (bef beh : Option Pr) : 0 < (upperL F bef beh).length ∧ (upperL F bef beh).length ≤ 3 := by
  unfold upperL
  cases F.s <;> cases F.f <;> simp
theorem hgt_map (ls : List Ln) (key : Int) : (List.range (ls.map lnD).length).map (fun i => Dt.int (hgt (ls.getD i (0, 0, 0)) key)) = (ls.map fun l => hgt l key).map Dt.int := by
  rw [List.length_map]
  refine List.ext_getElem (by simp) fun i h1 h2 => ?_
  have h : i < ls.length := by simpa using h1
  simp [List.getD_eq_getElem?_getD, List.getElem?_eq_getElem h]
theorem pace_F {k : Kn} {s f : Option Int} (e : k.pr = .pace s f) : k.F = ⟨k.first, k.last, k.least, k.greatest, s, f⟩ := by
  unfold Kn.F
  rw [e]
theorem pace_good {k : Kn} {s f : Option Int} (e : k.pr = .pace s f) (h : k.Ok) : k.F.Ok ∧ smO s ∧ smO f ∧ Valid k.F k.ts := by
  have g := h.good
  unfold GoodK at g
  rw [e] at g
  exact g
theorem pure_Pace_free (kl : Kl) : ∀ as Q E, sd_Pace_free kl as Q E → d_Pace_free kl (dEnds Q E) (startD 7 as) := by
  rintro as Q E ⟨k, s, f, key, rfl, hp, hk, ht, hin, hq⟩
  obtain ⟨gok, gs, gf, gv⟩ := pace_good hp hk
  have eF := pace_F hp
  obtain ⟨g, eg, _, _, _, hb, hh⟩ := gap_key hk hin ht
  rw [eg]
  have fit := fun v => lines_fit (v := v) gv (fun q m => toldK_none ht q m) hb hh (by rw [eF]; exact hin)
  obtain ⟨v, hv⟩ := exists_fit gok gv (x := key) (by rw [eF]; exact hin)
  refine ⟨_, _, sd_Pace_lower kl, rfl, by simp [tb_lower], rfl, ?_⟩
  refine ⟨k, s, f, g, rfl, ?_⟩
  rw [← eF]
  have ll := lowerL_len k.F g.2.2.1 g.2.2.2
  have ul := upperL_len k.F g.2.2.1 g.2.2.2
  refine lc_map (fun i => Dt.int (hgt ((lowerL k.F g.2.2.1 g.2.2.2).getD i (0, 0, 0)) key)) (by rw [List.length_map]; omega) (fun i x hx R hR => ?_) ?_
  · obtain ⟨l, hl, rfl⟩ := get_map hx
    have hi := (List.getElem?_eq_some_iff.mp hl).1
    refine ⟨l, key, rfl, lowerL_slope (by rw [eF]; exact gs) (by rw [eF]; exact gf) (List.mem_of_getElem? hl), ?_⟩
    rw [List.getD_eq_getElem?_getD, hl] at hR
    exact hR
  rw [hgt_map]
  refine ⟨_, rfl, by rw [List.length_map]; exact ll.1, fun lo lm lx => ?_⟩
  refine ⟨_, _, sd_Pace_upper kl, rfl, by simp [tb_upper], rfl, ?_⟩
  refine ⟨k, s, f, g, rfl, ?_⟩
  rw [← eF]
  refine lc_map (fun i => Dt.int (hgt ((upperL k.F g.2.2.1 g.2.2.2).getD i (0, 0, 0)) key)) (by rw [List.length_map]; omega) (fun i x hx R hR => ?_) ?_
  · obtain ⟨l, hl, rfl⟩ := get_map hx
    refine ⟨l, key, rfl, upperL_slope (by rw [eF]; exact gs) (by rw [eF]; exact gf) (List.mem_of_getElem? hl), ?_⟩
    rw [List.getD_eq_getElem?_getD, hl] at hR
    exact hR
  rw [hgt_map]
  refine ⟨_, rfl, by rw [List.length_map]; exact ul.1, fun hi um ux => ?_⟩
  have rg : ∀ v, (lo ≤ v ∧ v ≤ hi) ↔ Fits k.F k.ts (key, v) := fun v => by
    rw [← fit v]
    constructor
    · rintro ⟨h1, h2⟩
      exact ⟨fun l m => Int.le_trans (lx _ (List.mem_map.mpr ⟨l, m, rfl⟩)) h1, fun l m => Int.le_trans h2 (ux _ (List.mem_map.mpr ⟨l, m, rfl⟩))⟩
    · rintro ⟨h1, h2⟩
      obtain ⟨l, m, e⟩ := List.mem_map.mp lm
      obtain ⟨l2, m2, e2⟩ := List.mem_map.mp um
      exact ⟨by rw [← e]; exact h1 l m, by rw [← e2]; exact h2 l2 m2⟩
  have lh : lo ≤ hi := by
    have := (rg v).mpr hv
    omega
  have b1 := fits_bnd ((rg lo).mp ⟨Int.le_refl _, lh⟩)
  have b2 := fits_bnd ((rg hi).mp ⟨lh, Int.le_refl _⟩)
  rw [eF] at b1 b2
  have b1 : k.least ≤ lo ∧ lo ≤ k.greatest := b1
  have b2 : k.least ≤ hi ∧ hi ≤ k.greatest := b2
  have ve := hk.vals
  have gd : Good [(lo, hi)] := ⟨fun q m => by rw [List.mem_singleton.mp m]; exact lh, fun q m => by rw [List.mem_singleton.mp m]; exact ⟨Int.le_trans ve.1 b1.1, Int.le_trans b2.2 ve.2.1⟩⟩
  refine ⟨by simp, by simp, ?_⟩
  refine ⟨[(lo, hi)], _, rfl, .inl rfl, by simp, fun p h => no_bad gd p h, fun _ qs h1 h2 h3 => ?_⟩
  refine hq lo hi qs lh rg h1 (fun v => ?_) h3
  rw [h2, In_cons, ← rg v]
  simp [In_nil]
def tb_free (kl : Kl) : List (Addr × Sd) := [(kl.Promise, sd_Promise_free kl), (kl.OneToOne, sd_OneToOne_free kl), (kl.Pace, sd_Pace_free kl)]
theorem free_of (kl : Kl) (k : Kn) (hp : PrOk k.pr) : ∃ C gs sd, k.pr.obj kl = .obj C gs ∧ (C, sd) ∈ tb_free kl ∧ gs.lookup ("free" : Str) = none ∧ ∀ (key : Int) (Q : Dt → Prop) (E : Xn → Prop), k.Ok → toldK k.ts key = none → inK k key →
    (∀ qs, St qs → (∀ v, In qs v ↔ Free k key v) → qs.length ≤ 100 → Q (stD kl qs)) → sd [.obj C gs, k.dt kl, oG (findG k.gaps key), .v (.int key)] Q E := by
  cases e : k.pr with
  | none =>
    refine ⟨_, _, sd_Promise_free kl, rfl, by simp [tb_free], rfl, fun key Q E hk _ _ q => ?_⟩
    refine ⟨k, _, _, _, _, rfl, hk.vals, fun qs h1 h2 h3 => q qs h1 (fun v => ?_) (by omega)⟩
    unfold Free
    rw [e, h2]
  | one =>
    refine ⟨_, _, sd_OneToOne_free kl, rfl, by simp [tb_free], rfl, fun key Q E hk ht hin q => ?_⟩
    refine ⟨k, _, _, rfl, hk, fun qs h1 h2 h3 => q qs h1 (fun v => ?_) h3⟩
    unfold Free
    rw [e, h2]
  | pace s f =>
    refine ⟨_, _, sd_Pace_free kl, rfl, by simp [tb_free], rfl, fun key Q E hk ht hin q => ?_⟩
    refine ⟨k, s, f, key, rfl, e, hk, ht, hin, fun lo hi qs _ _ h1 h2 h3 => q qs h1 (fun v => ?_) (by omega)⟩
    unfold Free
    rw [e, h2]
theorem free_in {k : Kn} (_ : k.Ok) (hp : PrOk k.pr) {key v : Int} (h : Free k key v) : k.least ≤ v ∧ v ≤ k.greatest := by
  unfold Free at h
  cases e : k.pr with
  | none => rw [e] at h; exact h
  | one => rw [e] at h; exact h.1
  | pace s f => rw [e] at h; exact h.1.1
def tb_exists (kl : Kl) : List (Addr × Sd) := [(kl.Promise, sd_Promise_exists kl), (kl.OneToOne, sd_OneToOne_exists kl), (kl.Pace, sd_Pace_exists kl)]
theorem exi_of (kl : Kl) (k : Kn) (hp : PrOk k.pr) : ∃ C gs sd, k.pr.obj kl = .obj C gs ∧ (C, sd) ∈ tb_exists kl ∧ gs.lookup ("exists" : Str) = none ∧ ∀ (Q : Dt → Prop) (E : Xn → Prop), (∀ b : Bool, (b = true ↔ Exi k) → Q (.v (.bl b))) → sd [.obj C gs, k.dt kl] Q E := by
  cases e : k.pr with
  | none => exact ⟨_, _, sd_Promise_exists kl, rfl, by simp [tb_exists], rfl, fun Q E q => ⟨_, rfl, q true (by unfold Exi; rw [e]; simp)⟩⟩
  | one =>
    exact ⟨_, _, sd_OneToOne_exists kl, rfl, by simp [tb_exists], rfl, fun Q E q => ⟨k, rfl, q _ (by unfold Exi; rw [e]; exact decide_eq_true_iff)⟩⟩
  | pace s f =>
    rw [e] at hp
    refine ⟨_, _, sd_Pace_exists kl, rfl, by simp [tb_exists], rfl, fun Q E q => ⟨k, s, f, rfl, hp.1, hp.2.1, q _ ?_⟩⟩
    unfold Exi exB exS exF
    rw [e]
    cases s <;> cases f <;> simp [Int.neg_mul]


def hasB (ps : List Pr) (x : Int) : Bool := ps.any fun p => decide (p.1 ≤ x) && decide (x ≤ p.2)
theorem hasB_iff {ps : List Pr} {x : Int} : hasB ps x = true ↔ In ps x := by
  unfold hasB In
  rw [List.any_eq_true]
  constructor
  · rintro ⟨p, m, h⟩
    rw [Bool.and_eq_true, decide_eq_true_eq, decide_eq_true_eq] at h
    exact ⟨p, m, h⟩
  · rintro ⟨p, m, h⟩
    refine ⟨p, m, ?_⟩
    rw [Bool.and_eq_true, decide_eq_true_eq, decide_eq_true_eq]
    exact h
theorem hasB_false {ps : List Pr} {x : Int} (h : ¬ In ps x) : hasB ps x = false := by
  cases e : hasB ps x with
  | false => rfl
  | true => exact absurd (hasB_iff.mp e) h

def sd_Stretches___contains__ (kl : Kl) : Sd := fun as Q _ => ∃ (l : List Pr) (x : Int), as = [stD kl l, .v (.int x)] ∧ Q (.v (.bl (hasB l x)))
def d_Stretches___contains__ (kl : Kl) : DS := (dSeq (dFor (iSeq (dSlA [kl.Stretches] (dVar 0))) (gdSq 2 (gdCons (gdName 2) (gdCons (gdName 3) gdNil)))
  (dIfS (dTest (dChain dLe dLe (dVar 2) (dVar 1) (dVar 3)))
  (dRetE (dC (.bl true)))
  dNext))
  (dRetE (dC (.bl false))))
theorem pure_Stretches___contains__ (kl : Kl) : ∀ as Q E, sd_Stretches___contains__ kl as Q E → d_Stretches___contains__ kl (dEnds Q E) (startD 4 as) := by
  rintro as Q E ⟨ps, x, rfl, hq⟩
  refine ⟨_, _, rfl, by simp, ?_⟩
  refine for_inv (fun i ρ => ∃ s2 s3, ρ = [.dat (stD kl ps), .int x, s2, s3] ∧ ¬ In (ps.take i) x) ⟨_, _, rfl, by simp [In_nil]⟩ ?_ ?_
  · rintro i y ρ hy ⟨s2, s3, rfl, hn⟩
    obtain ⟨p, hp, rfl⟩ := get_map hy
    refine ⟨rfl, rfl, ?_⟩
    have nx : p.1 ≤ x → x ≤ p.2 → hasB ps x = true := fun h1 h2 => hasB_iff.mpr ⟨p, List.mem_of_getElem? hp, h1, h2⟩
    have no : ¬ (p.1 ≤ x ∧ x ≤ p.2) → ¬ In (ps.take (i + 1)) x := fun h => by
      rw [take_next hp, In_append, In_cons]
      rintro (z | z | z)
      · exact hn z
      · exact h z
      · exact In_nil _ z
    refine iteD (fun h1 => ?_) (fun h1 => ?_)
    · refine iteD (fun h2 => ?_) (fun h2 => ?_)
      · rw [nx h1 h2] at hq
        exact hq
      · exact ⟨_, _, rfl, no fun z => h2 z.2⟩
    · exact ⟨_, _, rfl, no fun z => h1 z.1⟩
  · rintro ρ ⟨s2, s3, rfl, hn⟩
    rw [List.length_map, List.take_length] at hn
    rw [hasB_false hn] at hq
    exact hq

theorem lot_some {k : Kn} {key v w : Int} (e : toldK k.ts key = some w) : Lot k key v ↔ v = w := by
  unfold Lot
  rw [e]
theorem lot_none {k : Kn} {key v : Int} (e : toldK k.ts key = none) : Lot k key v ↔ Free k key v := by
  unfold Lot
  rw [e]
def sd_Known_lot (kl : Kl) : Sd := fun as Q E => ∃ (k : Kn) (key : Int), as = [k.dt kl, .v (.int key)] ∧ k.Ok ∧ PrOk k.pr ∧ (¬ inK k key → E (noKeyX kl key)) ∧ (inK k key → ∀ qs, St qs → (∀ v, In qs v ↔ Lot k key v) → qs.length ≤ 100 → Q (stD kl qs))
def tb_told (kl : Kl) : List (Addr × Sd) := [(kl.Known, sd_Known_told kl)]
def tb_gap_of (kl : Kl) : List (Addr × Sd) := [(kl.Known, sd_Known_gap_of kl)]
def d_Known_lot (kl : Kl) : DS := (dSeq (dAsg (dMeth (tb_told kl) "told" (dVar 0) (dCons (dVar 1) dNil)) (gdName 2))
  (dSeq (dIfS (dTest (dOp dNotN (dVar 2) (dC .non)))
  (dRetE (dMake (sd_Stretches___init__ kl) (dCons (dLst (dCons (dTup (dCons (dVar 2) (dCons (dVar 2) dNil))) dNil)) dNil)))
  dNext)
  (dRetE (dMeth (tb_free kl) "free" (dAt [kl.Known] "promise" (dVar 0)) (dCons (dVar 0) (dCons (dMeth (tb_gap_of kl) "gap_of" (dVar 0) (dCons (dVar 1) dNil)) (dCons (dVar 1) dNil)))))))
theorem in_pt {v w : Int} : In [(w, w)] v ↔ v = w := by
  rw [In_cons]
  constructor
  · rintro (h | h)
    · have h : w ≤ v ∧ v ≤ w := h
      omega
    · exact absurd h (In_nil v)
  · rintro rfl
    exact .inl ⟨Int.le_refl _, Int.le_refl _⟩
theorem good_pt {w : Int} (h : -(10 ^ 18) ≤ w ∧ w ≤ 10 ^ 18) : Good [(w, w)] := ⟨fun q m => by rw [List.mem_singleton.mp m]; exact Int.le_refl _, fun q m => by rw [List.mem_singleton.mp m]; exact h⟩
theorem told_in {k : Kn} (hk : k.Ok) {key w : Int} (e : toldK k.ts key = some w) : k.least ≤ w ∧ w ≤ k.greatest := hk.in_ _ (toldK_mem e)
theorem pure_Known_lot (kl : Kl) : ∀ as Q E, sd_Known_lot kl as Q E → d_Known_lot kl (dEnds Q E) (startD 3 as) := by
  rintro as Q E ⟨k, key, rfl, hk, hp, he, hq⟩
  refine ⟨_, _, sd_Known_told kl, rfl, by simp [tb_told], rfl, ?_⟩
  refine ⟨k, key, rfl, he, fun h => ?_⟩
  have hq := hq h
  have hl : k.ts.length ≤ 1000 := Nat.le_trans hk.len (by decide)
  cases e : toldK k.ts key with
  | some w =>
    have hw := told_in hk e
    have hv := hk.vals
    have g : Good [(w, w)] := good_pt ⟨Int.le_trans hv.1 hw.1, Int.le_trans hw.2 hv.2.1⟩
    refine ⟨rfl, _, rfl, ?_⟩
    refine ⟨by simp, by simp, ?_⟩
    refine ⟨[(w, w)], _, rfl, .inl rfl, by simp, fun p h => no_bad g p h, fun _ qs h1 h2 h3 => ?_⟩
    exact hq qs h1 (fun v => by rw [h2, in_pt, lot_some e]) (Nat.le_trans h3 (by simp))
  | none =>
    refine ⟨rfl, _, rfl, ?_⟩
    refine ⟨_, _, _, rfl, by simp, rfl, ?_⟩
    obtain ⟨C, gs, sd, h1, h2, h3, h4⟩ := free_of kl k hp
    refine ⟨C, gs, sd, congrArg Sl.dat h1, h2, h3, ?_⟩
    refine ⟨_, _, sd_Known_gap_of kl, rfl, by simp [tb_gap_of], rfl, ?_⟩
    refine ⟨k, key, rfl, hl, ?_⟩
    refine h4 key _ _ hk e h fun qs q1 q2 q3 => ?_
    exact hq qs q1 (fun v => by rw [q2, lot_none e]) q3
theorem asc_of {qs ts : List Pr} {p : Pr} (hs : SrtO.Srtd SrtO.lexB qs) (hp : qs.Perm (ts ++ [p])) (ha : Asc ts) (hn : toldK ts p.1 = none) : Asc qs := by
  have le := srtd_low hs
  have ne : (ts ++ [p]).Pairwise fun a b => a.1 ≠ b.1 := by
    refine List.pairwise_append.mpr ⟨ha.imp fun {a b} h => by omega, List.pairwise_singleton _ _, fun a ma b mb => ?_⟩
    rw [List.mem_singleton.mp mb]
    exact toldK_none hn a ma
  have ne2 : qs.Pairwise fun a b => a.1 ≠ b.1 := (hp.pairwise_iff (fun {a b} (h : a.1 ≠ b.1) => h.symm)).mpr ne
  exact (le.and ne2).imp fun {a b} h => by
    have := h.1
    have := h.2
    omega
def sd_Known_teach (kl : Kl) : SdM := fun fs as Q E => ∃ (k : Kn) (key v : Int), fs = k.fs kl ∧ as = [.v (.int key), .v (.int v)] ∧ k.Ok ∧ PrOk k.pr ∧ (¬ inK k key → E (noKeyX kl key)) ∧ (inK k key → ¬ Lot k key v → E (impX kl key v)) ∧
  (inK k key → Lot k key v → toldK k.ts key = none → 40 ≤ k.ts.length → E (manyX kl 40)) ∧ (inK k key → Lot k key v → ∀ k', Step k (key, v) k' → k'.ts.length ≤ 40 → Q (k'.fs kl))
def tb_lot (kl : Kl) : List (Addr × Sd) := [(kl.Known, sd_Known_lot kl)]
def d_Known_teach (kl : Kl) : DS := (dSeq (dIfS (dLendT (dTest (dOp (dNiS kl.Stretches (sd_Stretches___contains__ kl) dNotIn) (dVar 2) (dMeth (tb_lot kl) "lot" (dVar 0) (dCons (dVar 1) dNil)))))
  (dRaise kl.Impossible ["key", "value"] (dCons (dVar 1) (dCons (dVar 2) dNil)))
  dNext)
  (dIfS (dLendT (dTest (dOp dIsN (dMeth (tb_told kl) "told" (dVar 0) (dCons (dVar 1) dNil)) (dC .non))))
  (dSeq (dIfS (dLendT (dTest (dOp dGe (dCB dLen (dCons (dAt [kl.Known] "taught" (dVar 0)) dNil)) (dC (.int 40)))))
  (dRaise kl.TooMany ["limit"] (dCons (dC (.int 40)) dNil))
  dNext)
  (dFld [kl.Known] 0 "taught" (dCB dSortP (dCons (dOp dAdd (dAtO [kl.Known] 0 "taught") (dLst (dCons (dTup (dCons (dVar 1) (dCons (dVar 2) dNil))) dNil))) dNil))))
  dNext))
theorem len_Known_teach (kl : Kl) : ∀ fs as Q E, sd_Known_teach kl fs as Q E → as.length + 1 = 3 := by
  rintro _ _ _ _ ⟨_, _, _, _, rfl, _⟩
  rfl
theorem pure_Known_teach (kl : Kl) : ∀ p fs as Q E, sd_Known_teach kl fs as Q E → d_Known_teach kl (dEndsM p kl.Known Q E) (startM p kl.Known fs 3 as) := by
  rintro p fs as Q E ⟨k, key, v, rfl, rfl, hk, hp, he1, he2, he3, hq⟩
  refine ⟨_, _, sd_Known_lot kl, rfl, by simp [tb_lot], rfl, ?_⟩
  refine ⟨k, key, rfl, hk, hp, fun h => ⟨clean1, he1 h⟩, fun h qs hs es ls => ?_⟩
  refine ⟨rfl, _, rfl, qs, v, rfl, hasB qs v, rfl, ?_⟩
  refine iteB (fun c => ?_) (fun c => ?_)
  · refine ⟨rfl, he2 h fun z => ?_⟩
    rw [hasB_iff.mpr ((es v).mpr z)] at c
    cases c
  have hL : Lot k key v := (es v).mp (hasB_iff.mp (by simpa using c))
  refine ⟨_, _, sd_Known_told kl, rfl, by simp [tb_told], rfl, ?_⟩
  refine ⟨k, key, rfl, fun n => absurd h n, fun _ => ?_⟩
  cases e : toldK k.ts key with
  | some w =>
    refine ⟨rfl, _, rfl, ?_⟩
    exact ⟨_, rfl, hq h hL k (.inl ⟨by rw [e]; exact fun z => (nomatch z), rfl⟩) hk.len⟩
  | none =>
    refine ⟨rfl, _, rfl, ?_⟩
    refine ⟨_, _, _, rfl, by simp, rfl, ?_⟩
    refine iteD (fun n => ?_) (fun n => ?_)
    · have n : ((k.ts.map prD).length : Int) ≥ 40 := n
      rw [List.length_map] at n
      exact ⟨rfl, he3 h hL e (by omega)⟩
    have n : ¬ ((k.ts.map prD).length : Int) ≥ 40 := n
    rw [List.length_map] at n
    refine ⟨p, _, _, _, rfl, by simp, rfl, ?_⟩
    refine ⟨by simp, by simp, by simp; omega, ?_⟩
    refine ⟨k.ts ++ [(key, v)], by rw [List.map_append]; rfl, fun qs2 s2 p2 => ?_⟩
    refine ⟨p, _, _, rfl, by simp, (by decide : (6 : Nat) < 1000), ?_⟩
    refine ⟨_, rfl, ?_⟩
    have l2 := p2.length_eq
    rw [List.length_append, List.length_singleton] at l2
    exact hq h hL { k with ts := qs2 } (.inr ⟨e, qs2, asc_of s2 p2 hk.asc e, p2, rfl⟩) (by show qs2.length ≤ 40; omega)
theorem step_ok {k k' : Kn} {p : Pr} (hk : k.Ok) (hi : inK k p.1) (hv : k.least ≤ p.2 ∧ p.2 ≤ k.greatest) (hL : Lot k p.1 p.2) (h : Step k p k') (hl : k'.ts.length ≤ 40) : k'.Ok := by
  rcases h with ⟨_, e⟩ | ⟨h0, ts', h1, h2, e⟩
  · rw [e]
    exact hk
  · subst e
    have mem : ∀ q ∈ ts', q ∈ k.ts ∨ q = p := fun q m => by
      rcases List.mem_append.mp (h2.mem_iff.mp m) with m | m
      · exact .inl m
      · exact .inr (List.mem_singleton.mp m)
    refine ⟨hk.keys, hk.vals, h1, fun q m => ?_, fun q m => ?_, hl, ?_⟩
    · rcases mem q m with m | m
      · exact hk.at_ q m
      · rw [m]
        exact hi
    · rcases mem q m with m | m
      · exact hk.in_ q m
      · rw [m]
        exact hv
    · have hF := (lot_none h0).mp hL
      have hg := hk.good
      obtain ⟨a, b, lo, hi', pr, ts⟩ := k
      cases pr with
      | none => trivial
      | one =>
        obtain ⟨hg, hg2⟩ : Dist ts ∧ b - a ≤ hi' - lo := hg
        have hF : (lo ≤ p.2 ∧ p.2 ≤ hi') ∧ ∀ q ∈ ts, q.2 ≠ p.2 := hF
        refine ⟨?_, hg2⟩
        intro q mq r mr e
        rcases mem q mq with m1 | rfl <;> rcases mem r mr with m2 | rfl
        · exact hg q m1 r m2 e
        · exact absurd e (hF.2 q m1)
        · exact absurd e.symm (hF.2 r m2)
        · rfl
      | pace s f =>
        obtain ⟨g1, g2, g3, g4⟩ := hg
        exact ⟨g1, g2, g3, valid_add g4 hi hF mem⟩
theorem lot_in {k : Kn} (hk : k.Ok) (hp : PrOk k.pr) {key v : Int} (h : Lot k key v) : k.least ≤ v ∧ v ≤ k.greatest := by
  cases e : toldK k.ts key with
  | some w =>
    rw [(lot_some e).mp h]
    exact told_in hk e
  | none => exact free_in hk hp ((lot_none e).mp h)
theorem step_same {k k' : Kn} {p : Pr} (h : Step k p k') : k'.first = k.first ∧ k'.last = k.last ∧ k'.least = k.least ∧ k'.greatest = k.greatest ∧ k'.pr = k.pr := by
  rcases h with ⟨_, e⟩ | ⟨_, _, _, _, e⟩ <;> subst e <;> exact ⟨rfl, rfl, rfl, rfl, rfl⟩
def oPr (kl : Kl) : Option Pro → Dt
  | none => .non
  | some p => p.obj kl
def conX (kl : Kl) : Xn := ⟨kl.Contradiction, []⟩
def sd_Known___init__ (kl : Kl) : Sd := fun as Q E => ∃ (a b lo hi : Int) (o : Option Pro) (ss : List Pr) (d : Dt), as = [.v (.int a), .v (.int b), oPr kl o, .v (.int lo), .v (.int hi), d] ∧ (d = .lst (ss.map prD) ∨ d = .tup (ss.map prD)) ∧
  (¬ okEnds a b → E (badX kl (a, b))) ∧ (okEnds a b → ¬ okEnds lo hi → E (badX kl (lo, hi))) ∧ (okEnds a b → okEnds lo hi → PrOk (o.getD .none) ∧ (¬ Exi ⟨a, b, lo, hi, o.getD .none, []⟩ → E (conX kl)) ∧ (Exi ⟨a, b, lo, hi, o.getD .none, []⟩ →
    ∃ I : Nat → Kn → Prop, I 0 ⟨a, b, lo, hi, o.getD .none, []⟩ ∧ (∀ (i : Nat) (p : Pr) (k : Kn), ss[i]? = some p → I i k → k.Ok → PrOk k.pr → (¬ inK k p.1 → E (noKeyX kl p.1)) ∧ (inK k p.1 → ¬ Lot k p.1 p.2 → E (impX kl p.1 p.2)) ∧
      (inK k p.1 → Lot k p.1 p.2 → toldK k.ts p.1 = none → 40 ≤ k.ts.length → E (manyX kl 40)) ∧ (inK k p.1 → Lot k p.1 p.2 → ∀ k', Step k p k' → k'.ts.length ≤ 40 → I (i + 1) k')) ∧ ∀ k : Kn, I ss.length k → k.Ok → PrOk k.pr → Q (k.dt kl)))
def d_Known___init__ (kl : Kl) : DS := (dSeq (dDrop (dCall (sd_check_ends kl) [] (dCons (dVar 1) (dCons (dVar 2) dNil))))
  (dSeq (dDrop (dCall (sd_check_ends kl) [] (dCons (dVar 4) (dCons (dVar 5) dNil))))
  (dSeq (dFld [kl.Known] 0 "first" (dVar 1))
  (dSeq (dFld [kl.Known] 0 "last" (dVar 2))
  (dSeq (dFld [kl.Known] 0 "least" (dVar 4))
  (dSeq (dFld [kl.Known] 0 "greatest" (dVar 5))
  (dSeq (dFld [kl.Known] 0 "promise" (dIf (dTest (dOp dIsN (dVar 3) (dC .non))) (dBare kl.Promise) (dVar 3)))
  (dSeq (dFld [kl.Known] 0 "taught" (dLst dNil))
  (dSeq (dIfS (dLendT (dNot (dTru (dMeth (tb_exists kl) "exists" (dAt [kl.Known] "promise" (dVar 0)) (dCons (dVar 0) dNil)))))
  (dRaise0 kl.Contradiction)
  dNext)
  (dFor (iSeq (dVar 6)) (gdSq 2 (gdCons (gdName 7) (gdCons (gdName 8) gdNil)))
  (dMut 0 "teach" kl.Known (sd_Known_teach kl) (dCons (dVar 7) (dCons (dVar 8) dNil)))))))))))))
theorem len_Known___init__ (kl : Kl) : ∀ as Q E, sd_Known___init__ kl as Q E → as.length + 1 = 7 := by
  rintro _ _ _ ⟨_, _, _, _, _, _, _, rfl, _⟩
  rfl
theorem pr_if {kl : Kl} {o : Option Pro} {x0 x1 x2 x4 x5 x6 x7 x8 : Sl} {Q : Sl → Prop} {E : Xn → Prop} (q : Q (.dat ((o.getD .none).obj kl))) : dIf (dTest (dOp dIsN (dVar 3) (dC .non))) (dBare kl.Promise) (dVar 3) [x0, x1, x2, .dat (oPr kl o), x4, x5, x6, x7, x8] Q E := by
  rcases o with _ | p
  · exact ⟨rfl, _, rfl, q⟩
  · cases p <;> exact ⟨rfl, _, rfl, q⟩
theorem pure_Known___init__ (kl : Kl) : ∀ p as Q E, sd_Known___init__ kl as Q E → d_Known___init__ kl (dEndsI p kl.Known Q E) (startI p kl.Known 9 as) := by
  rintro p as Q E ⟨a, b, lo, hi, o, ss, d, rfl, hd, he1, he2, hq⟩
  refine ⟨a, b, rfl, he1, fun h1 => ?_⟩
  refine ⟨lo, hi, rfl, he2 h1, fun h2 => ?_⟩
  obtain ⟨hp, hcx, hq⟩ := hq h1 h2
  refine ⟨_, _, _, rfl, by simp, (by decide : (0 : Nat) < 1000), ?_⟩
  refine ⟨_, _, _, rfl, by simp, (by decide : (1 : Nat) < 1000), ?_⟩
  refine ⟨_, _, _, rfl, by simp, (by decide : (2 : Nat) < 1000), ?_⟩
  refine ⟨_, _, _, rfl, by simp, (by decide : (3 : Nat) < 1000), ?_⟩
  refine pr_if ?_
  refine ⟨_, _, _, rfl, by simp, (by decide : (4 : Nat) < 1000), ?_⟩
  refine ⟨by simp, ?_⟩
  refine ⟨_, _, _, rfl, by simp, (by decide : (5 : Nat) < 1000), ?_⟩
  refine ⟨_, _, _, rfl, by simp, rfl, ?_⟩
  obtain ⟨C, gs, sd, e1, e2, e3, e4⟩ := exi_of kl ⟨a, b, lo, hi, o.getD .none, []⟩ hp
  refine ⟨C, gs, sd, congrArg Sl.dat e1, e2, e3, ?_⟩
  refine e4 _ _ fun b hb => ?_
  cases b with
  | false => exact hcx fun z => nomatch hb.mpr z
  | true =>
  have hx := hb.mp rfl
  clear hb hcx
  obtain ⟨I, i0, hst, hend⟩ := hq hx
  have key : ∀ D : DEnds, D.nx = (dEndsI p kl.Known Q E).nx → D.ex = (dEndsI p kl.Known Q E).ex → ForI (gdSq 2 (gdCons (gdName 7) (gdCons (gdName 8) gdNil))) (dMut 0 "teach" kl.Known (sd_Known_teach kl) (dCons (dVar 7) (dCons (dVar 8) dNil))) D (ss.map prD)
      [.oob p kl.Known (Kn.fs kl ⟨a, b, lo, hi, o.getD .none, []⟩), .int a, .int b, .dat (oPr kl o), .int lo, .int hi, .dat d, .emp, .emp] := by
    intro D n1 n2
    refine for_inv (fun i ρ => ∃ (k : Kn) (s7 s8 : Sl), ρ = [.oob p kl.Known (k.fs kl), .int a, .int b, .dat (oPr kl o), .int lo, .int hi, .dat d, s7, s8] ∧ I i k ∧ k.Ok ∧ PrOk k.pr)
      ⟨_, _, _, rfl, i0, ⟨h1, h2, .nil, fun q m => (nomatch m), fun q m => (nomatch m), by simp, good0 h1 h2 hp hx⟩, hp⟩ ?_ ?_
    · rintro i x ρ hx ⟨k, s7, s8, rfl, hI, hk, hpk⟩
      obtain ⟨q, hq', rfl⟩ := get_map hx
      obtain ⟨f1, f2, f3, f4⟩ := hst i q k hq' hI hk hpk
      refine ⟨rfl, rfl, ?_⟩
      refine ⟨p, _, rfl, rfl, ?_⟩
      refine ⟨k, q.1, q.2, rfl, rfl, hk, hpk, fun n => ?_, fun n m => ?_, fun n m l c => ?_, fun n m k' st l => ?_⟩
      · show D.ex _ _
        rw [n2]
        exact f1 n
      · show D.ex _ _
        rw [n2]
        exact f2 n m
      · show D.ex _ _
        rw [n2]
        exact f3 n m l c
      · have sm := step_same st
        exact ⟨k', _, _, rfl, f4 n m k' st l, step_ok hk n (lot_in hk hpk m) m st l, by rw [sm.2.2.2.2]; exact hpk⟩
    · rintro ρ ⟨k, s7, s8, rfl, hI, hk, hpk⟩
      rw [List.length_map] at hI
      rw [n1]
      exact ⟨_, rfl, hend k hI hk hpk⟩
  rcases hd with rfl | rfl
  · exact key _ rfl rfl
  · exact key _ rfl rfl


theorem seg_skip {lo hi : Int} {C R : Int → Prop} (h : ∀ v, (lo ≤ v ∧ v ≤ hi) ↔ C v) (hR : ∀ v, R v) : ∀ v, (lo ≤ v ∧ v ≤ hi) ↔ C v ∧ R v := fun v => ⟨fun z => ⟨(h v).mp z, hR v⟩, fun z => (h v).mpr z.1⟩
theorem seg_max {lo hi m : Int} {C R : Int → Prop} (h : ∀ v, (lo ≤ v ∧ v ≤ hi) ↔ C v) (hR : ∀ v, R v ↔ m ≤ v) : ∀ v, ((if m > lo then m else lo) ≤ v ∧ v ≤ hi) ↔ C v ∧ R v := fun v => by
  rw [← h v, hR v]
  split <;> omega
theorem seg_min {lo hi m : Int} {C R : Int → Prop} (h : ∀ v, (lo ≤ v ∧ v ≤ hi) ↔ C v) (hR : ∀ v, R v ↔ v ≤ m) : ∀ v, (lo ≤ v ∧ v ≤ if m < hi then m else hi) ↔ C v ∧ R v := fun v => by
  rw [← h v, hR v]
  split <;> omega
theorem near_iff {s f : Option Int} {p : Pr} {key v : Int} : ((((((p.1 ≤ key → ∀ a, s = some a → p.2 + a * (key - p.1) ≤ v) ∧ (p.1 ≤ key → ∀ b, f = some b → v ≤ p.2 + b * (key - p.1)))) ∧ (key ≤ p.1 → ∀ b, f = some b → p.2 - b * (p.1 - key) ≤ v)) ∧ (key ≤ p.1 → ∀ a, s = some a → v ≤ p.2 - a * (p.1 - key))) ∧ (p.1 = key → p.2 ≤ v) ∧ (p.1 = key → v ≤ p.2)) ↔ Near s f p (key, v) := by
  constructor
  · rintro ⟨⟨⟨⟨h1, h2⟩, h3⟩, h4⟩, h5, h6⟩
    refine ⟨fun e => ?_, fun c => ⟨fun a e => ?_, fun b e => ?_⟩, fun c => ⟨fun a e => ?_, fun b e => ?_⟩⟩
    · have e : p.1 = key := e
      have := h5 e
      have := h6 e
      show p.2 = v
      omega
    · have c : p.1 < key := c
      have := h1 (Int.le_of_lt c) a e
      show a * (key - p.1) ≤ v - p.2
      omega
    · have c : p.1 < key := c
      have := h2 (Int.le_of_lt c) b e
      show v - p.2 ≤ b * (key - p.1)
      omega
    · have c : key < p.1 := c
      have := h4 (Int.le_of_lt c) a e
      show a * (p.1 - key) ≤ p.2 - v
      omega
    · have c : key < p.1 := c
      have := h3 (Int.le_of_lt c) b e
      show p.2 - v ≤ b * (p.1 - key)
      omega
  · rintro ⟨h0, h1, h2⟩
    have h0 : p.1 = key → p.2 = v := h0
    have zero : ∀ a : Int, p.1 = key → a * (key - p.1) = 0 ∧ a * (p.1 - key) = 0 := fun a e => by rw [e]; simp
    refine ⟨⟨⟨⟨fun c a e => ?_, fun c b e => ?_⟩, fun c b e => ?_⟩, fun c a e => ?_⟩, fun c => by have := h0 c; omega, fun c => by have := h0 c; omega⟩
    · rcases Int.lt_or_eq_of_le c with c | c
      · have y : a * (key - p.1) ≤ v - p.2 := (h1 c).1 a e
        omega
      · have := h0 c
        have := (zero a c).1
        omega
    · rcases Int.lt_or_eq_of_le c with c | c
      · have y : v - p.2 ≤ b * (key - p.1) := (h1 c).2 b e
        omega
      · have := h0 c
        have := (zero b c).1
        omega
    · rcases Int.lt_or_eq_of_le c with c | c
      · have y : p.2 - v ≤ b * (p.1 - key) := (h2 c).2 b e
        omega
      · have := h0 c.symm
        have := (zero b c.symm).2
        omega
    · rcases Int.lt_or_eq_of_le c with c | c
      · have y : a * (p.1 - key) ≤ p.2 - v := (h2 c).1 a e
        omega
      · have := h0 c.symm
        have := (zero a c.symm).2
        omega

def sd__law_ends : Sd := fun as Q _ => ∃ (F : Fx) (kd : Kd) (rows : List Pr) (key : Int), as = [fxD F kd, .lst (rows.map prD), .v (.int key)] ∧ F.Ok ∧ smO F.s ∧ smO F.f ∧ Valid F rows ∧ (F.k0 ≤ key ∧ key ≤ F.k1) ∧
  ∀ lo hi, lo ≤ hi → (∀ v, (lo ≤ v ∧ v ≤ hi) ↔ Fits F rows (key, v)) → Q (.tup [.v (.int lo), .v (.int hi)])
def d__law_ends : DS := (dSeq (dAsg (dKey (PySem.Str.ofString "values") (dVar 0)) (gdSq 2 (gdCons (gdName 3) (gdCons (gdName 4) gdNil))))
  (dSeq (dAsg (dKey (PySem.Str.ofString "slow") (dVar 0)) (gdName 5))
  (dSeq (dAsg (dKey (PySem.Str.ofString "quick") (dVar 0)) (gdName 6))
  (dSeq (dAsg (dOp dSub (dVar 2) (dOp dIx (dKey (PySem.Str.ofString "keys") (dVar 0)) (dC (.int 0)))) (gdName 7))
  (dSeq (dAsg (dOp dSub (dOp dIx (dKey (PySem.Str.ofString "keys") (dVar 0)) (dC (.int 1))) (dVar 2)) (gdName 8))
  (dSeq (dIfS (dTest (dOp dNotN (dVar 5) (dC .non)))
  (dSeq (dAsg (dCB dMax2 (dCons (dVar 3) (dCons (dOp dAdd (dOp dIx (dKey (PySem.Str.ofString "values") (dVar 0)) (dC (.int 0))) (dOp dMul (dVar 5) (dVar 7))) dNil))) (gdName 3))
  (dAsg (dCB dMin2 (dCons (dVar 4) (dCons (dOp dSub (dOp dIx (dKey (PySem.Str.ofString "values") (dVar 0)) (dC (.int 1))) (dOp dMul (dVar 5) (dVar 8))) dNil))) (gdName 4)))
  dNext)
  (dSeq (dIfS (dTest (dOp dNotN (dVar 6) (dC .non)))
  (dSeq (dAsg (dCB dMax2 (dCons (dVar 3) (dCons (dOp dSub (dOp dIx (dKey (PySem.Str.ofString "values") (dVar 0)) (dC (.int 0))) (dOp dMul (dVar 6) (dVar 8))) dNil))) (gdName 3))
  (dAsg (dCB dMin2 (dCons (dVar 4) (dCons (dOp dAdd (dOp dIx (dKey (PySem.Str.ofString "values") (dVar 0)) (dC (.int 1))) (dOp dMul (dVar 6) (dVar 7))) dNil))) (gdName 4)))
  dNext)
  (dSeq (dFor (iSeq (dVar 1)) (gdSq 2 (gdCons (gdName 9) (gdCons (gdName 10) gdNil)))
  (dSeq (dIfS (dAnd (dTest (dOp dLe (dVar 9) (dVar 2))) (dTest (dOp dNotN (dVar 5) (dC .non))))
  (dAsg (dCB dMax2 (dCons (dVar 3) (dCons (dOp dAdd (dVar 10) (dOp dMul (dVar 5) (dOp dSub (dVar 2) (dVar 9)))) dNil))) (gdName 3))
  dNext)
  (dSeq (dIfS (dAnd (dTest (dOp dLe (dVar 9) (dVar 2))) (dTest (dOp dNotN (dVar 6) (dC .non))))
  (dAsg (dCB dMin2 (dCons (dVar 4) (dCons (dOp dAdd (dVar 10) (dOp dMul (dVar 6) (dOp dSub (dVar 2) (dVar 9)))) dNil))) (gdName 4))
  dNext)
  (dSeq (dIfS (dAnd (dTest (dOp dGe (dVar 9) (dVar 2))) (dTest (dOp dNotN (dVar 6) (dC .non))))
  (dAsg (dCB dMax2 (dCons (dVar 3) (dCons (dOp dSub (dVar 10) (dOp dMul (dVar 6) (dOp dSub (dVar 9) (dVar 2)))) dNil))) (gdName 3))
  dNext)
  (dSeq (dIfS (dAnd (dTest (dOp dGe (dVar 9) (dVar 2))) (dTest (dOp dNotN (dVar 5) (dC .non))))
  (dAsg (dCB dMin2 (dCons (dVar 4) (dCons (dOp dSub (dVar 10) (dOp dMul (dVar 5) (dOp dSub (dVar 9) (dVar 2)))) dNil))) (gdName 4))
  dNext)
  (dIfS (dTest (dOp dEq (dVar 9) (dVar 2)))
  (dSeq (dAsg (dCB dMax2 (dCons (dVar 3) (dCons (dVar 10) dNil))) (gdName 3))
  (dAsg (dCB dMin2 (dCons (dVar 4) (dCons (dVar 10) dNil))) (gdName 4)))
  dNext))))))
  (dRetE (dTup (dCons (dVar 3) (dCons (dVar 4) dNil))))))))))))
theorem len__law_ends : ∀ as Q E, sd__law_ends as Q E → as.length = 3 := by
  rintro _ _ _ ⟨_, _, _, _, rfl, _⟩
  rfl
theorem pure__law_ends : ∀ as Q E, sd__law_ends as Q E → d__law_ends (dEnds Q E) (startD 11 as) := by
  rintro as Q E ⟨⟨k0, k1, v0, v1, s, f⟩, kd, rows, key, rfl, ok, so, fo, hv, hx, hq⟩
  have bs : ∀ a, s = some a → -(2 ^ 64) < a ∧ a < 2 ^ 64 := fun a e => by
    have := so a e
    omega
  have bf : ∀ a, f = some a → -(2 ^ 64) < a ∧ a < 2 ^ 64 := fun a e => by
    have := fo a e
    omega
  refine ⟨_, at_vals, rfl, rfl, ?_⟩
  refine ⟨_, at_slow, ?_⟩
  refine ⟨_, at_quick, ?_⟩
  refine ⟨_, at_keys, _, at2a, ?_⟩
  refine ⟨_, at_keys, _, at2b, ?_⟩
  refine gdN (nxN ?_)
  have h0 : ∀ v, (v0 ≤ v ∧ v ≤ v1) ↔ (v0 ≤ v ∧ v ≤ v1) := fun v => Iff.rfl
  refine if_cut (fun ρ => ∃ lo hi : Int, ρ = [.dat (fxD ⟨k0, k1, v0, v1, s, f⟩ kd), .dat (.lst (rows.map prD)), .int key, .int lo, .int hi, .dat (oD s), .dat (oD f), .int (key - k0), .int (k1 - key), .emp, .emp] ∧
    ∀ v, (lo ≤ v ∧ v ≤ hi) ↔ (((v0 ≤ v ∧ v ≤ v1) ∧ (∀ a, s = some a → v0 + a * (key - k0) ≤ v)) ∧ ∀ a, s = some a → v ≤ v1 - a * (k1 - key))) ?_ ?_
  rotate_left
  · intro K kk
    cases s with
    | none => exact ⟨rfl, _, rfl, kk _ ⟨_, _, rfl, seg_skip (seg_skip h0 fun v a e => nomatch e) fun v a e => nomatch e⟩⟩
    | some a => exact ⟨rfl, _, rfl, _, at_vals, _, at2a, .inl (bs a rfl), _, at_vals, _, at2b, .inl (bs a rfl), kk _ ⟨_, _, rfl, seg_min (seg_max h0 fun v => ⟨fun z => z a rfl, fun z b e => by cases e; exact z⟩) fun v => ⟨fun z => z a rfl, fun z b e => by cases e; exact z⟩⟩⟩
  rintro ρ ⟨lo, hi, rfl, hI⟩
  refine if_cut (fun ρ => ∃ lo hi : Int, ρ = [.dat (fxD ⟨k0, k1, v0, v1, s, f⟩ kd), .dat (.lst (rows.map prD)), .int key, .int lo, .int hi, .dat (oD s), .dat (oD f), .int (key - k0), .int (k1 - key), .emp, .emp] ∧
    ∀ v, (lo ≤ v ∧ v ≤ hi) ↔ (((((v0 ≤ v ∧ v ≤ v1) ∧ (∀ a, s = some a → v0 + a * (key - k0) ≤ v)) ∧ ∀ a, s = some a → v ≤ v1 - a * (k1 - key)) ∧ ∀ b, f = some b → v0 - b * (k1 - key) ≤ v) ∧ ∀ b, f = some b → v ≤ v1 + b * (key - k0))) ?_ ?_
  rotate_left
  · intro K kk
    cases f with
    | none => exact ⟨rfl, _, rfl, kk _ ⟨_, _, rfl, seg_skip (seg_skip hI fun v a e => nomatch e) fun v a e => nomatch e⟩⟩
    | some b => exact ⟨rfl, _, rfl, _, at_vals, _, at2a, .inl (bf b rfl), _, at_vals, _, at2b, .inl (bf b rfl), kk _ ⟨_, _, rfl, seg_min (seg_max hI fun v => ⟨fun z => z b rfl, fun z b e => by cases e; exact z⟩) fun v => ⟨fun z => z b rfl, fun z b e => by cases e; exact z⟩⟩⟩
  clear hI lo hi
  rintro ρ ⟨lo, hi, rfl, hI0⟩
  have hI : ∀ v, (lo ≤ v ∧ v ≤ hi) ↔ Room ⟨k0, k1, v0, v1, s, f⟩ (key, v) := fun v => by
    rw [hI0 v]
    constructor
    · rintro ⟨⟨⟨⟨r1, r2⟩, r3⟩, r4⟩, r5⟩
      refine ⟨r1, fun a e => ⟨r2 a e, ?_⟩, fun b e => ⟨?_, ?_⟩⟩
      · have := r3 a e
        show v + a * (k1 - key) ≤ v1
        omega
      · have := r5 b e
        show v - b * (key - k0) ≤ v1
        omega
      · have := r4 b e
        show v0 ≤ v + b * (k1 - key)
        omega
    · rintro ⟨r1, r2, r3⟩
      refine ⟨⟨⟨⟨r1, fun a e => (r2 a e).1⟩, fun a e => ?_⟩, fun b e => ?_⟩, fun b e => ?_⟩
      · have y : v + a * (k1 - key) ≤ v1 := (r2 a e).2
        omega
      · have y : v0 ≤ v + b * (k1 - key) := (r3 b e).2
        omega
      · have y : v - b * (key - k0) ≤ v1 := (r3 b e).1
        omega
  refine for_inv (fun i ρ => ∃ (lo hi : Int) (s9 s10 : Sl), ρ = [.dat (fxD ⟨k0, k1, v0, v1, s, f⟩ kd), .dat (.lst (rows.map prD)), .int key, .int lo, .int hi, .dat (oD s), .dat (oD f), .int (key - k0), .int (k1 - key), s9, s10] ∧
    ∀ v, (lo ≤ v ∧ v ≤ hi) ↔ Fits ⟨k0, k1, v0, v1, s, f⟩ (rows.take i) (key, v)) ⟨lo, hi, _, _, rfl, fun v => by rw [hI v]; exact ⟨fun z => ⟨z, fun q m => nomatch m⟩, fun z => z.1⟩⟩ ?_ ?_
  · clear hI hI0 lo hi
    rintro i x ρ hx ⟨lo, hi, s9, s10, rfl, hI⟩
    obtain ⟨p, hp, rfl⟩ := get_map hx
    refine ⟨rfl, rfl, ?_⟩
    refine if_cut (fun ρ => ∃ lo hi : Int, ρ = [.dat (fxD ⟨k0, k1, v0, v1, s, f⟩ kd), .dat (.lst (rows.map prD)), .int key, .int lo, .int hi, .dat (oD s), .dat (oD f), .int (key - k0), .int (k1 - key), .int p.1, .int p.2] ∧
      ∀ v, (lo ≤ v ∧ v ≤ hi) ↔ (Fits ⟨k0, k1, v0, v1, s, f⟩ (rows.take i) (key, v) ∧ (p.1 ≤ key → ∀ a, s = some a → p.2 + a * (key - p.1) ≤ v))) ?_ ?_
    rotate_left
    · intro K kk
      refine iteD (fun h => ?_) (fun h => ?_)
      · have h : p.1 ≤ key := h
        cases s with
        | none => exact ⟨rfl, _, rfl, kk _ ⟨_, _, rfl, seg_skip hI fun v _ a e => nomatch e⟩⟩
        | some a => exact ⟨rfl, _, rfl, .inl (bs a rfl), kk _ ⟨_, _, rfl, seg_max hI fun v => ⟨fun z => z h a rfl, fun z _ b e => by cases e; exact z⟩⟩⟩
      · exact kk _ ⟨_, _, rfl, seg_skip hI fun v c => absurd c h⟩
    clear hI lo hi
    rintro ρ ⟨lo, hi, rfl, hI⟩
    refine if_cut (fun ρ => ∃ lo hi : Int, ρ = [.dat (fxD ⟨k0, k1, v0, v1, s, f⟩ kd), .dat (.lst (rows.map prD)), .int key, .int lo, .int hi, .dat (oD s), .dat (oD f), .int (key - k0), .int (k1 - key), .int p.1, .int p.2] ∧
      ∀ v, (lo ≤ v ∧ v ≤ hi) ↔ ((Fits ⟨k0, k1, v0, v1, s, f⟩ (rows.take i) (key, v) ∧ (p.1 ≤ key → ∀ a, s = some a → p.2 + a * (key - p.1) ≤ v)) ∧ (p.1 ≤ key → ∀ b, f = some b → v ≤ p.2 + b * (key - p.1)))) ?_ ?_
    rotate_left
    · intro K kk
      refine iteD (fun h => ?_) (fun h => ?_)
      · have h : p.1 ≤ key := h
        cases f with
        | none => exact ⟨rfl, _, rfl, kk _ ⟨_, _, rfl, seg_skip hI fun v _ a e => nomatch e⟩⟩
        | some a => exact ⟨rfl, _, rfl, .inl (bf a rfl), kk _ ⟨_, _, rfl, seg_min hI fun v => ⟨fun z => z h a rfl, fun z _ b e => by cases e; exact z⟩⟩⟩
      · exact kk _ ⟨_, _, rfl, seg_skip hI fun v c => absurd c h⟩
    clear hI lo hi
    rintro ρ ⟨lo, hi, rfl, hI⟩
    refine if_cut (fun ρ => ∃ lo hi : Int, ρ = [.dat (fxD ⟨k0, k1, v0, v1, s, f⟩ kd), .dat (.lst (rows.map prD)), .int key, .int lo, .int hi, .dat (oD s), .dat (oD f), .int (key - k0), .int (k1 - key), .int p.1, .int p.2] ∧
      ∀ v, (lo ≤ v ∧ v ≤ hi) ↔ (((Fits ⟨k0, k1, v0, v1, s, f⟩ (rows.take i) (key, v) ∧ (p.1 ≤ key → ∀ a, s = some a → p.2 + a * (key - p.1) ≤ v)) ∧ (p.1 ≤ key → ∀ b, f = some b → v ≤ p.2 + b * (key - p.1))) ∧ (key ≤ p.1 → ∀ b, f = some b → p.2 - b * (p.1 - key) ≤ v))) ?_ ?_
    rotate_left
    · intro K kk
      refine iteD (fun h => ?_) (fun h => ?_)
      · have h : key ≤ p.1 := h
        cases f with
        | none => exact ⟨rfl, _, rfl, kk _ ⟨_, _, rfl, seg_skip hI fun v _ a e => nomatch e⟩⟩
        | some a => exact ⟨rfl, _, rfl, .inl (bf a rfl), kk _ ⟨_, _, rfl, seg_max hI fun v => ⟨fun z => z h a rfl, fun z _ b e => by cases e; exact z⟩⟩⟩
      · exact kk _ ⟨_, _, rfl, seg_skip hI fun v c => absurd c h⟩
    clear hI lo hi
    rintro ρ ⟨lo, hi, rfl, hI⟩
    refine if_cut (fun ρ => ∃ lo hi : Int, ρ = [.dat (fxD ⟨k0, k1, v0, v1, s, f⟩ kd), .dat (.lst (rows.map prD)), .int key, .int lo, .int hi, .dat (oD s), .dat (oD f), .int (key - k0), .int (k1 - key), .int p.1, .int p.2] ∧
      ∀ v, (lo ≤ v ∧ v ≤ hi) ↔ ((((Fits ⟨k0, k1, v0, v1, s, f⟩ (rows.take i) (key, v) ∧ (p.1 ≤ key → ∀ a, s = some a → p.2 + a * (key - p.1) ≤ v)) ∧ (p.1 ≤ key → ∀ b, f = some b → v ≤ p.2 + b * (key - p.1))) ∧ (key ≤ p.1 → ∀ b, f = some b → p.2 - b * (p.1 - key) ≤ v)) ∧ (key ≤ p.1 → ∀ a, s = some a → v ≤ p.2 - a * (p.1 - key)))) ?_ ?_
    rotate_left
    · intro K kk
      refine iteD (fun h => ?_) (fun h => ?_)
      · have h : key ≤ p.1 := h
        cases s with
        | none => exact ⟨rfl, _, rfl, kk _ ⟨_, _, rfl, seg_skip hI fun v _ a e => nomatch e⟩⟩
        | some a => exact ⟨rfl, _, rfl, .inl (bs a rfl), kk _ ⟨_, _, rfl, seg_min hI fun v => ⟨fun z => z h a rfl, fun z _ b e => by cases e; exact z⟩⟩⟩
      · exact kk _ ⟨_, _, rfl, seg_skip hI fun v c => absurd c h⟩
    clear hI lo hi
    rintro ρ ⟨lo, hi, rfl, hI⟩
    have fin : ∀ lo' hi' : Int, (∀ v, (lo' ≤ v ∧ v ≤ hi') ↔ (((((Fits ⟨k0, k1, v0, v1, s, f⟩ (rows.take i) (key, v) ∧ (p.1 ≤ key → ∀ a, s = some a → p.2 + a * (key - p.1) ≤ v)) ∧ (p.1 ≤ key → ∀ b, f = some b → v ≤ p.2 + b * (key - p.1))) ∧ (key ≤ p.1 → ∀ b, f = some b → p.2 - b * (p.1 - key) ≤ v)) ∧ (key ≤ p.1 → ∀ a, s = some a → v ≤ p.2 - a * (p.1 - key))) ∧ (p.1 = key → p.2 ≤ v)) ∧ (p.1 = key → v ≤ p.2)) →
        ∀ v, (lo' ≤ v ∧ v ≤ hi') ↔ Fits ⟨k0, k1, v0, v1, s, f⟩ (rows.take (i + 1)) (key, v) := fun lo' hi' h v => by
      rw [h v, take_next hp]
      constructor
      · rintro ⟨⟨⟨⟨⟨⟨z0, z1⟩, z2⟩, z3⟩, z4⟩, z5⟩, z6⟩
        refine ⟨z0.1, fun q m => ?_⟩
        rcases List.mem_append.mp m with m | m
        · exact z0.2 q m
        · rw [List.mem_singleton.mp m]
          exact near_iff.mp ⟨⟨⟨⟨z1, z2⟩, z3⟩, z4⟩, z5, z6⟩
      · rintro ⟨z0, z⟩
        obtain ⟨⟨⟨⟨z1, z2⟩, z3⟩, z4⟩, z5, z6⟩ := near_iff.mpr (z p (List.mem_append_right _ (List.mem_singleton.mpr rfl)))
        exact ⟨⟨⟨⟨⟨⟨⟨z0, fun q m => z q (List.mem_append_left _ m)⟩, z1⟩, z2⟩, z3⟩, z4⟩, z5⟩, z6⟩
    refine ⟨_, _, rfl, rfl, rfl, rfl, ?_⟩
    refine iteE (fun h => ?_) (fun h => ?_)
    · have h : p.1 = key := h
      exact ⟨_, _, _, _, rfl, fin _ _ (seg_min (seg_max hI fun v => ⟨fun z => z h, fun z _ => z⟩) fun v => ⟨fun z => z h, fun z _ => z⟩)⟩
    · have h : ¬ p.1 = key := h
      exact ⟨_, _, _, _, rfl, fin _ _ (seg_skip (seg_skip hI fun v c => absurd c h) fun v c => absurd c h)⟩
  · clear hI hI0 lo hi
    rintro ρ ⟨lo, hi, s9, s10, rfl, hI⟩
    rw [List.length_map, List.take_length] at hI
    obtain ⟨v, hf⟩ := exists_fit ok hv hx
    have z := (hI v).mpr hf
    exact ⟨by simp, hq lo hi (by omega) hI⟩


theorem vOf_ints : ∀ ns : List Int, vOf (ns.map Dt.int) = some (ns.map V.int)
  | [] => rfl
  | n :: ns => by
    show (vOf (ns.map Dt.int)).map (V.int n :: ·) = _
    rw [vOf_ints ns]
    rfl
theorem flat_ints : ∀ ns : List Int, (ns.map V.int).all flatV = true
  | [] => rfl
  | n :: ns => by
    rw [List.map_cons, List.all_cons, flat_ints ns]
    rfl
theorem inV_ints {i : Int} : ∀ ns : List Int, inV (.int i) (ns.map V.int) = decide (i ∈ ns)
  | [] => by
    symm
    exact decide_eq_false (List.not_mem_nil)
  | n :: ns => by
    show (eqV (.int n) (.int i) || inV (.int i) (ns.map V.int)) = _
    rw [inV_ints ns]
    show ((n == i) || decide (i ∈ ns)) = _
    by_cases e : n = i
    · subst e
      simp
    · have e2 : ¬ i = n := fun z => e z.symm
      simp [e, e2]
def RowsOk (F : Fx) (kd : Kd) (rows : List Pr) : Prop := Valid F rows ∧ (kd = .one → Dist rows)
def Poss (F : Fx) (kd : Kd) (rows : List Pr) (p : Pr) : Prop := Fits F rows p ∧ (kd = .one → ∀ q ∈ rows, q.2 = p.2 → q.1 = p.1)
theorem rows_nil (F : Fx) (kd : Kd) : RowsOk F kd [] := ⟨fun q m => (nomatch m), fun _ q m => nomatch m⟩
theorem rows_add {F : Fx} {kd : Kd} {rows : List Pr} {p : Pr} (h : RowsOk F kd rows) (hi : F.k0 ≤ p.1 ∧ p.1 ≤ F.k1) (hp : Poss F kd rows p) : RowsOk F kd (rows ++ [p]) := by
  have mem : ∀ q ∈ rows ++ [p], q ∈ rows ∨ q = p := fun q m => (List.mem_append.mp m).imp id List.mem_singleton.mp
  refine ⟨valid_add h.1 hi hp.1 mem, fun e q mq r mr => ?_⟩
  rcases mem q mq with m1 | rfl <;> rcases mem r mr with m2 | rfl
  · exact h.2 e q m1 r m2
  · exact hp.2 e q m1
  · intro z
    exact (hp.2 e r m2 z.symm).symm
  · intro _
    rfl
theorem nodup_le : ∀ (xs ys : List Int), xs.Nodup → (∀ x ∈ xs, x ∈ ys) → xs.length ≤ ys.length
  | [], ys, _, _ => Nat.zero_le _
  | x :: t, ys, nd, h => by
    obtain ⟨h1, h2⟩ := List.nodup_cons.mp nd
    have hx := h x List.mem_cons_self
    have := nodup_le t (ys.erase x) h2 fun y m => (List.mem_erase_of_ne (fun e => h1 (by rw [← e]; exact m))).mpr (h y (List.mem_cons_of_mem _ m))
    rw [List.length_erase_of_mem hx] at this
    have : 0 < ys.length := List.length_pos_of_mem hx
    rw [List.length_cons]
    omega
theorem free_val {F : Fx} {rows : List Pr} {key : Int} (hv : Valid F rows) (hd : Dist rows) (hx : F.k0 ≤ key ∧ key ≤ F.k1) (hn : ∀ q ∈ rows, q.1 ≠ key) (ho : F.k1 - F.k0 ≤ F.v1 - F.v0) : ∃ w, (F.v0 ≤ w ∧ w ≤ F.v1) ∧ ∀ q ∈ rows, q.2 ≠ w := by
  refine Classical.byContradiction fun no => ?_
  have all : ∀ w, F.v0 ≤ w ∧ w ≤ F.v1 → ∃ q ∈ rows, q.2 = w := fun w hw => Classical.byContradiction fun h => no ⟨w, hw, fun q m e => h ⟨q, m, e⟩⟩
  let n := (F.k1 - F.k0).toNat
  have hn' : (n : Int) = F.k1 - F.k0 := Int.toNat_of_nonneg (by omega)
  have ex : ∀ i : Nat, i < n + 1 → ∃ x, ∃ q ∈ rows, q.2 = F.v0 + (i : Int) ∧ q.1 = x := fun i hi => by
    obtain ⟨q, m, e⟩ := all (F.v0 + (i : Int)) ⟨by omega, by omega⟩
    exact ⟨q.1, q, m, e, rfl⟩
  let g : Nat → Int := fun i => if h : i < n + 1 then Classical.choose (ex i h) else 0
  have hg : ∀ i, i < n + 1 → ∃ q ∈ rows, q.2 = F.v0 + (i : Int) ∧ q.1 = g i := fun i hi => by
    show ∃ q ∈ rows, q.2 = F.v0 + (i : Int) ∧ q.1 = if h : i < n + 1 then Classical.choose (ex i h) else 0
    rw [dif_pos hi]
    exact Classical.choose_spec (ex i hi)
  have key_eq : ∀ p ∈ rows, ∀ q ∈ rows, p.1 = q.1 → p.2 = q.2 := fun p hp q hq e => ((hv q hq).2.2 p hp).1 e
  have inj : ((List.range (n + 1)).map g).Nodup := by
    refine List.pairwise_map.mpr (List.Pairwise.imp_of_mem (fun {i j} mi mj lt e => ?_) List.pairwise_lt_range)
    obtain ⟨p, mp, e1, e2⟩ := hg i (List.mem_range.mp mi)
    obtain ⟨q, mq, e3, e4⟩ := hg j (List.mem_range.mp mj)
    have := key_eq p mp q mq (by rw [e2, e4]; exact e)
    omega
  have sub : ∀ x ∈ (List.range (n + 1)).map g, x ∈ (List.range n).map fun (i : Nat) => if F.k0 + (i : Int) < key then F.k0 + (i : Int) else F.k0 + (i : Int) + 1 := fun x m => by
    obtain ⟨i, mi, e⟩ := List.mem_map.mp m
    obtain ⟨p, mp, _, e2⟩ := hg i (List.mem_range.mp mi)
    have r := (hv p mp).1
    have ne := hn p mp
    rw [e2, e] at r ne
    by_cases c : x < key
    · refine List.mem_map.mpr ⟨(x - F.k0).toNat, List.mem_range.mpr (by omega), ?_⟩
      have : ((x - F.k0).toNat : Int) = x - F.k0 := Int.toNat_of_nonneg (by omega)
      rw [this, if_pos (by omega)]
      omega
    · refine List.mem_map.mpr ⟨(x - F.k0 - 1).toNat, List.mem_range.mpr (by omega), ?_⟩
      have : ((x - F.k0 - 1).toNat : Int) = x - F.k0 - 1 := Int.toNat_of_nonneg (by omega)
      rw [this, if_neg (by omega)]
      omega
  have := nodup_le _ _ inj sub
  rw [List.length_map, List.length_map, List.length_range, List.length_range] at this
  omega
theorem fits_one {F : Fx} (h : F.s = none ∧ F.f = none) {rows : List Pr} {key w : Int} : Fits F rows (key, w) ↔ (F.v0 ≤ w ∧ w ≤ F.v1) ∧ ∀ q ∈ rows, q.1 = key → q.2 = w := by
  obtain ⟨hs, hf⟩ := h
  constructor
  · rintro ⟨h1, h2⟩
    exact ⟨h1.1, fun q m => (h2 q m).1⟩
  · rintro ⟨h1, h2⟩
    refine ⟨⟨h1, fun a e => ?_, fun a e => ?_⟩, fun q m => ⟨h2 q m, fun _ => ⟨fun a e => ?_, fun a e => ?_⟩, fun _ => ⟨fun a e => ?_, fun a e => ?_⟩⟩⟩
    all_goals first
      | (rw [hs] at e; cases e)
      | (rw [hf] at e; cases e)
def inC (c w x : Int) : Bool := if c ≤ w then decide (c ≤ x ∧ x < w) else decide (c ≤ x ∨ x < w)
def cyc (v0 v1 c : Int) : Int := if c + 1 > v1 then v0 else c + 1
theorem inC_step {v0 v1 c w x : Int} (hc : v0 ≤ c ∧ c ≤ v1) (hw : v0 ≤ w ∧ w ≤ v1) (hx : v0 ≤ x ∧ x ≤ v1) (ne : c ≠ w) (h : inC (cyc v0 v1 c) w x = true) : inC c w x = true ∧ x ≠ c := by
  unfold inC cyc at *
  by_cases a : c + 1 > v1
  · rw [if_pos a] at h
    rw [if_pos hw.1] at h
    have h := of_decide_eq_true h
    rw [if_neg (by omega)]
    exact ⟨decide_eq_true (by omega), by omega⟩
  · rw [if_neg a] at h
    by_cases b : c + 1 ≤ w
    · rw [if_pos b] at h
      have h := of_decide_eq_true h
      rw [if_pos (by omega)]
      exact ⟨decide_eq_true (by omega), by omega⟩
    · rw [if_neg b] at h
      have h := of_decide_eq_true h
      rw [if_neg (by omega)]
      exact ⟨decide_eq_true (by omega), by omega⟩
theorem inC_self {v0 v1 c w : Int} (hc : v0 ≤ c ∧ c ≤ v1) (hw : v0 ≤ w ∧ w ≤ v1) (ne : c ≠ w) : inC c w c = true := by
  unfold inC
  split
  · exact decide_eq_true (by omega)
  · exact decide_eq_true (by omega)
theorem filter_lt {α : Type} {p q : α → Bool} : ∀ {xs : List α} {a : α}, (∀ x ∈ xs, q x = true → p x = true) → a ∈ xs → p a = true → q a = false → (xs.filter q).length + 1 ≤ (xs.filter p).length
  | x :: xs, a, h, m, h1, h2 => by
    have le : ∀ ys : List α, (∀ y ∈ ys, q y = true → p y = true) → (ys.filter q).length ≤ (ys.filter p).length := fun ys => by
      induction ys with
      | nil => intro _; exact Nat.le_refl _
      | cons y t ih =>
        intro hy
        have i := ih fun z mz => hy z (List.mem_cons_of_mem _ mz)
        rw [List.filter_cons, List.filter_cons]
        by_cases c : q y = true
        · rw [if_pos c, if_pos (hy y List.mem_cons_self c), List.length_cons, List.length_cons]
          omega
        · rw [if_neg c]
          split
          · rw [List.length_cons]
            omega
          · exact i
    rw [List.filter_cons, List.filter_cons]
    rcases List.mem_cons.mp m with e | m
    · rw [e] at h1 h2
      rw [if_pos h1, if_neg (by rw [h2]; exact Bool.false_ne_true), List.length_cons]
      have := le xs fun y my => h y (List.mem_cons_of_mem _ my)
      omega
    · have i := filter_lt (xs := xs) (fun y my => h y (List.mem_cons_of_mem _ my)) m h1 h2
      by_cases c : q x = true
      · rw [if_pos c, if_pos (h x List.mem_cons_self c), List.length_cons, List.length_cons]
        omega
      · rw [if_neg c]
        split
        · rw [List.length_cons]
          omega
        · exact i

def sd__law_free : Sd := fun as Q _ => ∃ (F : Fx) (rows : List Pr) (key v : Int), as = [fxD F .one, .lst (rows.map prD), .v (.int key), .v (.int v)] ∧ FOk F .one ∧ RowsOk F .one rows ∧ (F.k0 ≤ key ∧ key ≤ F.k1) ∧ (F.v0 ≤ v ∧ v ≤ F.v1) ∧ rows.length ≤ 1000 ∧
  ∀ w, Poss F .one rows (key, w) → (Poss F .one rows (key, v) → w = v) → Q (.v (.int w))
def d__law_free : DS := (dSeq (dOwn 4 dNil)
  (dSeq (dFor (iSeq (dVar 1)) (gdSq 2 (gdCons (gdName 5) (gdCons (gdName 6) gdNil)))
  (dSeq (dIfS (dTest (dOp dEq (dVar 5) (dVar 2)))
  (dRet (dVar 6))
  dNext)
  (dApp 4 (dVar 6))))
  (dFrz 4 (dSeq (dFor (iR1 (dCons (dCB dLen (dCons (dVar 4) dNil)) dNil)) (gdName 7)
  (dSeq (dIfS (dTest (dOp dIn (dVar 3) (dVar 4)))
  (dAsg (dOp dAdd (dVar 3) (dC (.int 1))) (gdName 3))
  dNext)
  (dIfS (dTest (dOp dGt (dVar 3) (dOp dIx (dKey (PySem.Str.ofString "values") (dVar 0)) (dC (.int 1)))))
  (dAsg (dOp dIx (dKey (PySem.Str.ofString "values") (dVar 0)) (dC (.int 0))) (gdName 3))
  dNext)))
  (dRet (dVar 3))))))
theorem len__law_free : ∀ as Q E, sd__law_free as Q E → as.length = 4 := by
  rintro _ _ _ ⟨_, _, _, _, rfl, _⟩
  rfl
theorem pure__law_free : ∀ as Q E, sd__law_free as Q E → d__law_free (dEnds Q E) (startD 8 as) := by
  rintro as Q E ⟨F, rows, key, v, rfl, hF, ⟨hv, hd⟩, hx, hr, hl, hq⟩
  have hd := hd rfl
  have n0 := hF.np (fun e => nomatch e)
  refine ⟨by simp, ?_⟩
  refine for_inv (fun i ρ => ∃ (L : List Dt) (s5 s6 : Sl), ρ = [.dat (fxD F .one), .dat (.lst (rows.map prD)), .int key, .int v, .own L, s5, s6, .emp] ∧ L = ((rows.take i).map (·.2)).map Dt.int ∧ ∀ q ∈ rows.take i, q.1 ≠ key) ⟨_, _, _, rfl, rfl, fun q m => nomatch m⟩ ?_ ?_
  · rintro i x ρ hx' ⟨_, s5, s6, rfl, rfl, hn⟩
    obtain ⟨p, hp, rfl⟩ := get_map hx'
    have mp := List.mem_of_getElem? hp
    have hi := (List.getElem?_eq_some_iff.mp hp).1
    refine ⟨rfl, rfl, ?_⟩
    refine ⟨_, _, rfl, rfl, rfl, rfl, ?_⟩
    refine iteE (fun h => ?_) (fun h => ?_)
    · have h : p.1 = key := h
      have f := (hv p mp).2
      refine hq p.2 ?_ ?_
      · rw [← h]
        exact ⟨f, fun _ q mq e => hd q mq p mp e⟩
      · intro z
        exact (fits_one n0).mp z.1 |>.2 p mp h
    · have h : ¬ p.1 = key := h
      refine ⟨by simp; omega, _, _, _, rfl, by rw [take_next hp, List.map_append, List.map_append]; rfl, fun q m => ?_⟩
      rw [take_next hp] at m
      rcases List.mem_append.mp m with m | m
      · exact hn q m
      · rw [List.mem_singleton.mp m]
        exact h
  · rintro ρ ⟨_, s5, s6, rfl, rfl, hn⟩
    rw [List.length_map, List.take_length] at hn ⊢
    obtain ⟨w, hw, hfree⟩ := free_val hv hd hx hn (hF.one rfl)
    have ft : ∀ x : Int, (F.v0 ≤ x ∧ x ≤ F.v1) → (∀ q ∈ rows, q.2 ≠ x) → Poss F .one rows (key, x) := fun x h1 h2 => ⟨(fits_one n0).mpr ⟨h1, fun q m e => absurd e (hn q m)⟩, fun _ q m e => absurd e (h2 q m)⟩
    have bk : ∀ x : Int, Poss F .one rows (key, x) → ∀ q ∈ rows, q.2 ≠ x := fun x h q m e => hn q m (h.2 rfl q m e)
    have tin : ∀ x, x ∈ rows.map (·.2) → F.v0 ≤ x ∧ x ≤ F.v1 := fun x m => by
      obtain ⟨q, mq, e⟩ := List.mem_map.mp m
      rw [← e]
      exact (hv q mq).2.1.1
    have wn : w ∉ rows.map (·.2) := fun m => by
      obtain ⟨q, mq, e⟩ := List.mem_map.mp m
      exact hfree q mq e
    refine ⟨by simp only [List.length_map]; omega, by simp only [List.length_map]; omega, ?_⟩
    refine for_rng (fun i ρ => ∃ (c : Int) (s7 : Sl), ρ = [.dat (fxD F .one), .dat (.lst (rows.map prD)), .int key, .int c, .dat (.lst ((rows.map (·.2)).map Dt.int)), s5, s6, s7] ∧ (F.v0 ≤ c ∧ c ≤ F.v1) ∧ (v ∉ rows.map (·.2) → c = v) ∧ (c ∈ rows.map (·.2) → ((rows.map (·.2)).filter (inC c w)).length + i ≤ rows.length)) ⟨v, _, rfl, hr, fun _ => rfl, fun _ => by
      have := List.length_filter_le (inC v w) (rows.map (·.2))
      rw [List.length_map] at this
      omega⟩ ?_ ?_
    · rintro i ρ hi ⟨c, s7, rfl, hc, h1, h2⟩
      refine ⟨_, _, rfl, vOf_ints _, rfl, flat_ints _, ?_⟩
      rw [inV_ints]
      refine iteD (fun m => ?_) (fun m => ?_)
      · have h2 := h2 m
        have ne : c ≠ w := fun e => wn (by rw [← e]; exact m)
        have st : ∀ c', c' = cyc F.v0 F.v1 c → ((c' ∈ rows.map (·.2)) → ((rows.map (·.2)).filter (inC c' w)).length + (i + 1) ≤ rows.length) := fun c' e _ => by
          have := filter_lt (p := inC c w) (q := inC c' w) (xs := rows.map (·.2)) (a := c) (fun x mx hx' => by
            rw [e] at hx'
            exact (inC_step hc hw (tin x mx) ne hx').1) m (inC_self hc hw ne) (by
            cases z : inC c' w c with
            | false => rfl
            | true =>
              rw [e] at z
              exact absurd rfl (inC_step hc hw hc ne z).2)
          omega
        refine ⟨_, at_vals, _, at2b, ?_⟩
        refine iteD (fun h => ?_) (fun h => ?_)
        · have h : F.v1 < c + 1 := h
          refine ⟨_, at_vals, _, at2a, ?_⟩
          have e : F.v0 = cyc F.v0 F.v1 c := by unfold cyc; rw [if_pos (by omega)]
          exact ⟨F.v0, _, rfl, ⟨Int.le_refl _, hF.vals.2.2⟩, fun z => absurd m (by rw [h1 z]; exact z), st _ e⟩
        · have h : ¬ F.v1 < c + 1 := h
          have e : c + 1 = cyc F.v0 F.v1 c := by unfold cyc; rw [if_neg (by omega)]
          exact ⟨c + 1, _, rfl, ⟨by omega, by omega⟩, fun z => absurd m (by rw [h1 z]; exact z), st _ e⟩
      · refine ⟨_, at_vals, _, at2b, ?_⟩
        refine iteD (fun h => ?_) (fun h => ?_)
        · have h : F.v1 < c := h
          omega
        · exact ⟨c, _, rfl, hc, h1, fun z => absurd z m⟩
    · rintro ρ ⟨c, s7, rfl, hc, h1, h2⟩
      have out : c ∉ rows.map (·.2) := fun m => by
        have h2 := h2 m
        have ne : c ≠ w := fun e => wn (by rw [← e]; exact m)
        have z : c ∈ (rows.map (·.2)).filter (inC c w) := List.mem_filter.mpr ⟨m, inC_self hc hw ne⟩
        have := List.length_pos_of_mem z
        simp only [List.length_map, Int.toNat_natCast, Int.sub_zero] at h2
        omega
      refine hq c (ft c hc fun q m e => out (List.mem_map.mpr ⟨q, m, e⟩)) fun z => h1 fun m => ?_
      obtain ⟨q, mq, e⟩ := List.mem_map.mp m
      exact bk v z q mq e
theorem fits_in {F : Fx} {rows : List Pr} {p : Pr} (h : Fits F rows p) : F.v0 ≤ p.2 ∧ p.2 ≤ F.v1 := h.1.1
def sd__law_sampled : Sd := fun as Q _ => ∃ (F : Fx) (kd : Kd) (m : Nat), as = [.drw, fxD F kd, .v (.int (m : Int))] ∧ FOk F kd ∧ m ≤ 100 ∧ ∀ rows, RowsOk F kd rows → rows.length ≤ m → Q (.lst (rows.map prD))
def d__law_sampled : DS := (dSeq (dOwn 3 dNil)
  (dSeq (dFor (iR1 (dCons (dCall sd__law_next [] (dCons (dVar 0) (dCons (dOp dAdd (dVar 2) (dC (.int 1))) dNil))) dNil)) (gdName 4)
  (dSeq (dAsg (dCall sd__law_amount [] (dCons (dVar 0) (dCons (dOp dIx (dKey (PySem.Str.ofString "keys") (dVar 1)) (dC (.int 0))) (dCons (dOp dIx (dKey (PySem.Str.ofString "keys") (dVar 1)) (dC (.int 1))) dNil)))) (gdName 5))
  (dSeq (dAsg (dLend (dCall sd__law_ends [] (dCons (dVar 1) (dCons (dVar 3) (dCons (dVar 5) dNil))))) (gdSq 2 (gdCons (gdName 6) (gdCons (gdName 7) gdNil))))
  (dSeq (dAsg (dCall sd__law_amount [] (dCons (dVar 0) (dCons (dVar 6) (dCons (dVar 7) dNil)))) (gdName 8))
  (dSeq (dIfS (dTest (dOp dEq (dKey (PySem.Str.ofString "kind") (dVar 1)) (dC (.str (PySem.Str.ofString "one")))))
  (dAsg (dLend (dCall sd__law_free [] (dCons (dVar 1) (dCons (dVar 3) (dCons (dVar 5) (dCons (dVar 8) dNil)))))) (gdName 8))
  dNext)
  (dApp 3 (dTup (dCons (dVar 5) (dCons (dVar 8) dNil)))))))))
  (dRet (dVar 3))))
theorem len__law_sampled : ∀ as Q E, sd__law_sampled as Q E → as.length = 3 := by
  rintro _ _ _ ⟨_, _, _, rfl, _⟩
  rfl
theorem pure__law_sampled : ∀ as Q E, sd__law_sampled as Q E → d__law_sampled (dEnds Q E) (startD 9 as) := by
  rintro as Q E ⟨F, kd, m, rfl, hF, hm, hq⟩
  refine ⟨by simp, ?_⟩
  refine ⟨(m : Int) + 1, rfl, by omega, fun n n0 n1 => ?_⟩
  refine ⟨by omega, by omega, ?_⟩
  have en : ((n - 0).toNat : Int) = n := by
    rw [Int.sub_zero]
    exact Int.toNat_of_nonneg n0
  refine for_rng (fun i ρ => ∃ (rows : List Pr) (L : List Dt) (s4 s5 s6 s7 s8 : Sl), ρ = [.dat .drw, .dat (fxD F kd), .int (m : Int), .own L, s4, s5, s6, s7, s8] ∧ L = rows.map prD ∧ RowsOk F kd rows ∧ rows.length ≤ i) ⟨[], _, _, _, _, _, _, rfl, rfl, rows_nil F kd, Nat.le_refl _⟩ ?_ ?_
  · rintro i ρ hi ⟨rows, _, s4, s5, s6, s7, s8, rfl, rfl, hr, hl⟩
    refine ⟨_, at_keys, _, at2a, _, at_keys, _, at2b, ?_⟩
    refine ⟨F.k0, F.k1, rfl, hF.ok.keys, fun key x1 x2 => ?_⟩
    refine ⟨F, kd, rows, key, rfl, hF.ok, hF.so, hF.fo, hr.1, ⟨x1, x2⟩, fun lo hi hlh hI => ?_⟩
    refine ⟨_, rfl, .tup (fun d m => ?_), ?_⟩
    · rcases List.mem_cons.mp m with e | m
      · rw [e]
        exact .v _
      · rw [List.mem_singleton.mp m]
        exact .v _
    refine ⟨rfl, rfl, ?_⟩
    refine ⟨lo, hi, rfl, hlh, fun v v1 v2 => ?_⟩
    have fv := (hI v).mp ⟨v1, v2⟩
    refine gdN (nxN ?_)
    refine if_cut (fun ρ => ∃ (v : Int), ρ = [.dat .drw, .dat (fxD F kd), .int (m : Int), .own (rows.map prD), .dat (.v (.int (0 + (i : Nat)))), .int key, .int lo, .int hi, .int v] ∧ Poss F kd rows (key, v)) ?_ ?_
    rotate_left
    · intro K kk
      cases kd with
      | none =>
        refine ⟨_, at_kind, _, _, rfl, rfl, by decide +kernel, by decide +kernel, ?_⟩
        exact kk _ ⟨v, rfl, fv, fun e => nomatch e⟩
      | pace =>
        refine ⟨_, at_kind, _, _, rfl, rfl, by decide +kernel, by decide +kernel, ?_⟩
        exact kk _ ⟨v, rfl, fv, fun e => nomatch e⟩
      | one =>
        refine ⟨_, at_kind, _, _, rfl, rfl, by decide +kernel, by decide +kernel, ?_⟩
        refine ⟨F, rows, key, v, rfl, hF, hr, ⟨x1, x2⟩, fits_in fv, by omega, fun w hw _ => ?_⟩
        refine ⟨_, rfl, .v _, ?_⟩
        exact kk _ ⟨w, rfl, hw⟩
    rintro ρ ⟨v, rfl, hp⟩
    refine ⟨by simp, by simp; omega, ?_⟩
    exact ⟨rows ++ [(key, v)], _, _, _, _, _, _, rfl, by rw [List.map_append]; rfl, rows_add hr ⟨x1, x2⟩ hp, by simp; omega⟩
  · rintro ρ ⟨rows, _, s4, s5, s6, s7, s8, rfl, rfl, hr, hl⟩
    exact hq rows hr (by omega)



def outB : Option Int → Bool
  | none => false
  | some i => decide (i < -(10 ^ 18)) || decide (10 ^ 18 < i)
def crossB : Option Int → Option Int → Bool
  | some x, some y => decide (y < x)
  | _, _ => false
def badB (a b : Option Int) : Bool := outB a || outB b || crossB a b
theorem bOr {p q : Prop} [Decidable p] [Decidable q] {Q : Bool → Prop} (h : Q (decide p || decide q)) : if decide p = true then Q true else Q (decide q) := by
  by_cases c : p
  · rw [if_pos (decide_eq_true c)]
    rw [decide_eq_true c] at h
    exact h
  · rw [if_neg (by simp [c])]
    rw [decide_eq_false c] at h
    exact h
def sd_outside : Sd := fun as Q _ => ∃ o, as = [oD o] ∧ Q (.v (.bl (outB o)))
def d_outside : DS := (dRetE (dAndV (dOp dNotN (dVar 0) (dC .non)) (dOrV (dOp dLt (dVar 0) (dUn dNeg (dC (.int 1000000000000000000)))) (dOp dGt (dVar 0) (dC (.int 1000000000000000000))))))
theorem len_outside : ∀ as Q E, sd_outside as Q E → as.length = 1 := by
  rintro _ _ _ ⟨_, rfl, _⟩
  rfl
theorem pure_outside : ∀ as Q E, sd_outside as Q E → d_outside (dEnds Q E) (startD 1 as) := by
  rintro as Q E ⟨o, rfl, hq⟩
  cases o with
  | none => exact ⟨rfl, _, rfl, hq⟩
  | some i => exact ⟨rfl, _, rfl, bOr (Q := fun b => Q (.v (.bl b))) hq⟩
def paceD (kl : Kl) (a b : Option Int) : Dt := .obj kl.Pace [("slowest", oD a), ("fastest", oD b)]
def badPc (kl : Kl) (a b : Option Int) : Xn := ⟨kl.BadPace, [("fastest", oD b), ("slowest", oD a)]⟩
def sd_Pace___init__ (kl : Kl) : Sd := fun as Q E => ∃ a b, as = [oD a, oD b] ∧ (badB a b = true → E (badPc kl a b)) ∧ (badB a b = false → Q (paceD kl a b))
def d_Pace___init__ (kl : Kl) : DS := (dSeq (dIfS (dOr (dTru (dCall sd_outside [] (dCons (dVar 1) dNil))) (dTru (dCall sd_outside [] (dCons (dVar 2) dNil))))
  (dRaise kl.BadPace ["slowest", "fastest"] (dCons (dVar 1) (dCons (dVar 2) dNil)))
  dNext)
  (dSeq (dIfS (dAnd (dTest (dOp dNotN (dVar 1) (dC .non))) (dAnd (dTest (dOp dNotN (dVar 2) (dC .non))) (dTest (dOp dGt (dVar 1) (dVar 2)))))
  (dRaise kl.BadPace ["slowest", "fastest"] (dCons (dVar 1) (dCons (dVar 2) dNil)))
  dNext)
  (dSeq (dFld [kl.Pace] 0 "slowest" (dVar 1))
  (dFld [kl.Pace] 0 "fastest" (dVar 2)))))
theorem pure_Pace___init__ (kl : Kl) : ∀ p as Q E, sd_Pace___init__ kl as Q E → d_Pace___init__ kl (dEndsI p kl.Pace Q E) (startI p kl.Pace 3 as) := by
  rintro p as Q E ⟨a, b, rfl, he, hq⟩
  refine ⟨a, rfl, ?_⟩
  cases ha : outB a with
  | true => exact ⟨rfl, he (by unfold badB; rw [ha]; rfl)⟩
  | false =>
    refine ⟨b, rfl, ?_⟩
    cases hb : outB b with
    | true => exact ⟨rfl, he (by unfold badB; rw [ha, hb]; rfl)⟩
    | false =>
      have fin : crossB a b = false → Q (paceD kl a b) := fun h => hq (by unfold badB; rw [ha, hb, h]; rfl)
      have bad : crossB a b = true → E (badPc kl a b) := fun h => he (by unfold badB; rw [ha, hb, h]; rfl)
      cases a with
      | none => exact ⟨rfl, _, rfl, _, _, _, rfl, by simp, by simp [putD], _, _, _, rfl, by simp, by simp [putD], _, rfl, fin rfl⟩
      | some x =>
        cases b with
        | none => exact ⟨rfl, _, rfl, rfl, _, rfl, _, _, _, rfl, by simp, by simp [putD], _, _, _, rfl, by simp, by simp [putD], _, rfl, fin rfl⟩
        | some y =>
          refine ⟨rfl, _, rfl, rfl, _, rfl, ?_⟩
          refine iteD (fun h => ?_) (fun h => ?_)
          · exact ⟨rfl, bad (decide_eq_true h)⟩
          · exact ⟨_, _, _, rfl, by simp, by simp [putD], _, _, _, rfl, by simp, by simp [putD], _, rfl, fin (decide_eq_false h)⟩
theorem outB_no {o : Option Int} (h : ∀ a, o = some a → -(10 ^ 18) ≤ a ∧ a ≤ 10 ^ 18) : outB o = false := by
  cases o with
  | none => rfl
  | some i =>
    have := h i rfl
    show (decide (i < -(10 ^ 18)) || decide (10 ^ 18 < i)) = false
    rw [decide_eq_false (by omega), decide_eq_false (by omega)]
    rfl
theorem bad_no {s f : Option Int} (h1 : ∀ a, s = some a → -(10 ^ 18) ≤ a ∧ a ≤ 10 ^ 18) (h2 : ∀ a, f = some a → -(10 ^ 18) ≤ a ∧ a ≤ 10 ^ 18) (h3 : ∀ a b, s = some a → f = some b → a ≤ b) : badB s f = false := by
  unfold badB
  rw [outB_no h1, outB_no h2]
  cases s with
  | none => rfl
  | some x =>
    cases f with
    | none => rfl
    | some y => exact decide_eq_false (by have := h3 x y rfl rfl; omega)

def proOf (F : Fx) : Kd → Pro
  | .none => .none
  | .one => .one
  | .pace => .pace F.s F.f
def IRow (F : Fx) (kd : Kd) (rows : List Pr) (i : Nat) (k : Kn) : Prop := ∃ ts, k = ⟨F.k0, F.k1, F.v0, F.v1, proOf F kd, ts⟩ ∧ ts.length ≤ i ∧ ∀ p, p ∈ ts ↔ p ∈ rows.take i
structure KnOf (F : Fx) (kd : Kd) (rows : List Pr) (k : Kn) : Prop where
  ok : k.Ok
  pok : PrOk k.pr
  f0 : k.first = F.k0
  f1 : k.last = F.k1
  l0 : k.least = F.v0
  l1 : k.greatest = F.v1
  pr : k.pr = proOf F kd
  mem : ∀ p, p ∈ k.ts ↔ p ∈ rows
theorem same_val {F : Fx} {rows : List Pr} (h : Valid F rows) {p q : Pr} (hp : p ∈ rows) (hq : q ∈ rows) (e : p.1 = q.1) : p.2 = q.2 := ((h q hq).2.2 p hp).1 e
theorem proOf_F {F : Fx} {kd : Kd} (hF : FOk F kd) (ts : List Pr) : Kn.F ⟨F.k0, F.k1, F.v0, F.v1, proOf F kd, ts⟩ = F := by
  obtain ⟨a, b, c, d, s, f⟩ := F
  cases kd with
  | pace => rfl
  | none =>
    obtain ⟨e1, e2⟩ := hF.np (fun e => nomatch e)
    show (⟨a, b, c, d, none, none⟩ : Fx) = ⟨a, b, c, d, s, f⟩
    have e1 : s = none := e1
    have e2 : f = none := e2
    rw [e1, e2]
  | one =>
    obtain ⟨e1, e2⟩ := hF.np (fun e => nomatch e)
    show (⟨a, b, c, d, none, none⟩ : Fx) = ⟨a, b, c, d, s, f⟩
    have e1 : s = none := e1
    have e2 : f = none := e2
    rw [e1, e2]
theorem fits_mem {F : Fx} {ts rows : List Pr} (h : ∀ p, p ∈ ts ↔ p ∈ rows) {p : Pr} : Fits F ts p ↔ Fits F rows p := ⟨fun z => ⟨z.1, fun q m => z.2 q ((h q).mpr m)⟩, fun z => ⟨z.1, fun q m => z.2 q ((h q).mp m)⟩⟩
theorem lot_poss {F : Fx} {kd : Kd} {rows : List Pr} {ts : List Pr} (hF : FOk F kd) (hr : RowsOk F kd rows) (ha : Asc ts) (hm : ∀ p, p ∈ ts ↔ p ∈ rows) {key v : Int} : Lot ⟨F.k0, F.k1, F.v0, F.v1, proOf F kd, ts⟩ key v ↔ Poss F kd rows (key, v) := by
  have plain : kd ≠ .pace → toldK ts key = none → ((F.v0 ≤ v ∧ v ≤ F.v1) ↔ Fits F rows (key, v)) := fun e ht => by
    rw [fits_one (hF.np e)]
    exact ⟨fun z => ⟨z, fun q m c => absurd c (toldK_none ht q ((hm q).mpr m))⟩, fun z => z.1⟩
  cases e : toldK ts key with
  | some w =>
    have mw : (key, w) ∈ rows := (hm _).mp (toldK_mem e)
    rw [lot_some (k := ⟨F.k0, F.k1, F.v0, F.v1, proOf F kd, ts⟩) e]
    constructor
    · rintro rfl
      exact ⟨(hr.1 _ mw).2, fun k q mq e2 => hr.2 k q mq _ mw e2⟩
    · rintro ⟨h, _⟩
      exact ((h.2 _ mw).1 rfl).symm
  | none =>
    rw [lot_none (k := ⟨F.k0, F.k1, F.v0, F.v1, proOf F kd, ts⟩) e]
    unfold Free
    cases kd with
    | none =>
      show F.v0 ≤ v ∧ v ≤ F.v1 ↔ _
      rw [plain (fun e => nomatch e) e]
      exact ⟨fun z => ⟨z, fun e => nomatch e⟩, fun z => z.1⟩
    | one =>
      show ((F.v0 ≤ v ∧ v ≤ F.v1) ∧ ∀ p ∈ ts, p.2 ≠ v) ↔ _
      rw [plain (fun e => nomatch e) e]
      constructor
      · rintro ⟨z, y⟩
        exact ⟨z, fun _ q mq c => absurd c (y q ((hm q).mpr mq))⟩
      · rintro ⟨z, y⟩
        exact ⟨z, fun q mq c => toldK_none e q mq (y rfl q ((hm q).mp mq) c)⟩
    | pace =>
      have eF := proOf_F hF ts
      show Fits (Kn.F ⟨F.k0, F.k1, F.v0, F.v1, .pace F.s F.f, ts⟩) ts (key, v) ↔ _
      have eF : Kn.F ⟨F.k0, F.k1, F.v0, F.v1, .pace F.s F.f, ts⟩ = F := eF
      rw [eF, fits_mem hm]
      exact ⟨fun z => ⟨z, fun e => nomatch e⟩, fun z => z.1⟩
theorem KnOf.lot {F : Fx} {kd : Kd} {rows : List Pr} {k : Kn} (h : KnOf F kd rows k) (hF : FOk F kd) (hr : RowsOk F kd rows) {key v : Int} : Lot k key v ↔ Poss F kd rows (key, v) := by
  obtain ⟨a, b, c, d, pr, ts⟩ := k
  have h1 := h.ok
  have h7 := h.mem
  have h6 : pr = proOf F kd := h.pr
  subst h6
  have e1 : a = F.k0 := h.f0
  have e2 : b = F.k1 := h.f1
  have e3 : c = F.v0 := h.l0
  have e4 : d = F.v1 := h.l1
  subst e1 e2 e3 e4
  exact lot_poss hF hr h1.asc h7
theorem rows_take {F : Fx} {kd : Kd} {rows : List Pr} (h : RowsOk F kd rows) (i : Nat) : RowsOk F kd (rows.take i) := by
  have sub : ∀ p, p ∈ rows.take i → p ∈ rows := fun p m => List.mem_of_mem_take m
  exact ⟨fun p m => ⟨(h.1 p (sub p m)).1, (h.1 p (sub p m)).2.1, fun q mq => (h.1 p (sub p m)).2.2 q (sub q mq)⟩, fun e p mp q mq => h.2 e p (sub p mp) q (sub q mq)⟩
theorem poss_of {F : Fx} {kd : Kd} {rows : List Pr} (h : RowsOk F kd rows) {i : Nat} {p : Pr} (m : p ∈ rows) : Poss F kd (rows.take i) p :=
  ⟨⟨(h.1 p m).2.1, fun q mq => (h.1 p m).2.2 q (List.mem_of_mem_take mq)⟩, fun e q mq => h.2 e q (List.mem_of_mem_take mq) p m⟩
theorem irow_step {F : Fx} {kd : Kd} {rows : List Pr} {i : Nat} {p : Pr} {k k' : Kn} (hr : RowsOk F kd rows) (hp : rows[i]? = some p) (hI : IRow F kd rows i k) (st : Step k p k') : IRow F kd rows (i + 1) k' := by
  obtain ⟨ts, rfl, tl, tm⟩ := hI
  have mp := List.mem_of_getElem? hp
  rcases st with ⟨h, e⟩ | ⟨h, ts', _, hpm, e⟩
  · subst e
    have h : toldK ts p.1 ≠ none := h
    refine ⟨ts, rfl, by omega, fun q => ?_⟩
    rw [take_next hp, List.mem_append, List.mem_singleton, ← tm]
    constructor
    · exact .inl
    · rintro (m | rfl)
      · exact m
      · cases e : toldK ts q.1 with
        | none => exact absurd e h
        | some w =>
          have m := toldK_mem e
          have := same_val hr.1 (List.mem_of_mem_take ((tm _).mp m)) mp rfl
          have this : w = q.2 := this
          rw [this] at m
          exact m
  · subst e
    refine ⟨ts', rfl, ?_, fun q => ?_⟩
    · have := hpm.length_eq
      have this : ts'.length = (ts ++ [p]).length := this
      rw [this, List.length_append, List.length_singleton]
      omega
    · have z := hpm.mem_iff (a := q)
      have z : q ∈ ts' ↔ q ∈ ts ++ [p] := z
      rw [z, take_next hp, List.mem_append, List.mem_append, tm]
theorem KnOf.same {F : Fx} {kd : Kd} {rows rows' : List Pr} {k : Kn} (h : KnOf F kd rows k) (e : ∀ p, p ∈ rows ↔ p ∈ rows') : KnOf F kd rows' k := ⟨h.ok, h.pok, h.f0, h.f1, h.l0, h.l1, h.pr, fun p => (h.mem p).trans (e p)⟩
theorem RowsOk.same {F : Fx} {kd : Kd} {rows rows' : List Pr} (h : RowsOk F kd rows) (e : ∀ p, p ∈ rows' → p ∈ rows) : RowsOk F kd rows' := ⟨fun p m => ⟨(h.1 p (e p m)).1, (h.1 p (e p m)).2.1, fun q mq => (h.1 p (e p m)).2.2 q (e q mq)⟩, fun c p mp q mq => h.2 c p (e p mp) q (e q mq)⟩
theorem okPs (n : Nat) (ps : List Pr) : (ps.map prD).all (okD (n + 1)) = true := by
  rw [List.all_map, List.all_eq_true]
  intro p _
  show okD (n + 1) (prD p) = true
  cases n <;> simp [okD]
theorem okL2 (ps : List Pr) : okD 60 (.lst (ps.map prD)) = true := okPs 58 ps
def sd__law_possible_value : Sd := fun as Q _ => ∃ (F : Fx) (kd : Kd) (rows : List Pr) (key v : Int), as = [fxD F kd, .lst (rows.map prD), .v (.int key), .v (.int v)] ∧ FOk F kd ∧ RowsOk F kd rows ∧ (F.k0 ≤ key ∧ key ≤ F.k1) ∧ rows.length ≤ 1000 ∧ ∀ b : Bool, (b = true ↔ Poss F kd rows (key, v)) → Q (.v (.bl b))
def d__law_possible_value : DS := (dSeq (dAsg (dCall sd__law_ends [] (dCons (dVar 0) (dCons (dVar 1) (dCons (dVar 2) dNil)))) (gdSq 2 (gdCons (gdName 4) (gdCons (gdName 5) gdNil))))
  (dSeq (dIfS (dOr (dTest (dOp dLt (dVar 3) (dVar 4))) (dTest (dOp dGt (dVar 3) (dVar 5))))
  (dRetE (dC (.bl false)))
  dNext)
  (dRetE (dOrV (dOp dNe (dKey (PySem.Str.ofString "kind") (dVar 0)) (dC (.str (PySem.Str.ofString "one")))) (dOp dEq (dCall sd__law_free [] (dCons (dVar 0) (dCons (dVar 1) (dCons (dVar 2) (dCons (dVar 3) dNil))))) (dVar 3))))))
theorem len__law_possible_value : ∀ as Q E, sd__law_possible_value as Q E → as.length = 4 := by
  rintro _ _ _ ⟨_, _, _, _, _, rfl, _⟩
  rfl
theorem pure__law_possible_value : ∀ as Q E, sd__law_possible_value as Q E → d__law_possible_value (dEnds Q E) (startD 6 as) := by
  rintro as Q E ⟨F, kd, rows, key, v, rfl, hF, hr, hk, hl, hq⟩
  refine ⟨F, kd, rows, key, rfl, hF.ok, hF.so, hF.fo, hr.1, hk, fun lo hi lh hI => ?_⟩
  refine ⟨rfl, rfl, ?_⟩
  refine iteD (fun h => ?_) (fun h1 => ?_)
  · have h : v < lo := h
    exact hq false ⟨fun e => (nomatch e), fun z => by have := (hI v).mpr z.1; omega⟩
  refine iteD (fun h => ?_) (fun h2 => ?_)
  · have h : hi < v := h
    exact hq false ⟨fun e => (nomatch e), fun z => by have := (hI v).mpr z.1; omega⟩
  have h1 : ¬ v < lo := h1
  have h2 : ¬ hi < v := h2
  have fv := (hI v).mp ⟨by omega, by omega⟩
  cases kd with
  | none =>
    refine ⟨_, at_kind, _, _, rfl, rfl, by decide +kernel, by decide +kernel, ?_⟩
    exact hq true ⟨fun _ => ⟨fv, fun e => nomatch e⟩, fun _ => rfl⟩
  | pace =>
    refine ⟨_, at_kind, _, _, rfl, rfl, by decide +kernel, by decide +kernel, ?_⟩
    exact hq true ⟨fun _ => ⟨fv, fun e => nomatch e⟩, fun _ => rfl⟩
  | one =>
    refine ⟨_, at_kind, _, _, rfl, rfl, by decide +kernel, by decide +kernel, ?_⟩
    refine ⟨F, rows, key, v, rfl, hF, hr, hk, fits_in fv, hl, fun w hw hu => ?_⟩
    refine ⟨_, _, rfl, rfl, rfl, rfl, ?_⟩
    refine hq _ ?_
    rw [eqv_ii, decide_eq_true_iff]
    exact ⟨fun e => by rw [← e]; exact hw, fun z => hu z⟩


structure Soft (F : Fx) (kd : Kd) : Prop where
  so : smO F.s
  fo : smO F.f
  ord : ∀ a b, F.s = some a → F.f = some b → a ≤ b
  np : kd ≠ .pace → F.s = none ∧ F.f = none
def kn0 (F : Fx) (kd : Kd) : Kn := ⟨F.k0, F.k1, F.v0, F.v1, proOf F kd, []⟩
theorem soft_of {F : Fx} {kd : Kd} (h : FOk F kd) : Soft F kd := ⟨h.so, h.fo, h.ok.ord, h.np⟩
theorem fok_of {F : Fx} {kd : Kd} (h : Soft F kd) (h1 : okEnds F.k0 F.k1) (h2 : okEnds F.v0 F.v1) (hx : Exi (kn0 F kd)) : FOk F kd := by
  have hs : (∀ a, F.s = some a → a * (F.k1 - F.k0) ≤ F.v1 - F.v0) ∧ ∀ b, F.f = some b → -(b * (F.k1 - F.k0)) ≤ F.v1 - F.v0 := by
    cases kd with
    | pace => exact hx
    | none =>
      obtain ⟨e1, e2⟩ := h.np (fun e => nomatch e)
      rw [e1, e2]
      exact ⟨fun _ e => (nomatch e), fun _ e => (nomatch e)⟩
    | one =>
      obtain ⟨e1, e2⟩ := h.np (fun e => nomatch e)
      rw [e1, e2]
      exact ⟨fun _ e => (nomatch e), fun _ e => (nomatch e)⟩
  exact ⟨h1, h2, ⟨h1.2.2, h2.2.2, h.ord, hs.1, hs.2⟩, h.so, h.fo, h.np, fun e => by subst e; exact hx⟩
theorem exi_fok {F : Fx} {kd : Kd} (h : FOk F kd) : Exi (kn0 F kd) := by
  cases kd with
  | none => trivial
  | one => exact h.one rfl
  | pace => exact ⟨h.ok.slow, h.ok.fast⟩
theorem soft_pr {F : Fx} {kd : Kd} (h : Soft F kd) : PrOk (proOf F kd) := by
  cases kd with
  | none => trivial
  | one => trivial
  | pace => exact ⟨h.so, h.fo, h.ord⟩
def sd__law_promise (kl : Kl) : Sd := fun as Q _ => ∃ (F : Fx) (kd : Kd), as = [fxD F kd] ∧ Soft F kd ∧ Q ((proOf F kd).obj kl)
def d__law_promise (kl : Kl) : DS := (dSeq (dIfS (dTest (dOp dEq (dKey (PySem.Str.ofString "kind") (dVar 0)) (dC (.str (PySem.Str.ofString "pace")))))
  (dRetE (dMake (sd_Pace___init__ kl) (dCons (dKey (PySem.Str.ofString "slow") (dVar 0)) (dCons (dKey (PySem.Str.ofString "quick") (dVar 0)) dNil))))
  dNext)
  (dSeq (dIfS (dTest (dOp dEq (dKey (PySem.Str.ofString "kind") (dVar 0)) (dC (.str (PySem.Str.ofString "one")))))
  (dRetE (dBare kl.OneToOne))
  dNext)
  (dRetE (dBare kl.Promise))))
theorem len__law_promise (kl : Kl) : ∀ as Q E, sd__law_promise kl as Q E → as.length = 1 := by
  rintro _ _ _ ⟨_, _, rfl, _⟩
  rfl
theorem pure__law_promise (kl : Kl) : ∀ as Q E, sd__law_promise kl as Q E → d__law_promise kl (dEnds Q E) (startD 1 as) := by
  rintro as Q E ⟨F, kd, rfl, hF, hq⟩
  cases kd with
  | none =>
    refine ⟨_, at_kind, _, _, rfl, rfl, by decide +kernel, by decide +kernel, ?_⟩
    refine ⟨_, at_kind, _, _, rfl, rfl, by decide +kernel, by decide +kernel, ?_⟩
    exact hq
  | one =>
    refine ⟨_, at_kind, _, _, rfl, rfl, by decide +kernel, by decide +kernel, ?_⟩
    refine ⟨_, at_kind, _, _, rfl, rfl, by decide +kernel, by decide +kernel, ?_⟩
    exact hq
  | pace =>
    refine ⟨_, at_kind, _, _, rfl, rfl, by decide +kernel, by decide +kernel, ?_⟩
    have nb := bad_no hF.so hF.fo hF.ord
    exact ⟨_, at_slow, _, at_quick, F.s, F.f, rfl, fun h => (by rw [nb] at h; cases h), fun _ => hq⟩
def toldE (x : Str) (ds : List Dt) : Dt := .lst (.v (.str x) :: ds)
def DueF (F : Fx) (kd : Kd) : List Pr → List Pr → Dt → Prop
  | _, [], d => d = toldE "made" []
  | pre, p :: r, d => (¬ (F.k0 ≤ p.1 ∧ p.1 ≤ F.k1) ∧ d = toldE "key" [.v (.int p.1), .v (.bl true)]) ∨ ((F.k0 ≤ p.1 ∧ p.1 ≤ F.k1) ∧ ¬ Poss F kd pre p ∧ d = toldE "value" [.v (.int p.1), .v (.int p.2), .v (.bl true)]) ∨ ((F.k0 ≤ p.1 ∧ p.1 ≤ F.k1) ∧ Poss F kd pre p ∧ DueF F kd (pre ++ [p]) r d)
theorem dueF_uniq {F : Fx} {kd : Kd} {d e : Dt} : ∀ {r pre : List Pr}, DueF F kd pre r d → DueF F kd pre r e → d = e
  | [], _, h1, h2 => by rw [show d = _ from h1, show e = _ from h2]
  | p :: r, pre, h1, h2 => by
    rcases h1 with ⟨a1, b1⟩ | ⟨a1, b1, c1⟩ | ⟨a1, b1, c1⟩ <;> rcases h2 with ⟨a2, b2⟩ | ⟨a2, b2, c2⟩ | ⟨a2, b2, c2⟩
    · rw [b1, b2]
    · exact absurd a2 a1
    · exact absurd a2 a1
    · exact absurd a1 a2
    · rw [c1, c2]
    · exact absurd b2 b1
    · exact absurd a1 a2
    · exact absurd b1 b2
    · exact dueF_uniq c1 c2
def DueA (F : Fx) (kd : Kd) (rows : List Pr) (d : Dt) : Prop :=
  (¬ okEnds F.k0 F.k1 ∧ d = toldE "stretch" [.v (.int F.k0), .v (.int F.k1), .v (.bl true)]) ∨ (okEnds F.k0 F.k1 ∧ ¬ okEnds F.v0 F.v1 ∧ d = toldE "stretch" [.v (.int F.v0), .v (.int F.v1), .v (.bl true)]) ∨
  (okEnds F.k0 F.k1 ∧ okEnds F.v0 F.v1 ∧ ¬ Exi (kn0 F kd) ∧ d = toldE "contradiction" [.v (.bl true)]) ∨ (okEnds F.k0 F.k1 ∧ okEnds F.v0 F.v1 ∧ Exi (kn0 F kd) ∧ DueF F kd [] rows d)
theorem dueA_uniq {F : Fx} {kd : Kd} {rows : List Pr} {d e : Dt} (h1 : DueA F kd rows d) (h2 : DueA F kd rows e) : d = e := by
  rcases h1 with ⟨a1, b1⟩ | ⟨a1, b1, c1⟩ | ⟨a1, b1, c1, d1⟩ | ⟨a1, b1, c1, d1⟩ <;> rcases h2 with ⟨a2, b2⟩ | ⟨a2, b2, c2⟩ | ⟨a2, b2, c2, d2⟩ | ⟨a2, b2, c2, d2⟩
  · rw [b1, b2]
  · exact absurd a2 a1
  · exact absurd a2 a1
  · exact absurd a2 a1
  · exact absurd a1 a2
  · rw [c1, c2]
  · exact absurd b2 b1
  · exact absurd b2 b1
  · exact absurd a1 a2
  · exact absurd b1 b2
  · rw [d1, d2]
  · exact absurd c2 c1
  · exact absurd a1 a2
  · exact absurd b1 b2
  · exact absurd c1 c2
  · exact dueF_uniq d1 d2
theorem okTold (x : Str) (h : okD 59 (.v (.str x)) = true) (ds : List Dt) (hd : ds.all (okD 59) = true) : okD 60 (toldE x ds) = true := by
  show ((Dt.v (.str x)) :: ds).all (okD 59) = true
  rw [List.all_cons, h, hd]
  rfl
theorem dueF_ok {F : Fx} {kd : Kd} {d : Dt} : ∀ {r pre : List Pr}, DueF F kd pre r d → okD 60 d = true
  | [], _, h => by rw [show d = _ from h]; exact okTold _ (by decide +kernel) _ rfl
  | p :: r, pre, h => by
    rcases h with ⟨_, h⟩ | ⟨_, _, h⟩ | ⟨_, _, h⟩
    · rw [h]; exact okTold _ (by decide +kernel) _ rfl
    · rw [h]; exact okTold _ (by decide +kernel) _ rfl
    · exact dueF_ok h
theorem dueA_ok {F : Fx} {kd : Kd} {rows : List Pr} {d : Dt} (h : DueA F kd rows d) : okD 60 d = true := by
  rcases h with ⟨_, h⟩ | ⟨_, _, h⟩ | ⟨_, _, _, h⟩ | ⟨_, _, _, h⟩
  · rw [h]; exact okTold _ (by decide +kernel) _ rfl
  · rw [h]; exact okTold _ (by decide +kernel) _ rfl
  · rw [h]; exact okTold _ (by decide +kernel) _ rfl
  · exact dueF_ok h
theorem dueF_made {F : Fx} {kd : Kd} {d : Dt} : ∀ {r pre : List Pr}, RowsOk F kd (pre ++ r) → DueF F kd pre r d → d = toldE "made" []
  | [], _, _, h => h
  | p :: r, pre, hr, h => by
    have mp : p ∈ pre ++ p :: r := by simp
    have ps : Poss F kd pre p := by
      have := poss_of hr (i := pre.length) mp
      rwa [List.take_left'] at this
      rfl
    rcases h with ⟨a, _⟩ | ⟨_, a, _⟩ | ⟨_, _, h⟩
    · exact absurd (hr.1 p mp).1 a
    · exact absurd ps a
    · exact dueF_made (by rw [List.append_assoc]; exact hr) h
theorem dueA_made {F : Fx} {kd : Kd} {rows : List Pr} {d : Dt} (hF : FOk F kd) (hr : RowsOk F kd rows) (h : DueA F kd rows d) : d = toldE "made" [] := by
  rcases h with ⟨a, _⟩ | ⟨_, a, _⟩ | ⟨_, _, a, _⟩ | ⟨_, _, _, h⟩
  · exact absurd hF.keys a
  · exact absurd hF.vals a
  · exact absurd (exi_fok hF) a
  · exact dueF_made hr h
theorem drop_at20 {rows : List Pr} {i : Nat} {p : Pr} (hp : rows[i]? = some p) : rows.drop i = p :: rows.drop (i + 1) := by
  rw [List.drop_eq_getElem_cons (List.getElem?_eq_some_iff.mp hp).1, (List.getElem?_eq_some_iff.mp hp).2]
def sd__law_tried (kl : Kl) : Sd := fun as Q _ => ∃ (F : Fx) (kd : Kd) (rows : List Pr), as = [fxD F kd, .lst (rows.map prD)] ∧ Soft F kd ∧ rows.length ≤ 30 ∧ ∀ d, DueA F kd rows d → Q d
def d__law_tried (kl : Kl) : DS := (dSeq (dAsg (dKey (PySem.Str.ofString "keys") (dVar 0)) (gdName 2))
  (dSeq (dAsg (dKey (PySem.Str.ofString "values") (dVar 0)) (gdName 3))
  (dSeq (dAsg (dCall (sd__law_promise kl) [] (dCons (dVar 0) dNil)) (gdName 4))
  (dSeq (dAsg (dLst dNil) (gdName 5))
  (dSeq (dTry (dSeq (dDrop (dMake (sd_Known___init__ kl) (dKwN (dCons (dOp dIx (dVar 2) (dC (.int 0))) (dCons (dOp dIx (dVar 2) (dC (.int 1))) dNil)) (dCons (dVar 4) (dCons (dOp dIx (dVar 3) (dC (.int 0))) (dCons (dOp dIx (dVar 3) (dC (.int 1))) (dCons (dVar 1) dNil)))) 2 (["promise", "least", "greatest", "samples"] : List Str).length (fun vs zs => vs ++ ((zs.drop 0).take 1 ++ ((zs.drop 1).take 1 ++ ((zs.drop 2).take 1 ++ ((zs.drop 3).take 1 ++ []))))))))
  (dAsg (dLst (dCons (dC (.str (PySem.Str.ofString "made"))) dNil)) (gdName 5)))
  ((exm_BadStretch kl, some 6, (fun a cls d => (dAsg (dLst (dCons (dC (.str (PySem.Str.ofString "stretch"))) (dCons (dXf a cls d kl.BadStretch "low" (dVar 6)) (dCons (dXf a cls d kl.BadStretch "high" (dVar 6)) (dCons (dAndV (dCB (dIsX a cls d (.ref kl.ReadError) (isx_ReadError kl)) (dCons (dVar 6) (dCons (dC (.ref kl.ReadError)) dNil))) (dCB (dIsX a cls d (.ty "ValueError") (isx_ValueError kl)) (dCons (dVar 6) (dCons (dC (.ty "ValueError")) dNil)))) dNil))))) (gdName 5)))) :: ((exm_Contradiction kl, some 6, (fun a cls d => (dAsg (dLst (dCons (dC (.str (PySem.Str.ofString "contradiction"))) (dCons (dAndV (dCB (dIsX a cls d (.ref kl.ReadError) (isx_ReadError kl)) (dCons (dVar 6) (dCons (dC (.ref kl.ReadError)) dNil))) (dCB (dIsX a cls d (.ty "ValueError") (isx_ValueError kl)) (dCons (dVar 6) (dCons (dC (.ty "ValueError")) dNil)))) dNil))) (gdName 5)))) :: ((exm_NoKey kl, some 6, (fun a cls d => (dAsg (dLst (dCons (dC (.str (PySem.Str.ofString "key"))) (dCons (dXf a cls d kl.NoKey "key" (dVar 6)) (dCons (dAndV (dCB (dIsX a cls d (.ref kl.ReadError) (isx_ReadError kl)) (dCons (dVar 6) (dCons (dC (.ref kl.ReadError)) dNil))) (dCB (dIsX a cls d (.ty "ValueError") (isx_ValueError kl)) (dCons (dVar 6) (dCons (dC (.ty "ValueError")) dNil)))) dNil)))) (gdName 5)))) :: ((exm_Impossible kl, some 6, (fun a cls d => (dAsg (dLst (dCons (dC (.str (PySem.Str.ofString "value"))) (dCons (dXf a cls d kl.Impossible "key" (dVar 6)) (dCons (dXf a cls d kl.Impossible "value" (dVar 6)) (dCons (dAndV (dCB (dIsX a cls d (.ref kl.ReadError) (isx_ReadError kl)) (dCons (dVar 6) (dCons (dC (.ref kl.ReadError)) dNil))) (dCB (dIsX a cls d (.ty "ValueError") (isx_ValueError kl)) (dCons (dVar 6) (dCons (dC (.ty "ValueError")) dNil)))) dNil))))) (gdName 5)))) :: ((exm_ReadError kl, none, (fun a cls d => (dAsg (dLst (dCons (dC (.str (PySem.Str.ofString "other"))) dNil)) (gdName 5)))) :: []))))))
  (dRet (dVar 5)))))))
theorem len__law_tried (kl : Kl) : ∀ as Q E, sd__law_tried kl as Q E → as.length = 2 := by
  rintro _ _ _ ⟨_, _, _, rfl, _⟩
  rfl
theorem pure__law_tried (kl : Kl) : ∀ as Q E, sd__law_tried kl as Q E → d__law_tried kl (dEnds Q E) (startD 7 as) := by
  rintro as Q E ⟨F, kd, rows, rfl, hS, hl, hq⟩
  refine ⟨_, at_keys, ?_⟩
  refine ⟨_, at_vals, ?_⟩
  refine ⟨F, kd, rfl, hS, ?_⟩
  refine ⟨by simp, ?_⟩
  refine ⟨_, at2a, _, at2b, _, at2a, _, at2b, ⟨rfl, rfl⟩, ?_⟩
  have bad : ∀ a b : Int, Q (toldE "stretch" [.v (.int a), .v (.int b), .v (.bl true)]) → Q (toldE "stretch" [.v (.int a), .v (.int b), .v (.bl true)]) := fun _ _ h => h
  refine ⟨F.k0, F.k1, F.v0, F.v1, some (proOf F kd), rows, _, rfl, .inl rfl, fun h => ?_, fun h h2 => ?_, fun h h2 => ⟨soft_pr hS, fun hx => ?_, fun hx => ?_⟩⟩
  · refine ⟨true, by simp [exm_BadStretch, badX], fun _ a' dd => ?_, fun h => nomatch h⟩
    refine ⟨_, _, rfl, rfl, rfl, _, _, rfl, rfl, rfl, ?_⟩
    refine ⟨_, _, true, rfl, rfl, by simp [isx_ReadError, badX], ?_⟩
    refine ⟨_, _, true, rfl, rfl, by simp [isx_ValueError, badX], ?_⟩
    exact ⟨by simp, hq _ (.inl ⟨h, rfl⟩)⟩
  · refine ⟨true, by simp [exm_BadStretch, badX], fun _ a' dd => ?_, fun h => nomatch h⟩
    refine ⟨_, _, rfl, rfl, rfl, _, _, rfl, rfl, rfl, ?_⟩
    refine ⟨_, _, true, rfl, rfl, by simp [isx_ReadError, badX], ?_⟩
    refine ⟨_, _, true, rfl, rfl, by simp [isx_ValueError, badX], ?_⟩
    exact ⟨by simp, hq _ (.inr (.inl ⟨h, h2, rfl⟩))⟩
  · refine ⟨false, by simp [exm_BadStretch, conX], fun h => (nomatch h), fun _ => ?_⟩
    refine ⟨true, by simp [exm_Contradiction, conX], fun _ a' dd => ?_, fun h => nomatch h⟩
    refine ⟨_, _, true, rfl, rfl, by simp [isx_ReadError, conX], ?_⟩
    refine ⟨_, _, true, rfl, rfl, by simp [isx_ValueError, conX], ?_⟩
    exact ⟨by simp, hq _ (.inr (.inr (.inl ⟨h, h2, hx, rfl⟩)))⟩
  have hF := fok_of hS h h2 hx
  have hq : ∀ d, DueF F kd [] rows d → Q d := fun d z => hq d (.inr (.inr (.inr ⟨h, h2, hx, z⟩)))
  refine ⟨fun i k => IRow F kd rows i k ∧ RowsOk F kd (rows.take i) ∧ ∀ d, DueF F kd (rows.take i) (rows.drop i) d → Q d, ⟨⟨[], rfl, Nat.le_refl _, fun p => by simp⟩, ⟨fun p m => (by simp at m), fun _ p m => (by simp at m)⟩, hq⟩, ?_, ?_⟩
  · rintro i p k hp ⟨⟨ts, rfl, tl, tm⟩, hR, hD⟩ hok hpk
    have hi := (List.getElem?_eq_some_iff.mp hp).1
    have L : Lot ⟨F.k0, F.k1, F.v0, F.v1, proOf F kd, ts⟩ p.1 p.2 ↔ Poss F kd (rows.take i) p := lot_poss hF hR hok.asc tm
    rw [drop_at20 hp] at hD
    refine ⟨fun n => ?_, fun n m => ?_, fun _ _ _ c => ?_, fun n m k' st _ => ?_⟩
    · refine ⟨false, by simp [exm_BadStretch, noKeyX], fun h => (nomatch h), fun _ => ?_⟩
      refine ⟨false, by simp [exm_Contradiction, noKeyX], fun h => (nomatch h), fun _ => ?_⟩
      refine ⟨true, by simp [exm_NoKey, noKeyX], fun _ a' dd => ?_, fun h => nomatch h⟩
      refine ⟨_, _, rfl, rfl, rfl, ?_⟩
      refine ⟨_, _, true, rfl, rfl, by simp [isx_ReadError, noKeyX], ?_⟩
      refine ⟨_, _, true, rfl, rfl, by simp [isx_ValueError, noKeyX], ?_⟩
      exact ⟨by simp, hD _ (.inl ⟨n, rfl⟩)⟩
    · refine ⟨false, by simp [exm_BadStretch, impX], fun h => (nomatch h), fun _ => ?_⟩
      refine ⟨false, by simp [exm_Contradiction, impX], fun h => (nomatch h), fun _ => ?_⟩
      refine ⟨false, by simp [exm_NoKey, impX], fun h => (nomatch h), fun _ => ?_⟩
      refine ⟨true, by simp [exm_Impossible, impX], fun _ a' dd => ?_, fun h => nomatch h⟩
      refine ⟨_, _, rfl, rfl, rfl, _, _, rfl, rfl, rfl, ?_⟩
      refine ⟨_, _, true, rfl, rfl, by simp [isx_ReadError, impX], ?_⟩
      refine ⟨_, _, true, rfl, rfl, by simp [isx_ValueError, impX], ?_⟩
      exact ⟨by simp, hD _ (.inr (.inl ⟨n, fun z => m (L.mpr z), rfl⟩))⟩
    · have c : 40 ≤ ts.length := c
      omega
    · have ps := L.mp m
      have hR' : RowsOk F kd (rows.take (i + 1)) := by rw [take_next hp]; exact rows_add hR n ps
      have hp' : (rows.take (i + 1))[i]? = some p := by rw [List.getElem?_take_of_lt (by omega)]; exact hp
      have I' : IRow F kd (rows.take (i + 1)) i ⟨F.k0, F.k1, F.v0, F.v1, proOf F kd, ts⟩ := ⟨ts, rfl, tl, fun q => by rw [List.take_take, Nat.min_eq_left (by omega)]; exact tm q⟩
      obtain ⟨ts', e', l', m'⟩ := irow_step hR' hp' I' st
      refine ⟨⟨ts', e', l', fun q => ?_⟩, hR', fun d z => hD d (.inr (.inr ⟨n, ps, ?_⟩))⟩
      · have := m' q
        rwa [List.take_take, Nat.min_self] at this
      · rw [← take_next hp]
        exact z
  · rintro k ⟨_, _, hD⟩ hok hpk
    rw [List.drop_length] at hD
    exact ⟨by simp, hD _ rfl⟩

def sd__law_known_fault : Sd := fun as Q _ => ∃ (F : Fx) (kd : Kd) (rows : List Pr), as = [fxD F kd, .lst (rows.map prD)] ∧ Soft F kd ∧ rows.length ≤ 30 ∧ ∀ d, DueA F kd rows d → Q d
def d__law_known_fault : DS := (dSeq (dAsg (dKey (PySem.Str.ofString "keys") (dVar 0)) (gdName 2))
  (dSeq (dAsg (dKey (PySem.Str.ofString "values") (dVar 0)) (gdName 3))
  (dSeq (dFor (iSeq (dLst (dCons (dVar 2) (dCons (dVar 3) dNil)))) (gdName 4)
  (dIfS (dOr (dTest (dOp dLt (dOp dIx (dVar 4) (dC (.int 0))) (dUn dNeg (dOp dPow (dC (.int 10)) (dC (.int 18)))))) (dOr (dTest (dOp dGt (dOp dIx (dVar 4) (dC (.int 1))) (dOp dPow (dC (.int 10)) (dC (.int 18))))) (dTest (dOp dGt (dOp dIx (dVar 4) (dC (.int 0))) (dOp dIx (dVar 4) (dC (.int 1)))))))
  (dRetE (dLst (dCons (dC (.str (PySem.Str.ofString "stretch"))) (dCons (dOp dIx (dVar 4) (dC (.int 0))) (dCons (dOp dIx (dVar 4) (dC (.int 1))) (dCons (dC (.bl true)) dNil))))))
  dNext))
  (dSeq (dAsg (dOp dSub (dOp dIx (dVar 2) (dC (.int 1))) (dOp dIx (dVar 2) (dC (.int 0)))) (gdName 5))
  (dSeq (dAsg (dOp dSub (dOp dIx (dVar 3) (dC (.int 1))) (dOp dIx (dVar 3) (dC (.int 0)))) (gdName 6))
  (dSeq (dAsg (dKey (PySem.Str.ofString "slow") (dVar 0)) (gdName 7))
  (dSeq (dAsg (dKey (PySem.Str.ofString "quick") (dVar 0)) (gdName 8))
  (dSeq (dIfS (dAnd (dTest (dOp dEq (dKey (PySem.Str.ofString "kind") (dVar 0)) (dC (.str (PySem.Str.ofString "one"))))) (dTest (dOp dGt (dVar 5) (dVar 6))))
  (dRetE (dLst (dCons (dC (.str (PySem.Str.ofString "contradiction"))) (dCons (dC (.bl true)) dNil))))
  dNext)
  (dSeq (dIfS (dOr (dAnd (dTest (dOp dNotN (dVar 7) (dC .non))) (dTest (dOp dGt (dOp dMul (dVar 7) (dVar 5)) (dVar 6)))) (dAnd (dTest (dOp dNotN (dVar 8) (dC .non))) (dTest (dOp dGt (dOp dSub (dC (.int 0)) (dOp dMul (dVar 8) (dVar 5))) (dVar 6)))))
  (dRetE (dLst (dCons (dC (.str (PySem.Str.ofString "contradiction"))) (dCons (dC (.bl true)) dNil))))
  dNext)
  (dSeq (dFor (iR1 (dCons (dCB dLen (dCons (dVar 1) dNil)) dNil)) (gdName 9)
  (dSeq (dAsg (dOp dIx (dVar 1) (dVar 9)) (gdSq 2 (gdCons (gdName 10) (gdCons (gdName 11) gdNil))))
  (dSeq (dIfS (dOr (dTest (dOp dLt (dVar 10) (dOp dIx (dVar 2) (dC (.int 0))))) (dTest (dOp dGt (dVar 10) (dOp dIx (dVar 2) (dC (.int 1))))))
  (dRetE (dLst (dCons (dC (.str (PySem.Str.ofString "key"))) (dCons (dVar 10) (dCons (dC (.bl true)) dNil)))))
  dNext)
  (dIfS (dNot (dTru (dCall sd__law_possible_value [] (dCons (dVar 0) (dCons (dSlc (dVar 1) oNone (oSome (dVar 9))) (dCons (dVar 10) (dCons (dVar 11) dNil)))))))
  (dRetE (dLst (dCons (dC (.str (PySem.Str.ofString "value"))) (dCons (dVar 10) (dCons (dVar 11) (dCons (dC (.bl true)) dNil))))))
  dNext))))
  (dRetE (dLst (dCons (dC (.str (PySem.Str.ofString "made"))) dNil)))))))))))))
theorem len__law_known_fault : ∀ as Q E, sd__law_known_fault as Q E → as.length = 2 := by
  rintro _ _ _ ⟨_, _, _, rfl, _⟩
  rfl
theorem cut_take (rows : List Pr) (i : Nat) : DW.cutD (rows.map prD) none (some ((0 : Int) + (i : Int))) = (rows.take i).map prD := by
  unfold DW.cutD
  rw [Int.zero_add, HT.sIx_nat, HT.sIx_none, Nat.sub_zero, List.drop_zero, List.length_map, ← List.map_take]
  congr 1
  by_cases h : i ≤ rows.length
  · rw [Nat.min_eq_left h]
  · rw [Nat.min_eq_right (by omega), List.take_of_length_le (Nat.le_refl _), List.take_of_length_le (by omega)]
theorem pure__law_known_fault : ∀ as Q E, sd__law_known_fault as Q E → d__law_known_fault (dEnds Q E) (startD 12 as) := by
  rintro as Q E ⟨F, kd, rows, rfl, hS, hl, hq⟩
  have c18 : CPow 10 18 := ⟨by decide, by decide, by decide⟩
  refine ⟨_, at_keys, ?_⟩
  refine ⟨_, at_vals, ?_⟩
  refine ⟨by simp, ?_⟩
  refine for_inv (fun i ρ => ∃ s4, ρ = [.dat (fxD F kd), .dat (.lst (rows.map prD)), .dat (.tup [.v (.int F.k0), .v (.int F.k1)]), .dat (.tup [.v (.int F.v0), .v (.int F.v1)]), s4, .emp, .emp, .emp, .emp, .emp, .emp, .emp] ∧ (0 < i → okEnds F.k0 F.k1) ∧ (1 < i → okEnds F.v0 F.v1)) ⟨_, rfl, fun h => absurd h (by omega), fun h => absurd h (by omega)⟩ ?_ ?_
  · rintro i x ρ hx ⟨s4, rfl, g0, g1⟩
    rcases i with _ | _ | i
    · simp at hx
      subst hx
      refine ⟨_, at2a, c18, ?_⟩
      refine iteD (fun h => ?_) (fun a1 => ?_)
      · have h : F.k0 < -(10 ^ 18) := h
        exact ⟨_, at2a, _, at2b, by simp, hq _ (.inl ⟨fun z => by have := z.1; omega, rfl⟩)⟩
      refine ⟨_, at2b, c18, ?_⟩
      refine iteD (fun h => ?_) (fun a2 => ?_)
      · have h : F.k1 > 10 ^ 18 := h
        exact ⟨_, at2a, _, at2b, by simp, hq _ (.inl ⟨fun z => by have := z.2.1; omega, rfl⟩)⟩
      refine ⟨_, at2a, _, at2b, ?_⟩
      refine iteD (fun h => ?_) (fun a3 => ?_)
      · have h : F.k0 > F.k1 := h
        exact ⟨_, at2a, _, at2b, by simp, hq _ (.inl ⟨fun z => by have := z.2.2; omega, rfl⟩)⟩
      have a1 : ¬ F.k0 < -(10 ^ 18) := a1
      have a2 : ¬ F.k1 > 10 ^ 18 := a2
      have a3 : ¬ F.k0 > F.k1 := a3
      exact ⟨_, rfl, fun _ => ⟨by omega, by omega, by omega⟩, fun h => absurd h (by omega)⟩
    · simp at hx
      subst hx
      have g0 := g0 (by omega)
      refine ⟨_, at2a, c18, ?_⟩
      refine iteD (fun h => ?_) (fun a1 => ?_)
      · have h : F.v0 < -(10 ^ 18) := h
        exact ⟨_, at2a, _, at2b, by simp, hq _ (.inr (.inl ⟨g0, fun z => by have := z.1; omega, rfl⟩))⟩
      refine ⟨_, at2b, c18, ?_⟩
      refine iteD (fun h => ?_) (fun a2 => ?_)
      · have h : F.v1 > 10 ^ 18 := h
        exact ⟨_, at2a, _, at2b, by simp, hq _ (.inr (.inl ⟨g0, fun z => by have := z.2.1; omega, rfl⟩))⟩
      refine ⟨_, at2a, _, at2b, ?_⟩
      refine iteD (fun h => ?_) (fun a3 => ?_)
      · have h : F.v0 > F.v1 := h
        exact ⟨_, at2a, _, at2b, by simp, hq _ (.inr (.inl ⟨g0, fun z => by have := z.2.2; omega, rfl⟩))⟩
      have a1 : ¬ F.v0 < -(10 ^ 18) := a1
      have a2 : ¬ F.v1 > 10 ^ 18 := a2
      have a3 : ¬ F.v0 > F.v1 := a3
      exact ⟨_, rfl, fun _ => g0, fun _ => ⟨by omega, by omega, by omega⟩⟩
    · simp at hx
  rintro ρ ⟨s4, rfl, g0, g1⟩
  have h1 := g0 (by simp)
  have h2 := g1 (by simp)
  clear g0 g1
  refine ⟨_, at2b, _, at2a, ?_⟩
  refine ⟨_, at2b, _, at2a, ?_⟩
  refine ⟨_, at_slow, ?_⟩
  refine ⟨_, at_quick, ?_⟩
  have hq : (¬ Exi (kn0 F kd) → Q (toldE "contradiction" [.v (.bl true)])) ∧ (Exi (kn0 F kd) → ∀ d, DueF F kd [] rows d → Q d) := ⟨fun h => hq _ (.inr (.inr (.inl ⟨h1, h2, h, rfl⟩))), fun h d z => hq _ (.inr (.inr (.inr ⟨h1, h2, h, z⟩)))⟩
  refine gdN (nxN (if_cut (fun ρ => (kd = .one → F.k1 - F.k0 ≤ F.v1 - F.v0) ∧ ρ = [.dat (fxD F kd), .dat (.lst (rows.map prD)), .dat (.tup [.v (.int F.k0), .v (.int F.k1)]), .dat (.tup [.v (.int F.v0), .v (.int F.v1)]), s4, .int (F.k1 - F.k0), .int (F.v1 - F.v0), .dat (oD F.s), .dat (oD F.f), .emp, .emp, .emp]) ?_ ?_))
  rotate_left
  · intro K hK
    cases kd with
    | none =>
      refine ⟨_, at_kind, _, _, rfl, rfl, by decide +kernel, by decide +kernel, ?_⟩
      exact hK _ ⟨fun e => (nomatch e), rfl⟩
    | pace =>
      refine ⟨_, at_kind, _, _, rfl, rfl, by decide +kernel, by decide +kernel, ?_⟩
      exact hK _ ⟨fun e => (nomatch e), rfl⟩
    | one =>
      refine ⟨_, at_kind, _, _, rfl, rfl, by decide +kernel, by decide +kernel, ?_⟩
      refine iteD (fun h => ?_) (fun h => ?_)
      · have h : F.k1 - F.k0 > F.v1 - F.v0 := h
        exact ⟨by simp, hq.1 fun z => by have z : F.k1 - F.k0 ≤ F.v1 - F.v0 := z; omega⟩
      · have h : ¬ F.k1 - F.k0 > F.v1 - F.v0 := h
        exact hK _ ⟨fun _ => by omega, rfl⟩
  rintro ρ ⟨ho, rfl⟩
  have hxo : ((∀ a, F.s = some a → a * (F.k1 - F.k0) ≤ F.v1 - F.v0) ∧ ∀ b, F.f = some b → -(b * (F.k1 - F.k0)) ≤ F.v1 - F.v0) ↔ Exi (kn0 F kd) := by
    cases kd with
    | pace => exact Iff.rfl
    | none =>
      obtain ⟨e1, e2⟩ := hS.np (fun e => nomatch e)
      rw [e1, e2]
      exact ⟨fun _ => trivial, fun _ => ⟨fun _ e => (nomatch e), fun _ e => (nomatch e)⟩⟩
    | one =>
      obtain ⟨e1, e2⟩ := hS.np (fun e => nomatch e)
      rw [e1, e2]
      exact ⟨fun _ => ho rfl, fun _ => ⟨fun _ e => (nomatch e), fun _ e => (nomatch e)⟩⟩
  rw [← hxo] at hq
  have bs : ∀ a, F.s = some a → -(2 ^ 64) < a ∧ a < 2 ^ 64 := fun a e => by
    have := hS.so a e
    omega
  have bf : ∀ a, F.f = some a → -(2 ^ 64) < a ∧ a < 2 ^ 64 := fun a e => by
    have := hS.fo a e
    omega
  refine if_cut (fun ρ => ((∀ a, F.s = some a → a * (F.k1 - F.k0) ≤ F.v1 - F.v0) ∧ ∀ b, F.f = some b → -(b * (F.k1 - F.k0)) ≤ F.v1 - F.v0) ∧ ρ = [.dat (fxD F kd), .dat (.lst (rows.map prD)), .dat (.tup [.v (.int F.k0), .v (.int F.k1)]), .dat (.tup [.v (.int F.v0), .v (.int F.v1)]), s4, .int (F.k1 - F.k0), .int (F.v1 - F.v0), .dat (oD F.s), .dat (oD F.f), .emp, .emp, .emp]) ?_ ?_
  rotate_left
  · intro K hK
    have second : ∀ (S : Prop), (S → ∀ a, F.s = some a → a * (F.k1 - F.k0) ≤ F.v1 - F.v0) → S → True := fun _ _ _ => trivial
    clear second
    cases es : F.s with
    | none =>
      rw [es] at hq hK bs
      refine ⟨rfl, _, rfl, ?_⟩
      cases ef : F.f with
      | none =>
        rw [ef] at hq hK bf
        refine ⟨rfl, _, rfl, ?_⟩
        exact hK _ ⟨⟨fun _ e => (nomatch e), fun _ e => (nomatch e)⟩, rfl⟩
      | some b =>
        rw [ef] at hq hK bf
        refine ⟨rfl, _, rfl, .inl (bf b rfl), ?_⟩
        refine iteD (fun h => ?_) (fun h => ?_)
        · have h : 0 - b * (F.k1 - F.k0) > F.v1 - F.v0 := h
          exact ⟨by simp, hq.1 fun z => by have := z.2 b rfl; omega⟩
        · have h : ¬ 0 - b * (F.k1 - F.k0) > F.v1 - F.v0 := h
          exact hK _ ⟨⟨fun _ e => (nomatch e), fun c e => by cases e; omega⟩, rfl⟩
    | some a =>
      rw [es] at hq hK bs
      refine ⟨rfl, _, rfl, .inl (bs a rfl), ?_⟩
      refine iteD (fun h => ?_) (fun h => ?_)
      · have h : a * (F.k1 - F.k0) > F.v1 - F.v0 := h
        exact ⟨by simp, hq.1 fun z => by have := z.1 a rfl; omega⟩
      have h : ¬ a * (F.k1 - F.k0) > F.v1 - F.v0 := h
      cases ef : F.f with
      | none =>
        rw [ef] at hq hK bf
        refine ⟨rfl, _, rfl, ?_⟩
        exact hK _ ⟨⟨fun c e => by cases e; omega, fun _ e => (nomatch e)⟩, rfl⟩
      | some b =>
        rw [ef] at hq hK bf
        refine ⟨rfl, _, rfl, .inl (bf b rfl), ?_⟩
        refine iteD (fun h' => ?_) (fun h' => ?_)
        · have h' : 0 - b * (F.k1 - F.k0) > F.v1 - F.v0 := h'
          exact ⟨by simp, hq.1 fun z => by have := z.2 b rfl; omega⟩
        · have h' : ¬ 0 - b * (F.k1 - F.k0) > F.v1 - F.v0 := h'
          exact hK _ ⟨⟨fun c e => by cases e; omega, fun c e => by cases e; omega⟩, rfl⟩
  rintro ρ ⟨hx, rfl⟩
  have hq := hq.2 hx
  have hF := fok_of hS h1 h2 (hxo.mp hx)
  have len1 : ((rows.map prD).length : Int) = rows.length := by rw [List.length_map]
  refine ⟨by omega, by omega, ?_⟩
  rw [show ((rows.map prD).length : Int).toNat = rows.length by omega]
  refine for_rng (fun i ρ => ∃ s9 s10 s11, ρ = [.dat (fxD F kd), .dat (.lst (rows.map prD)), .dat (.tup [.v (.int F.k0), .v (.int F.k1)]), .dat (.tup [.v (.int F.v0), .v (.int F.v1)]), s4, .int (F.k1 - F.k0), .int (F.v1 - F.v0), .dat (oD F.s), .dat (oD F.f), s9, s10, s11] ∧ RowsOk F kd (rows.take i) ∧ ∀ d, DueF F kd (rows.take i) (rows.drop i) d → Q d) ⟨_, _, _, rfl, ⟨fun p m => (by simp at m), fun _ p m => (by simp at m)⟩, hq⟩ ?_ ?_
  · rintro i ρ hi ⟨s9, s10, s11, rfl, hR, hD⟩
    have hp : rows[i]? = some rows[i] := List.getElem?_eq_getElem hi
    generalize rows[i] = p at hp
    rw [drop_at20 hp] at hD
    refine ⟨_, at_map (by omega) hp, rfl, rfl, ?_⟩
    refine ⟨_, at2a, ?_⟩
    refine iteD (fun h => ?_) (fun a1 => ?_)
    · have h : p.1 < F.k0 := h
      exact ⟨by simp, hD _ (.inl ⟨fun z => by omega, rfl⟩)⟩
    refine ⟨_, at2b, ?_⟩
    refine iteD (fun h => ?_) (fun a2 => ?_)
    · have h : p.1 > F.k1 := h
      exact ⟨by simp, hD _ (.inl ⟨fun z => by omega, rfl⟩)⟩
    have a1 : ¬ p.1 < F.k0 := a1
    have a2 : ¬ p.1 > F.k1 := a2
    have inn : F.k0 ≤ p.1 ∧ p.1 ≤ F.k1 := ⟨by omega, by omega⟩
    refine ⟨_, rfl, ?_⟩
    refine ⟨F, kd, rows.take i, p.1, p.2, congrArg (fun l => [fxD F kd, Dt.lst l, .v (.int p.1), .v (.int p.2)]) (cut_take rows i), hF, hR, inn, by rw [List.length_take]; omega, fun b hb => ?_⟩
    cases b with
    | false =>
      exact ⟨by simp, hD _ (.inr (.inl ⟨inn, fun z => (nomatch hb.mpr z), rfl⟩))⟩
    | true =>
      have ps := hb.mp rfl
      refine ⟨_, _, _, rfl, ?_, fun d z => hD d (.inr (.inr ⟨inn, ps, ?_⟩))⟩
      · rw [take_next hp]
        exact rows_add hR inn ps
      · rw [← take_next hp]
        exact z
  · rintro ρ ⟨s9, s10, s11, rfl, hR, hD⟩
    rw [List.drop_length] at hD
    exact ⟨by simp, hD _ rfl⟩

def sd__law_spoilt_ends : Sd := fun as Q _ => ∃ a b : Int, as = [.drw, .tup [.v (.int a), .v (.int b)]] ∧ ∀ c d : Int, Q (.tup [.v (.int c), .v (.int d)])
def d__law_spoilt_ends : DS := (dSeq (dAsg (dCall sd__law_next [] (dCons (dVar 0) (dCons (dC (.int 3)) dNil))) (gdName 2))
  (dSeq (dAsg (dOp dAdd (dC (.int 1)) (dCall sd__law_next [] (dCons (dVar 0) (dCons (dC (.int 40)) dNil)))) (gdName 3))
  (dSeq (dIfS (dTest (dOp dEq (dVar 2) (dC (.int 1))))
  (dRetE (dTup (dCons (dOp dSub (dUn dNeg (dOp dPow (dC (.int 10)) (dC (.int 18)))) (dVar 3)) (dCons (dOp dIx (dVar 1) (dC (.int 1))) dNil))))
  dNext)
  (dSeq (dIfS (dTest (dOp dEq (dVar 2) (dC (.int 2))))
  (dRetE (dTup (dCons (dOp dIx (dVar 1) (dC (.int 0))) (dCons (dOp dAdd (dOp dPow (dC (.int 10)) (dC (.int 18))) (dVar 3)) dNil))))
  dNext)
  (dRetE (dTup (dCons (dOp dAdd (dOp dIx (dVar 1) (dC (.int 1))) (dVar 3)) (dCons (dOp dIx (dVar 1) (dC (.int 1))) dNil))))))))
theorem len__law_spoilt_ends : ∀ as Q E, sd__law_spoilt_ends as Q E → as.length = 2 := by
  rintro _ _ _ ⟨_, _, rfl, _⟩
  rfl
theorem pure__law_spoilt_ends : ∀ as Q E, sd__law_spoilt_ends as Q E → d__law_spoilt_ends (dEnds Q E) (startD 4 as) := by
  rintro as Q E ⟨a, b, rfl, hq⟩
  have c18 : CPow 10 18 := ⟨by decide, by decide, by decide⟩
  refine ⟨3, rfl, by decide, fun m _ _ => ?_⟩
  refine ⟨40, rfl, by decide, fun n _ _ => ?_⟩
  refine ⟨_, _, rfl, rfl, rfl, rfl, ?_⟩
  refine iteE (fun _ => ⟨c18, _, at2b, by simp, hq _ _⟩) (fun _ => ?_)
  refine ⟨_, _, rfl, rfl, rfl, rfl, ?_⟩
  refine iteE (fun _ => ⟨_, at2a, c18, by simp, hq _ _⟩) (fun _ => ?_)
  exact ⟨_, at2b, _, at2b, by simp, hq _ _⟩
def sd__law_spoilt_samples : Sd := fun as Q _ => ∃ (F : Fx) (kd : Kd) (rows : List Pr), as = [.drw, fxD F kd, .lst (rows.map prD)] ∧ FOk F kd ∧ RowsOk F kd rows ∧ rows.length ≤ 20 ∧ ∀ rs : List Pr, rs.length ≤ rows.length + 1 → Q (.lst (rs.map prD))
def d__law_spoilt_samples : DS := (dSeq (dAsg (dCall sd__law_next [] (dCons (dVar 0) (dCons (dOp dAdd (dCB dLen (dCons (dVar 2) dNil)) (dC (.int 1))) dNil))) (gdName 3))
  (dSeq (dAsg (dOp dAdd (dC (.int 1)) (dCall sd__law_next [] (dCons (dVar 0) (dCons (dC (.int 5)) dNil)))) (gdName 4))
  (dSeq (dAsg (dCall sd__law_next [] (dCons (dVar 0) (dCons (dC (.int 4)) dNil))) (gdName 5))
  (dSeq (dAsg (dCall sd__law_amount [] (dCons (dVar 0) (dCons (dOp dIx (dKey (PySem.Str.ofString "keys") (dVar 1)) (dC (.int 0))) (dCons (dOp dIx (dKey (PySem.Str.ofString "keys") (dVar 1)) (dC (.int 1))) dNil)))) (gdName 6))
  (dSeq (dAsg (dCall sd__law_ends [] (dCons (dVar 1) (dCons (dSlc (dVar 2) oNone (oSome (dVar 3))) (dCons (dVar 6) dNil)))) (gdSq 2 (gdCons (gdName 7) (gdCons (gdName 8) gdNil))))
  (dSeq (dAsg (dTup (dCons (dVar 6) (dCons (dOp dAdd (dVar 8) (dVar 4)) dNil))) (gdName 9))
  (dSeq (dIfS (dTest (dOp dEq (dVar 5) (dC (.int 1))))
  (dAsg (dTup (dCons (dVar 6) (dCons (dOp dSub (dVar 7) (dVar 4)) dNil))) (gdName 9))
  dNext)
  (dSeq (dIfS (dTest (dOp dEq (dVar 5) (dC (.int 2))))
  (dAsg (dTup (dCons (dOp dAdd (dOp dIx (dKey (PySem.Str.ofString "keys") (dVar 1)) (dC (.int 1))) (dVar 4)) (dCons (dVar 7) dNil))) (gdName 9))
  dNext)
  (dSeq (dIfS (dTest (dOp dEq (dVar 5) (dC (.int 3))))
  (dAsg (dTup (dCons (dOp dSub (dOp dIx (dKey (PySem.Str.ofString "keys") (dVar 1)) (dC (.int 0))) (dVar 4)) (dCons (dVar 7) dNil))) (gdName 9))
  dNext)
  (dRetE (dOp dAdd (dOp dAdd (dSlc (dVar 2) oNone (oSome (dVar 3))) (dLst (dCons (dVar 9) dNil))) (dSlc (dVar 2) (oSome (dVar 3)) oNone))))))))))))
theorem len__law_spoilt_samples : ∀ as Q E, sd__law_spoilt_samples as Q E → as.length = 3 := by
  rintro _ _ _ ⟨_, _, _, rfl, _⟩
  rfl
theorem cut_take' {rows : List Pr} {n : Int} (h : 0 ≤ n) : DW.cutD (rows.map prD) none (some n) = (rows.take n.toNat).map prD := by
  obtain ⟨m, rfl⟩ := Int.eq_ofNat_of_zero_le h
  have := cut_take rows m
  rw [Int.zero_add] at this
  rw [this]
  rfl
theorem cut_drop' {rows : List Pr} {n : Int} (h : 0 ≤ n) (h1 : n ≤ rows.length) : DW.cutD (rows.map prD) (some n) none = (rows.drop n.toNat).map prD := by
  obtain ⟨m, rfl⟩ := Int.eq_ofNat_of_zero_le h
  have hm : min m rows.length = m := by omega
  unfold DW.cutD
  rw [HT.sIx_nat, HT.sIx_none, List.length_map, hm, Int.toNat_natCast, ← List.map_drop, ← List.map_take]
  congr 1
  exact List.take_of_length_le (by rw [List.length_drop]; exact Nat.le_refl _)
theorem pure__law_spoilt_samples : ∀ as Q E, sd__law_spoilt_samples as Q E → d__law_spoilt_samples (dEnds Q E) (startD 10 as) := by
  rintro as Q E ⟨F, kd, rows, rfl, hF, hr, hl, hq⟩
  have k01 := hF.ok.keys
  refine ⟨_, rfl, by omega, fun n n0 n1 => ?_⟩
  rw [List.length_map] at n1
  refine ⟨5, rfl, by decide, fun m m0 m1 => ?_⟩
  refine ⟨4, rfl, by decide, fun c c0 c1 => ?_⟩
  refine ⟨_, at_keys, _, at2a, _, at_keys, _, at2b, F.k0, F.k1, rfl, k01, fun key y0 y1 => ?_⟩
  refine ⟨_, rfl, ?_⟩
  refine ⟨F, kd, rows.take n.toNat, key, congrArg (fun l => [fxD F kd, Dt.lst l, .v (.int key)]) (cut_take' n0), hF.ok, hF.so, hF.fo, (rows_take hr _).1, ⟨y0, y1⟩, fun lo hi lh hI => ?_⟩
  refine ⟨rfl, rfl, by simp, ?_⟩
  have fin : ∀ p : Pr, Q (.lst ((rows.take n.toNat ++ [p] ++ rows.drop n.toNat).map prD)) := fun p => hq _ (by simp only [List.length_append, List.length_take, List.length_drop, List.length_singleton]; omega)
  refine gdN (nxN ?_)
  have done : ∀ (p : Pr) (D : DEnds) (x0 x3 x4 x5 x6 x7 x8 : Sl), x3 = .int n → (∀ d, D.rt d = Q d) → dRetE (dOp dAdd (dOp dAdd (dSlc (dVar 2) oNone (oSome (dVar 3))) (dLst (dCons (dVar 9) dNil))) (dSlc (dVar 2) (oSome (dVar 3)) oNone)) D [x0, .dat (fxD F kd), .dat (.lst (rows.map prD)), x3, x4, x5, x6, x7, x8, .dat (prD p)] := by
    rintro p D x0 x3 x4 x5 x6 x7 x8 rfl hD
    refine ⟨_, rfl, by simp, ?_⟩
    refine ⟨by rw [cut_take' n0]; simp; omega, _, rfl, ?_⟩
    refine ⟨by rw [cut_take' n0, cut_drop' n0 (by omega)]; simp; omega, ?_⟩
    have := fin p
    rw [List.map_append, List.map_append] at this
    show D.rt (.lst (DW.cutD (rows.map prD) none (some n) ++ [prD p] ++ DW.cutD (rows.map prD) (some n) none))
    rw [hD, cut_take' n0, cut_drop' n0 (by omega)]
    exact this
  refine if_cut (fun ρ => ∃ p : Pr, ρ = [.dat .drw, .dat (fxD F kd), .dat (.lst (rows.map prD)), .int n, .int (1 + m), .int c, .int key, .int lo, .int hi, .dat (prD p)]) ?_ ?_
  rotate_left
  · intro K hK
    refine ⟨_, _, rfl, rfl, rfl, rfl, ?_⟩
    refine iteE (fun _ => ⟨by simp, hK _ ⟨(key, lo - (1 + m)), rfl⟩⟩) (fun _ => hK _ ⟨(key, hi + (1 + m)), rfl⟩)
  rintro ρ ⟨p, rfl⟩
  refine if_cut (fun ρ => ∃ p : Pr, ρ = [.dat .drw, .dat (fxD F kd), .dat (.lst (rows.map prD)), .int n, .int (1 + m), .int c, .int key, .int lo, .int hi, .dat (prD p)]) ?_ ?_
  rotate_left
  · intro K hK
    refine ⟨_, _, rfl, rfl, rfl, rfl, ?_⟩
    refine iteE (fun _ => ⟨_, at_keys, _, at2b, by simp, hK _ ⟨(F.k1 + (1 + m), lo), rfl⟩⟩) (fun _ => hK _ ⟨p, rfl⟩)
  rintro ρ ⟨p, rfl⟩
  refine if_cut (fun ρ => ∃ p : Pr, ρ = [.dat .drw, .dat (fxD F kd), .dat (.lst (rows.map prD)), .int n, .int (1 + m), .int c, .int key, .int lo, .int hi, .dat (prD p)]) ?_ ?_
  rotate_left
  · intro K hK
    refine ⟨_, _, rfl, rfl, rfl, rfl, ?_⟩
    refine iteE (fun _ => ⟨_, at_keys, _, at2a, by simp, hK _ ⟨(F.k0 - (1 + m), lo), rfl⟩⟩) (fun _ => hK _ ⟨p, rfl⟩)
  rintro ρ ⟨p, rfl⟩
  exact done p _ _ _ _ _ _ _ _ rfl fun _ => rfl

theorem nk {a b : Str} (h : ¬ (a = b)) : ¬ ((.inr b : Key) = .inr a) := fun e => h (by injection e with e; exact e.symm)
theorem nk' {a b : Str} (h : ¬ (a = b)) : ¬ ((.inr a : Key) = .inr b) := fun e => h (by injection e with e)
theorem put_keys {F : Fx} {kd : Kd} {a b : Int} : putKD (fxL F kd) (.inr ("keys" : Str)) (.tup [.v (.int a), .v (.int b)]) = fxL ⟨a, b, F.v0, F.v1, F.s, F.f⟩ kd := by
  unfold putKD fxL dctOf
  simp only [dctOf, List.any_cons, decide_true, Bool.true_or, if_true, List.map_cons, List.map_nil, if_neg (nk s_kv), if_neg (nk s_kk), if_neg (nk s_ks), if_neg (nk s_kq)]
theorem put_vals {F : Fx} {kd : Kd} {a b : Int} : putKD (fxL F kd) (.inr ("values" : Str)) (.tup [.v (.int a), .v (.int b)]) = fxL ⟨F.k0, F.k1, a, b, F.s, F.f⟩ kd := by
  unfold putKD fxL dctOf
  simp only [dctOf, List.any_cons, decide_true, Bool.true_or, Bool.or_true, if_true, List.map_cons, List.map_nil, if_neg (nk' s_kv), if_neg (nk s_vk), if_neg (nk s_vs), if_neg (nk s_vq)]
theorem put_slow {F : Fx} {kd : Kd} {o : Option Int} : putKD (fxL F kd) (.inr ("slow" : Str)) (oD o) = fxL ⟨F.k0, F.k1, F.v0, F.v1, o, F.f⟩ kd := by
  unfold putKD fxL dctOf
  simp only [dctOf, List.any_cons, decide_true, Bool.true_or, Bool.or_true, if_true, List.map_cons, List.map_nil, if_neg (nk' s_ks), if_neg (nk' s_vs), if_neg (nk' s_is), if_neg (nk s_sq)]
theorem put_quick {F : Fx} {kd : Kd} {o : Option Int} : putKD (fxL F kd) (.inr ("quick" : Str)) (oD o) = fxL ⟨F.k0, F.k1, F.v0, F.v1, F.s, o⟩ kd := by
  unfold putKD fxL dctOf
  simp only [dctOf, List.any_cons, decide_true, Bool.true_or, Bool.or_true, if_true, List.map_cons, List.map_nil, if_neg (nk' s_kq), if_neg (nk' s_vq), if_neg (nk' s_iq), if_neg (nk' s_sq)]
def sd__law_spoilt_facts (kl : Kl) : SdP := fun as kvs Q => ∃ (F : Fx) (kd : Kd), as = [.drw] ∧ kvs = fxL F kd ∧ FOk F kd ∧ ∀ G, Soft G kd → Q (fxD G kd)
def d__law_spoilt_facts : DS := (dSeq (dAsg (dOp dSub (dOp dIx (dOdKey 1 (dC (.str (PySem.Str.ofString "keys")))) (dC (.int 1))) (dOp dIx (dOdKey 1 (dC (.str (PySem.Str.ofString "keys")))) (dC (.int 0)))) (gdName 2))
  (dSeq (dAsg (dOp dSub (dOp dIx (dOdKey 1 (dC (.str (PySem.Str.ofString "values")))) (dC (.int 1))) (dOp dIx (dOdKey 1 (dC (.str (PySem.Str.ofString "values")))) (dC (.int 0)))) (gdName 3))
  (dSeq (dAsg (dOp dAdd (dC (.int 1)) (dCall sd__law_next [] (dCons (dVar 0) (dCons (dC (.int 3)) dNil)))) (gdName 4))
  (dSeq (dIfS (dAnd (dTest (dOp dEq (dOdKey 1 (dC (.str (PySem.Str.ofString "kind")))) (dC (.str (PySem.Str.ofString "pace"))))) (dAnd (dTest (dOp dGt (dVar 2) (dC (.int 0)))) (dTest (dOp dLe (dOp dAdd (dOp dFdivM (dVar 3) (dVar 2)) (dVar 4)) (dOp dPow (dC (.int 10)) (dC (.int 18)))))))
  (dSeq (dOdSet 1 (dC (.str (PySem.Str.ofString "slow"))) (dOp dAdd (dOp dFdivM (dVar 3) (dVar 2)) (dVar 4)))
  (dSeq (dOdSet 1 (dC (.str (PySem.Str.ofString "quick"))) (dC .non))
  (dIfS (dTest (dOp dEq (dCall sd__law_next [] (dCons (dVar 0) (dCons (dC (.int 2)) dNil))) (dC (.int 1))))
  (dSeq (dOdSet 1 (dC (.str (PySem.Str.ofString "quick"))) (dOp dSub (dC (.int 0)) (dOdKey 1 (dC (.str (PySem.Str.ofString "slow"))))))
  (dOdSet 1 (dC (.str (PySem.Str.ofString "slow"))) (dC .non)))
  dNext)))
  dNext)
  (dSeq (dIfS (dAnd (dTest (dOp dEq (dOdKey 1 (dC (.str (PySem.Str.ofString "kind")))) (dC (.str (PySem.Str.ofString "one"))))) (dTest (dOp dLe (dOp dAdd (dOp dAdd (dOp dIx (dOdKey 1 (dC (.str (PySem.Str.ofString "keys")))) (dC (.int 0))) (dVar 3)) (dVar 4)) (dOp dPow (dC (.int 10)) (dC (.int 18))))))
  (dOdSet 1 (dC (.str (PySem.Str.ofString "keys"))) (dTup (dCons (dOp dIx (dOdKey 1 (dC (.str (PySem.Str.ofString "keys")))) (dC (.int 0))) (dCons (dOp dAdd (dOp dAdd (dOp dIx (dOdKey 1 (dC (.str (PySem.Str.ofString "keys")))) (dC (.int 0))) (dVar 3)) (dVar 4)) dNil))))
  dNext)
  (dFrzD 1 (dRet (dVar 1))))))))
theorem len__law_spoilt_facts (kl : Kl) : ∀ as kvs Q, sd__law_spoilt_facts kl as kvs Q → as.length + 1 = 2 ∧ as.length + 1 ≤ 5 := by
  rintro _ _ _ ⟨_, _, rfl, _⟩
  exact ⟨rfl, by decide⟩
theorem ol {F : Fx} {kd : Kd} : (fxL F kd).length ≤ 100000 := by
  show 5 ≤ 100000
  decide
theorem smN : smO none := fun _ e => nomatch e
theorem smS {a : Int} (h0 : -(10 ^ 18) ≤ a) (h1 : a ≤ 10 ^ 18) : smO (some a) := fun b e => by cases e; exact ⟨h0, h1⟩
theorem pure__law_spoilt_facts (kl : Kl) : ∀ as kvs Q, sd__law_spoilt_facts kl as kvs Q → d__law_spoilt_facts (dEndsP Q) (startP 5 as kvs) := by
  rintro as kvs Q ⟨F, kd, rfl, rfl, hF, hq⟩
  have c18 : CPow 10 18 := ⟨by decide, by decide, by decide⟩
  have hk := hF.keys
  have hv := hF.vals
  obtain ⟨hk1, hk2, hk3⟩ := hk
  obtain ⟨hv1, hv2, hv3⟩ := hv
  refine ⟨_, rfl, _, _, rfl, at_keys, _, at2b, _, rfl, _, _, rfl, at_keys, _, at2a, ?_⟩
  refine ⟨_, rfl, _, _, rfl, at_vals, _, at2b, _, rfl, _, _, rfl, at_vals, _, at2a, ?_⟩
  refine ⟨3, rfl, by decide, fun m m0 m1 => ?_⟩
  refine gdN (nxN (if_cut (fun ρ => ∃ G : Fx, Soft G kd ∧ G.k0 = F.k0 ∧ G.k1 = F.k1 ∧ (kd ≠ .pace → G = F) ∧ ρ = [.dat .drw, .odc (fxL G kd), .int (F.k1 - F.k0), .int (F.v1 - F.v0), .int (1 + m)]) ?_ ?_))
  rotate_left
  · intro K hK
    have same : K [.dat .drw, .odc (fxL F kd), .int (F.k1 - F.k0), .int (F.v1 - F.v0), .int (1 + m)] := hK _ ⟨F, soft_of hF, rfl, rfl, fun _ => rfl, rfl⟩
    cases kd with
    | none =>
      refine ⟨_, rfl, _, _, rfl, at_kind, _, _, rfl, rfl, by decide +kernel, by decide +kernel, ?_⟩
      exact same
    | one =>
      refine ⟨_, rfl, _, _, rfl, at_kind, _, _, rfl, rfl, by decide +kernel, by decide +kernel, ?_⟩
      exact same
    | pace =>
      refine ⟨_, rfl, _, _, rfl, at_kind, _, _, rfl, rfl, by decide +kernel, by decide +kernel, ?_⟩
      refine iteD (fun h => ?_) (fun _ => same)
      have h : F.k1 - F.k0 > 0 := h
      have bnd : F.k1 - F.k0 ≠ 0 ∧ (F.k1 - F.k0).natAbs < 2 ^ 250 := ⟨by omega, by omega⟩
      have q0 : 0 ≤ (F.v1 - F.v0).fdiv (F.k1 - F.k0) := Int.fdiv_nonneg (by omega) (by omega)
      refine ⟨bnd, c18, ?_⟩
      refine iteD (fun h2 => ?_) (fun _ => same)
      have h2 : (F.v1 - F.v0).fdiv (F.k1 - F.k0) + (1 + m) ≤ 10 ^ 18 := h2
      refine ⟨bnd, _, rfl, ol, _, rfl, ?_⟩
      generalize (F.v1 - F.v0).fdiv (F.k1 - F.k0) = w at q0 h2 ⊢
      have e1 : putKD (fxL F .pace) (.inr ("slow" : Str)) (.v (.int (w + (1 + m)))) = fxL ⟨F.k0, F.k1, F.v0, F.v1, some (w + (1 + m)), F.f⟩ .pace := put_slow (o := some (w + (1 + m)))
      refine nxN (sq_cut (fun ρ => ρ = [.dat .drw, .odc (fxL ⟨F.k0, F.k1, F.v0, F.v1, some (w + (1 + m)), none⟩ .pace), .int (F.k1 - F.k0), .int (F.v1 - F.v0), .int (1 + m)]) ?_ ?_)
      · intro K hK
        refine ⟨_, rfl, ?_, _, rfl, ?_⟩
        · show (putKD (fxL F .pace) (.inr ("slow" : Str)) (.v (.int (w + (1 + m))))).length ≤ 100000
          rw [e1]
          exact ol
        · have e2 : putKD (putKD (fxL F .pace) (.inr ("slow" : Str)) (.v (.int (w + (1 + m))))) (.inr ("quick" : Str)) (.v .non) = fxL ⟨F.k0, F.k1, F.v0, F.v1, some (w + (1 + m)), none⟩ .pace := by
            rw [e1]
            exact put_quick (o := none)
          refine hK _ ?_
          show [Sl.dat .drw, .odc (putKD (putKD (fxL F .pace) (.inr ("slow" : Str)) (.v (.int (w + (1 + m))))) (.inr ("quick" : Str)) (.v .non)), .int (F.k1 - F.k0), .int (F.v1 - F.v0), .int (1 + m)] = _
          rw [e2]
      rintro ρ rfl
      refine ⟨2, rfl, by decide, fun n n0 n1 => ?_⟩
      refine ⟨_, _, rfl, rfl, rfl, rfl, ?_⟩
      refine iteE (fun _ => ?_) (fun _ => ?_)
      · refine ⟨_, rfl, _, _, rfl, at_slow, _, rfl, ol, _, rfl, ?_⟩
        have e3 : putKD (fxL ⟨F.k0, F.k1, F.v0, F.v1, some (w + (1 + m)), none⟩ .pace) (.inr ("quick" : Str)) (.v (.int (0 - (w + (1 + m))))) = fxL ⟨F.k0, F.k1, F.v0, F.v1, some (w + (1 + m)), some (0 - (w + (1 + m)))⟩ .pace := put_quick (o := some (0 - (w + (1 + m))))
        refine ⟨_, rfl, ?_, _, rfl, ?_⟩
        · show (putKD (fxL ⟨F.k0, F.k1, F.v0, F.v1, some (w + (1 + m)), none⟩ .pace) (.inr ("quick" : Str)) (.v (.int (0 - (w + (1 + m)))))).length ≤ 100000
          rw [e3]
          exact ol
        · have e4 : putKD (putKD (fxL ⟨F.k0, F.k1, F.v0, F.v1, some (w + (1 + m)), none⟩ .pace) (.inr ("quick" : Str)) (.v (.int (0 - (w + (1 + m)))))) (.inr ("slow" : Str)) (.v .non) = fxL ⟨F.k0, F.k1, F.v0, F.v1, none, some (0 - (w + (1 + m)))⟩ .pace := by
            rw [e3]
            exact put_slow (o := none)
          refine hK _ ⟨⟨F.k0, F.k1, F.v0, F.v1, none, some (0 - (w + (1 + m)))⟩, ⟨smN, smS (by omega) (by omega), fun _ _ e => (nomatch e), fun e => absurd rfl e⟩, rfl, rfl, fun e => absurd rfl e, ?_⟩
          show [Sl.dat .drw, .odc (putKD (putKD (fxL ⟨F.k0, F.k1, F.v0, F.v1, some (w + (1 + m)), none⟩ .pace) (.inr ("quick" : Str)) (.v (.int (0 - (w + (1 + m)))))) (.inr ("slow" : Str)) (.v .non)), .int (F.k1 - F.k0), .int (F.v1 - F.v0), .int (1 + m)] = _
          rw [e4]
      · exact hK _ ⟨⟨F.k0, F.k1, F.v0, F.v1, some (w + (1 + m)), none⟩, ⟨smS (by omega) (by omega), smN, fun _ _ _ e => (nomatch e), fun e => absurd rfl e⟩, rfl, rfl, fun e => absurd rfl e, rfl⟩
  rintro ρ ⟨G, hG, g0, g1, gp, rfl⟩
  refine if_cut (fun ρ => ∃ G : Fx, Soft G kd ∧ ρ = [.dat .drw, .odc (fxL G kd), .int (F.k1 - F.k0), .int (F.v1 - F.v0), .int (1 + m)]) ?_ ?_
  rotate_left
  · intro K hK
    have same : K [.dat .drw, .odc (fxL G kd), .int (F.k1 - F.k0), .int (F.v1 - F.v0), .int (1 + m)] := hK _ ⟨G, hG, rfl⟩
    cases kd with
    | none =>
      refine ⟨_, rfl, _, _, rfl, at_kind, _, _, rfl, rfl, by decide +kernel, by decide +kernel, ?_⟩
      exact same
    | pace =>
      refine ⟨_, rfl, _, _, rfl, at_kind, _, _, rfl, rfl, by decide +kernel, by decide +kernel, ?_⟩
      exact same
    | one =>
      refine ⟨_, rfl, _, _, rfl, at_kind, _, _, rfl, rfl, by decide +kernel, by decide +kernel, ?_⟩
      refine ⟨_, rfl, _, _, rfl, at_keys, _, at2a, c18, ?_⟩
      refine iteD (fun h => ?_) (fun _ => same)
      refine ⟨_, rfl, _, _, rfl, at_keys, _, at2a, _, rfl, _, _, rfl, at_keys, _, at2a, by simp, _, rfl, ol, _, rfl, ?_⟩
      refine hK _ ⟨⟨G.k0, G.k0 + (F.v1 - F.v0) + (1 + m), G.v0, G.v1, G.s, G.f⟩, ⟨hG.so, hG.fo, hG.ord, hG.np⟩, ?_⟩
      show [Sl.dat .drw, .odc (putKD (fxL G .one) (.inr ("keys" : Str)) (.tup [.v (.int G.k0), .v (.int (G.k0 + (F.v1 - F.v0) + (1 + m)))])), .int (F.k1 - F.k0), .int (F.v1 - F.v0), .int (1 + m)] = _
      rw [put_keys]
  rintro ρ ⟨G, hG, rfl⟩
  exact hq G hG

theorem noD_fx (F : Fx) (kd : Kd) : ∀ x ∈ fxL F kd, NoDct x.2 := fun x m => by
  have od : ∀ o : Option Int, NoDct (oD o) := fun o => by cases o <;> exact .v _
  have t2 : ∀ a b : Int, NoDct (.tup [.v (.int a), .v (.int b)]) := fun a b => .tup fun d m => by
    simp only [List.mem_cons, List.not_mem_nil, or_false] at m
    rcases m with rfl | rfl <;> exact .v _
  unfold fxL dctOf at m
  simp only [dctOf, List.mem_cons, List.not_mem_nil, or_false] at m
  rcases m with rfl | rfl | rfl | rfl | rfl
  · exact t2 _ _
  · exact t2 _ _
  · exact .v _
  · exact od _
  · exact od _
theorem kd_at4 {n : Int} {Q : Sl → Prop} (h0 : 0 ≤ n) (h1 : n < 4) {a b c d : Kd} (q : ∀ kd : Kd, Q (.dat (.v (.str (kdT kd))))) : dIx (.dat (.lst [.v (.str (kdT a)), .v (.str (kdT b)), .v (.str (kdT c)), .v (.str (kdT d))])) (.dat (.v (.int n))) Q := by
  have : n = 0 ∨ n = 1 ∨ n = 2 ∨ n = 3 := by omega
  rcases this with rfl | rfl | rfl | rfl
  · exact ⟨_, rfl, q a⟩
  · exact ⟨_, rfl, q b⟩
  · exact ⟨_, rfl, q c⟩
  · exact ⟨_, rfl, q d⟩
theorem noD_rows (rows : List Pr) : NoDct (.lst (rows.map prD)) := .lst fun d m => by
  obtain ⟨p, _, rfl⟩ := List.mem_map.mp m
  exact .tup fun d m => by
    simp only [List.mem_cons, List.not_mem_nil, or_false] at m
    rcases m with rfl | rfl <;> exact .v _
theorem others20 {s0 : Sl} (h0 : NoDS s0) {F : Fx} {kd : Kd} {rows : List Pr} : ∀ j t, j ≠ 2 → [s0, .dat .drw, .dat (fxD F kd), .dat (.lst (rows.map prD)), .emp, .emp][j]? = some t → NoDS t := fun j t n h => by
  match j, n, h with
  | 0, _, h => cases h; exact h0
  | 1, _, h => cases h; exact .drw
  | 2, n, _ => exact absurd rfl n
  | 3, _, h => cases h; exact noD_rows rows
  | 4, _, h => cases h; trivial
  | 5, _, h => cases h; trivial
  | k + 6, _, h => cases h
theorem pln1 {d : Dt} {Q : List Dt → Prop} (h : Q [d]) : DW.plain [.dat d] Q := h
theorem noD_t2 (a b : Int) : NoDct (.tup [.v (.int a), .v (.int b)]) := .tup fun d m => by
  simp only [List.mem_cons, List.not_mem_nil, or_false] at m
  rcases m with rfl | rfl <;> exact .v _
def d_law (kl : Kl) : DS := (dSeq (dAsg (dCall sd__law_facts [] (dCons (dVar 1) (dCons (dOp dIx (dLst (dCons (dC (.str (PySem.Str.ofString "none"))) (dCons (dC (.str (PySem.Str.ofString "pace"))) (dCons (dC (.str (PySem.Str.ofString "one"))) (dCons (dC (.str (PySem.Str.ofString "pace"))) dNil))))) (dCall sd__law_next [] (dCons (dVar 1) (dCons (dC (.int 4)) dNil)))) dNil))) (gdName 2))
  (dSeq (dAsg (dCall sd__law_sampled [] (dCons (dVar 1) (dCons (dVar 2) (dCons (dC (.int 4)) dNil)))) (gdName 3))
  (dSeq (dIfS (dTest (dOp dNe (dCall (sd__law_tried kl) [] (dCons (dVar 2) (dCons (dCB dListOf (dCons (dVar 3) dNil)) dNil))) (dLst (dCons (dC (.str (PySem.Str.ofString "made"))) dNil))))
  (dRetE (dC (.bl false)))
  dNext)
  (dSeq (dIfS (dTest (dOp dNe (dCall sd__law_next [] (dCons (dVar 1) (dCons (dC (.int 3)) dNil))) (dC (.int 1))))
  (dAsg (dCall sd__law_spoilt_samples [] (dCons (dVar 1) (dCons (dVar 2) (dCons (dVar 3) dNil)))) (gdName 3))
  dNext)
  (dSeq (dIfS (dTest (dOp dEq (dCall sd__law_next [] (dCons (dVar 1) (dCons (dC (.int 3)) dNil))) (dC (.int 1))))
  (dCallP 2 (sd__law_spoilt_facts kl) (dVar 1))
  dNext)
  (dSeq (dIfS (dTest (dOp dEq (dCall sd__law_next [] (dCons (dVar 1) (dCons (dC (.int 4)) dNil))) (dC (.int 1))))
  (dSetK 2 (PySem.Str.ofString "values") (dCall sd__law_spoilt_ends [] (dCons (dVar 1) (dCons (dKey (PySem.Str.ofString "values") (dVar 2)) dNil))))
  dNext)
  (dSeq (dIfS (dTest (dOp dEq (dCall sd__law_next [] (dCons (dVar 1) (dCons (dC (.int 4)) dNil))) (dC (.int 1))))
  (dSetK 2 (PySem.Str.ofString "keys") (dCall sd__law_spoilt_ends [] (dCons (dVar 1) (dCons (dKey (PySem.Str.ofString "keys") (dVar 2)) dNil))))
  dNext)
  (dSeq (dAsg (dCB dListOf (dCons (dVar 3) dNil)) (gdName 4))
  (dSeq (dAsg (dCall (sd__law_tried kl) [] (dCons (dVar 2) (dCons (dVar 4) dNil))) (gdName 5))
  (dRetE (dAndV (dOp dEq (dVar 5) (dCall sd__law_known_fault [] (dCons (dVar 2) (dCons (dVar 3) dNil)))) (dOp dEq (dVar 4) (dVar 3)))))))))))))
theorem pure_law (kl : Kl) : ∀ ns : List Int, ns.length ≤ 63 → d_law kl (dEnds isTrue fun _ => False) (lawEn 6 ns) := by
  intro ns _
  have e0 : lawEn 6 ns = [.dat (.lst (ns.map Dt.int)), .dat .drw, .emp, .emp, .emp, .emp] := rfl
  rw [e0]
  clear e0
  have ns0 : NoDS (Sl.dat (.lst (ns.map Dt.int))) := .lst fun d m => by
    obtain ⟨x, _, rfl⟩ := List.mem_map.mp m
    exact .v _
  generalize Sl.dat (.lst (ns.map Dt.int)) = s0 at ns0
  refine ⟨by simp, 4, rfl, by decide, fun n n0 n1 => ?_⟩
  refine kd_at4 (a := .none) (b := .pace) (c := .one) (d := .pace) n0 n1 fun kd => ?_
  refine ⟨kd, rfl, fun F hF => ?_⟩
  refine ⟨F, kd, 4, rfl, hF, by decide, fun rows hr hl => ?_⟩
  refine ⟨F, kd, rows, rfl, soft_of hF, by omega, fun d hd => ?_⟩
  rw [dueA_made hF hr hd]
  refine ⟨by simp, ?_⟩
  refine pln1 ?_
  refine dNe_self (d := toldE "made" []) (okTold _ (by decide +kernel) _ rfl) ?_
  simp only [blS, Bool.false_eq_true, reduceIte]
  unfold dNext
  refine nxN ?_
  refine if_cut (fun ρ => ∃ rs : List Pr, rs.length ≤ 5 ∧ ρ = [s0, .dat .drw, .dat (fxD F kd), .dat (.lst (rs.map prD)), .emp, .emp]) ?_ ?_
  rotate_left
  · intro K hK
    refine ⟨3, rfl, by decide, fun m _ _ => ?_⟩
    refine ⟨_, _, rfl, rfl, rfl, rfl, ?_⟩
    refine iteN (fun _ => ?_) (fun _ => hK _ ⟨rows, by omega, rfl⟩)
    exact ⟨F, kd, rows, rfl, hF, hr, by omega, fun rs h => hK _ ⟨rs, by omega, rfl⟩⟩
  rintro ρ ⟨rs, hl2, rfl⟩
  refine if_cut (fun ρ => ∃ G : Fx, Soft G kd ∧ ρ = [s0, .dat .drw, .dat (fxD G kd), .dat (.lst (rs.map prD)), .emp, .emp]) ?_ ?_
  rotate_left
  · intro K hK
    refine ⟨3, rfl, by decide, fun m _ _ => ?_⟩
    refine ⟨_, _, rfl, rfl, rfl, rfl, ?_⟩
    refine iteE (fun _ => ?_) (fun _ => hK _ ⟨F, soft_of hF, rfl⟩)
    exact ⟨.drw, fxL F kd, rfl, noD_fx F kd, others20 ns0, F, kd, rfl, rfl, hF, fun G hG => hK _ ⟨G, hG, rfl⟩⟩
  rintro ρ ⟨G, hG, rfl⟩
  refine if_cut (fun ρ => ∃ G : Fx, Soft G kd ∧ ρ = [s0, .dat .drw, .dat (fxD G kd), .dat (.lst (rs.map prD)), .emp, .emp]) ?_ ?_
  rotate_left
  · intro K hK
    refine ⟨4, rfl, by decide, fun m _ _ => ?_⟩
    refine ⟨_, _, rfl, rfl, rfl, rfl, ?_⟩
    refine iteE (fun _ => ?_) (fun _ => hK _ ⟨G, hG, rfl⟩)
    refine ⟨_, at_vals, G.v0, G.v1, rfl, fun c d => ?_⟩
    refine ⟨_, _, rfl, noD_t2 c d, rfl, noD_fx G kd, others20 ns0, (show (5 : Nat) ≤ 1000 from by decide), ?_⟩
    refine hK _ ⟨⟨G.k0, G.k1, c, d, G.s, G.f⟩, ⟨hG.so, hG.fo, hG.ord, hG.np⟩, ?_⟩
    show [s0, Sl.dat .drw, .dat (.dct (putKD (fxL G kd) (.inr ("values" : Str)) (.tup [.v (.int c), .v (.int d)]))), .dat (.lst (rs.map prD)), .emp, .emp] = _
    rw [put_vals]
    rfl
  clear hG G
  rintro ρ ⟨G, hG, rfl⟩
  refine if_cut (fun ρ => ∃ G : Fx, Soft G kd ∧ ρ = [s0, .dat .drw, .dat (fxD G kd), .dat (.lst (rs.map prD)), .emp, .emp]) ?_ ?_
  rotate_left
  · intro K hK
    refine ⟨4, rfl, by decide, fun m _ _ => ?_⟩
    refine ⟨_, _, rfl, rfl, rfl, rfl, ?_⟩
    refine iteE (fun _ => ?_) (fun _ => hK _ ⟨G, hG, rfl⟩)
    refine ⟨_, at_keys, G.k0, G.k1, rfl, fun c d => ?_⟩
    refine ⟨_, _, rfl, noD_t2 c d, rfl, noD_fx G kd, others20 ns0, (show (5 : Nat) ≤ 1000 from by decide), ?_⟩
    refine hK _ ⟨⟨c, d, G.v0, G.v1, G.s, G.f⟩, ⟨hG.so, hG.fo, hG.ord, hG.np⟩, ?_⟩
    show [s0, Sl.dat .drw, .dat (.dct (putKD (fxL G kd) (.inr ("keys" : Str)) (.tup [.v (.int c), .v (.int d)]))), .dat (.lst (rs.map prD)), .emp, .emp] = _
    rw [put_keys]
    rfl
  clear hG G
  rintro ρ ⟨G, hG, rfl⟩
  refine ⟨G, kd, rs, rfl, hG, by omega, fun d hd => ?_⟩
  refine ⟨G, kd, rs, rfl, hG, by omega, fun e he => ?_⟩
  rw [dueA_uniq he hd]
  refine dEq_self (dueA_ok hd) ?_
  exact dEq_self (okL2 rs) rfl

structure Cf (K : PySem.W.Frag) (mg : Str → Option Value) (kl : Kl) : Prop where
  g_ReadError : mg "ReadError" = some (.ref kl.ReadError)
  g_BadStretch : mg "BadStretch" = some (.ref kl.BadStretch)
  g_BadText : mg "BadText" = some (.ref kl.BadText)
  g_BadPace : mg "BadPace" = some (.ref kl.BadPace)
  g_Contradiction : mg "Contradiction" = some (.ref kl.Contradiction)
  g_NoKey : mg "NoKey" = some (.ref kl.NoKey)
  g_Impossible : mg "Impossible" = some (.ref kl.Impossible)
  g_TooMany : mg "TooMany" = some (.ref kl.TooMany)
  g_Stretches : mg "Stretches" = some (.ref kl.Stretches)
  g_Promise : mg "Promise" = some (.ref kl.Promise)
  g_OneToOne : mg "OneToOne" = some (.ref kl.OneToOne)
  g_Known : mg "Known" = some (.ref kl.Known)
  g_Pace : mg "Pace" = some (.ref kl.Pace)
  at_greatest : AtOk K [kl.Known] "greatest"
  at_least : AtOk K [kl.Known] "least"
  at_last : AtOk K [kl.Known] "last"
  at_first : AtOk K [kl.Known] "first"
  at_taught : AtOk K [kl.Known] "taught"
  at_promise : AtOk K [kl.Known] "promise"
  at_slowest : AtOk K [kl.Pace] "slowest"
  at_fastest : AtOk K [kl.Pace] "fastest"
  is_Stretches : IsTbl K kl.Stretches (is_Stretches kl)
  iss_Stretches : IsTblS K kl.Stretches (iss_Stretches kl)
  sl_pairs : SlOk K [kl.Stretches] "pairs"
  exm_ReadError : ∀ r ∈ exm_ReadError kl, PySem.W.exmOne K (.ref r.1) (.ref kl.ReadError) = some r.2
  exm_Impossible : ∀ r ∈ exm_Impossible kl, PySem.W.exmOne K (.ref r.1) (.ref kl.Impossible) = some r.2
  exm_NoKey : ∀ r ∈ exm_NoKey kl, PySem.W.exmOne K (.ref r.1) (.ref kl.NoKey) = some r.2
  exm_Contradiction : ∀ r ∈ exm_Contradiction kl, PySem.W.exmOne K (.ref r.1) (.ref kl.Contradiction) = some r.2
  exm_BadStretch : ∀ r ∈ exm_BadStretch kl, PySem.W.exmOne K (.ref r.1) (.ref kl.BadStretch) = some r.2
  isx_ValueError : IsTblX K (.ty "ValueError") (isx_ValueError kl)
  isx_ReadError : IsTblX K (.ref kl.ReadError) (isx_ReadError kl)
  xf_Impossible : XfC K kl.Impossible
  no_Impossible_value : PySem.W.findIn K (.ref kl.Impossible) "value" = some none
  no_Impossible_key : PySem.W.findIn K (.ref kl.Impossible) "key" = some none
  xf_NoKey : XfC K kl.NoKey
  no_NoKey_key : PySem.W.findIn K (.ref kl.NoKey) "key" = some none
  xf_BadStretch : XfC K kl.BadStretch
  no_BadStretch_high : PySem.W.findIn K (.ref kl.BadStretch) "high" = some none
  no_BadStretch_low : PySem.W.findIn K (.ref kl.BadStretch) "low" = some none
def top (i : Nat) : Stmt := PySem.Challenge.pw_stretchesread_k20_refused_known.main.body.getD i (.Pass ⟨0, 0, 0, 0⟩)
structure Bi (mg : Str → Option Value) : Prop where
  int : mg "int" = none
  len : mg "len" = none
  min : mg "min" = none
  range : mg "range" = none
  abs : mg "abs" = none
  sorted : mg "sorted" = none
  max : mg "max" = none
  tuple : mg "tuple" = none
  str : mg "str" = none
  isinstance : mg "isinstance" = none
  list : mg "list" = none
  ValueError : mg "ValueError" = none
structure Cs (mg : Str → Option Value) : Prop where
  LIMIT_stretches : ∃ t, mg "LIMIT_stretches" = some (.int 1000000000000000000 t)
  DIGITS : ∃ t, mg "DIGITS" = some (.str (PySem.Str.ofString "0123456789") t)
  MOST_SAMPLES : ∃ t, mg "MOST_SAMPLES" = some (.int 40 t)
section
variable {P : Program} {w : World} {K : PySem.W.Frag} {mg : Str → Option Value} {base : Heap}
theorem mx_BadStretch {f fc : Addr} {fcl : List (Str × Addr)} {fd : FuncData} {kl : Kl} (Z : FunX P K ⟨"__init__", "BadStretch.__init__", defArgs (inClass (top 3) 0), defBody (inClass (top 3) 0), defScope (inClass (top 3) 0), fcl, fc⟩ kl.BadStretch f fd) (T : OexC K kl.BadStretch) (hi : PySem.W.findIn K (.ref kl.BadStretch) "__init__" = some (some (.ref f))) (ht : PySem.W.typeIn K (.ref f) = some (.type "function")) (hm : mg "BadStretch" = some (.ref kl.BadStretch)) (Sv : SupE K kl.BadStretch kl.BadStretch) (n1 : PySem.W.findIn K (.ref kl.BadStretch) "low" = some none) (n2 : PySem.W.findIn K (.ref kl.BadStretch) "high" = some none) : ExcMk P w K mg base 1 "BadStretch" kl.BadStretch ["low", "high"] :=
  excMk2 (N := ["self", "low", "high", "__class__"]) Z (NdefX.nscope_by (show NdefX.nscB ["self", "low", "high", "__class__"] ["self", "low", "high"] ["__class__"] (defScope (inClass (top 3) 0)) = true from by decide +kernel)) (by decide) T hi ht hm Sv n1 n2 (fun _ _ _ _ _ us hl => match us, hl with | [_, _, _], _ => rfl) (fun A outer s H E => pssa_cons (psa_expr (pea_svE ⟨⟨_, rfl⟩, ⟨_, Z⟩, (show List.lookup ("super" : Str) (defScope (inClass (top 3) 0)).names = some .globalImplicit from by decide +kernel), (show List.lookup ("__class__" : Str) (defScope (inClass (top 3) 0)).names = some .free from by decide +kernel), ⟨_, rfl, rfl, (show List.lookup ("self" : Str) (defScope (inClass (top 3) 0)).names = some .local from by decide +kernel)⟩, (show (defScope (inClass (top 3) 0)).kind = .function from by decide +kernel)⟩ (pa_cons pe_str pa_nil))) (pssa_of (pss_cons (ps_ost (pv 0) (pv 1)) (pss_one (ps_ost (pv 0) (pv 2))))))
theorem mx_BadPace {f fc : Addr} {fcl : List (Str × Addr)} {fd : FuncData} {kl : Kl} (Z : FunX P K ⟨"__init__", "BadPace.__init__", defArgs (inClass (top 5) 0), defBody (inClass (top 5) 0), defScope (inClass (top 5) 0), fcl, fc⟩ kl.BadPace f fd) (T : OexC K kl.BadPace) (hi : PySem.W.findIn K (.ref kl.BadPace) "__init__" = some (some (.ref f))) (ht : PySem.W.typeIn K (.ref f) = some (.type "function")) (hm : mg "BadPace" = some (.ref kl.BadPace)) (Sv : SupE K kl.BadPace kl.BadPace) (n1 : PySem.W.findIn K (.ref kl.BadPace) "slowest" = some none) (n2 : PySem.W.findIn K (.ref kl.BadPace) "fastest" = some none) : ExcMk P w K mg base 1 "BadPace" kl.BadPace ["slowest", "fastest"] :=
  excMk2 (N := ["self", "slowest", "fastest", "__class__"]) Z (NdefX.nscope_by (show NdefX.nscB ["self", "slowest", "fastest", "__class__"] ["self", "slowest", "fastest"] ["__class__"] (defScope (inClass (top 5) 0)) = true from by decide +kernel)) (by decide) T hi ht hm Sv n1 n2 (fun _ _ _ _ _ us hl => match us, hl with | [_, _, _], _ => rfl) (fun A outer s H E => pssa_cons (psa_expr (pea_svE ⟨⟨_, rfl⟩, ⟨_, Z⟩, (show List.lookup ("super" : Str) (defScope (inClass (top 5) 0)).names = some .globalImplicit from by decide +kernel), (show List.lookup ("__class__" : Str) (defScope (inClass (top 5) 0)).names = some .free from by decide +kernel), ⟨_, rfl, rfl, (show List.lookup ("self" : Str) (defScope (inClass (top 5) 0)).names = some .local from by decide +kernel)⟩, (show (defScope (inClass (top 5) 0)).kind = .function from by decide +kernel)⟩ (pa_cons pe_str pa_nil))) (pssa_of (pss_cons (ps_ost (pv 0) (pv 1)) (pss_one (ps_ost (pv 0) (pv 2))))))
theorem mx_NoKey {f fc : Addr} {fcl : List (Str × Addr)} {fd : FuncData} {kl : Kl} (Z : FunX P K ⟨"__init__", "NoKey.__init__", defArgs (inClass (top 7) 0), defBody (inClass (top 7) 0), defScope (inClass (top 7) 0), fcl, fc⟩ kl.NoKey f fd) (T : OexC K kl.NoKey) (hi : PySem.W.findIn K (.ref kl.NoKey) "__init__" = some (some (.ref f))) (ht : PySem.W.typeIn K (.ref f) = some (.type "function")) (hm : mg "NoKey" = some (.ref kl.NoKey)) (Sv : SupE K kl.NoKey kl.NoKey) (n1 : PySem.W.findIn K (.ref kl.NoKey) "key" = some none) : ExcMk P w K mg base 1 "NoKey" kl.NoKey ["key"] :=
  excMk1 (N := ["self", "key", "__class__"]) Z (NdefX.nscope_by (show NdefX.nscB ["self", "key", "__class__"] ["self", "key"] ["__class__"] (defScope (inClass (top 7) 0)) = true from by decide +kernel)) (by decide) T hi ht hm Sv n1 (fun _ _ _ _ _ us hl => match us, hl with | [_, _], _ => rfl) (fun A outer s H E => pssa_cons (psa_expr (pea_svE ⟨⟨_, rfl⟩, ⟨_, Z⟩, (show List.lookup ("super" : Str) (defScope (inClass (top 7) 0)).names = some .globalImplicit from by decide +kernel), (show List.lookup ("__class__" : Str) (defScope (inClass (top 7) 0)).names = some .free from by decide +kernel), ⟨_, rfl, rfl, (show List.lookup ("self" : Str) (defScope (inClass (top 7) 0)).names = some .local from by decide +kernel)⟩, (show (defScope (inClass (top 7) 0)).kind = .function from by decide +kernel)⟩ (pa_cons pe_str pa_nil))) (pssa_of (pss_one (ps_ost (pv 0) (pv 1)))))
theorem mx_Impossible {f fc : Addr} {fcl : List (Str × Addr)} {fd : FuncData} {kl : Kl} (Z : FunX P K ⟨"__init__", "Impossible.__init__", defArgs (inClass (top 8) 0), defBody (inClass (top 8) 0), defScope (inClass (top 8) 0), fcl, fc⟩ kl.Impossible f fd) (T : OexC K kl.Impossible) (hi : PySem.W.findIn K (.ref kl.Impossible) "__init__" = some (some (.ref f))) (ht : PySem.W.typeIn K (.ref f) = some (.type "function")) (hm : mg "Impossible" = some (.ref kl.Impossible)) (Sv : SupE K kl.Impossible kl.Impossible) (n1 : PySem.W.findIn K (.ref kl.Impossible) "key" = some none) (n2 : PySem.W.findIn K (.ref kl.Impossible) "value" = some none) : ExcMk P w K mg base 1 "Impossible" kl.Impossible ["key", "value"] :=
  excMk2 (N := ["self", "key", "value", "__class__"]) Z (NdefX.nscope_by (show NdefX.nscB ["self", "key", "value", "__class__"] ["self", "key", "value"] ["__class__"] (defScope (inClass (top 8) 0)) = true from by decide +kernel)) (by decide) T hi ht hm Sv n1 n2 (fun _ _ _ _ _ us hl => match us, hl with | [_, _, _], _ => rfl) (fun A outer s H E => pssa_cons (psa_expr (pea_svE ⟨⟨_, rfl⟩, ⟨_, Z⟩, (show List.lookup ("super" : Str) (defScope (inClass (top 8) 0)).names = some .globalImplicit from by decide +kernel), (show List.lookup ("__class__" : Str) (defScope (inClass (top 8) 0)).names = some .free from by decide +kernel), ⟨_, rfl, rfl, (show List.lookup ("self" : Str) (defScope (inClass (top 8) 0)).names = some .local from by decide +kernel)⟩, (show (defScope (inClass (top 8) 0)).kind = .function from by decide +kernel)⟩ (pa_cons pe_str pa_nil))) (pssa_of (pss_cons (ps_ost (pv 0) (pv 1)) (pss_one (ps_ost (pv 0) (pv 2))))))
theorem mx_TooMany {f fc : Addr} {fcl : List (Str × Addr)} {fd : FuncData} {kl : Kl} (Z : FunX P K ⟨"__init__", "TooMany.__init__", defArgs (inClass (top 9) 0), defBody (inClass (top 9) 0), defScope (inClass (top 9) 0), fcl, fc⟩ kl.TooMany f fd) (T : OexC K kl.TooMany) (hi : PySem.W.findIn K (.ref kl.TooMany) "__init__" = some (some (.ref f))) (ht : PySem.W.typeIn K (.ref f) = some (.type "function")) (hm : mg "TooMany" = some (.ref kl.TooMany)) (Sv : SupE K kl.TooMany kl.TooMany) (n1 : PySem.W.findIn K (.ref kl.TooMany) "limit" = some none) : ExcMk P w K mg base 1 "TooMany" kl.TooMany ["limit"] :=
  excMk1 (N := ["self", "limit", "__class__"]) Z (NdefX.nscope_by (show NdefX.nscB ["self", "limit", "__class__"] ["self", "limit"] ["__class__"] (defScope (inClass (top 9) 0)) = true from by decide +kernel)) (by decide) T hi ht hm Sv n1 (fun _ _ _ _ _ us hl => match us, hl with | [_, _], _ => rfl) (fun A outer s H E => pssa_cons (psa_expr (pea_svE ⟨⟨_, rfl⟩, ⟨_, Z⟩, (show List.lookup ("super" : Str) (defScope (inClass (top 9) 0)).names = some .globalImplicit from by decide +kernel), (show List.lookup ("__class__" : Str) (defScope (inClass (top 9) 0)).names = some .free from by decide +kernel), ⟨_, rfl, rfl, (show List.lookup ("self" : Str) (defScope (inClass (top 9) 0)).names = some .local from by decide +kernel)⟩, (show (defScope (inClass (top 9) 0)).kind = .function from by decide +kernel)⟩ (pa_cons pe_str pa_nil))) (pssa_of (pss_one (ps_ost (pv 0) (pv 1)))))
theorem sc_joined : FnScope ["rows", "result", "low", "high", "before"] ["rows"] (defScope (top 13)) := ⟨rfl, rfl, rfl, by decide +kernel, rfl, by decide +kernel, by decide +kernel⟩
theorem fk_joined (D : DefAt K mg "joined" (top 13)) (bi : Bi mg) : Fnk P w K mg base "joined" 1 ["rows"] [] [] sd_joined :=
  fnk_by (k := 0) (N := ["rows", "result", "low", "high", "before"]) (ds := d_joined) D sc_joined len_joined (fun _ _ _ _ _ _ us hl => match us, hl with | [_], _ => rfl) (fun X W f cdv A outer s H E eX eW tk po hr hu nd => ⟨_, (dss_cons (ds_own 1 nd da_nil)
      (dss_cons (ds_for po rfl (di_seq (de_cb cr_sortT sc_sortP (by rfl) bi.sorted (by decide +kernel) (da_cons (de_var 0) da_nil))) (dg_sq rfl (dgs_cons (dg_name 2 nd) (dgs_cons (dg_name 3 nd) dgs_nil)))
      (dss_one (ds_if (dt_w (dw_and (dt_tru (de_var 1)) (dw_and1 (dt_cmp op_le sr_I0 (de_var 2) (de_add (de_ix ix_S sr_ix (de_ix ix_S sr_ix (de_var 1) (de_neg de_int) (fun _ _ => rfl)) de_int (fun _ _ => rfl)) de_int) (nomark _)))))
      (dss_cons (ds_pop 1 4 nd)
      (dss_one (ds_app 1 (de_tup (da_cons (de_ix ix_S sr_ix (de_var 4) de_int (fun _ _ => rfl)) (da_cons (de_cb (call_max2 rfl) sc_max2 (by rfl) bi.max (by decide +kernel) (da_cons (de_ix ix_S sr_ix (de_var 4) de_int (fun _ _ => rfl)) (da_cons (de_var 3) da_nil))) da_nil))))))
      (dss_one (ds_app 1 (de_tup (da_cons (de_var 2) (da_cons (de_var 3) da_nil))))))))
      (dss_frz 1 (dss_one (ds_ret (de_ct call_tupleS sc_tuple (by rfl) bi.tuple (by decide +kernel) (da_cons (de_var 1) da_nil)))))))⟩) pure_joined
theorem sc_common : FnScope ["left", "right", "result", "i", "j", "low", "high"] ["left", "right"] (defScope (top 14)) := ⟨rfl, rfl, rfl, by decide +kernel, rfl, by decide +kernel, by decide +kernel⟩
theorem fk_common (D : DefAt K mg "common" (top 14)) (bi : Bi mg) : Fnk P w K mg base "common" 1 ["left", "right"] [] [] sd_common :=
  fnk_by (k := 0) (N := ["left", "right", "result", "i", "j", "low", "high"]) (ds := d_common) D sc_common len_common (fun _ _ _ _ _ _ us hl => match us, hl with | [_, _], _ => rfl) (fun X W f cdv A outer s H E eX eW tk po hr hu nd => ⟨_, (dss_cons (ds_own 2 nd da_nil)
      (dss_cons (ds_asg de_int (dg_name 3 nd))
      (dss_cons (ds_asg de_int (dg_name 4 nd))
      (dss_cons (ds_while po (dt_w (dw_and (dt_cmp op_lt sr_I0 (de_var 3) (de_cb call_lenA sc_len (by rfl) bi.len (by decide +kernel) (da_cons (de_var 0) da_nil)) (nomark _)) (dw_and1 (dt_cmp op_lt sr_I0 (de_var 4) (de_cb call_lenA sc_len (by rfl) bi.len (by decide +kernel) (da_cons (de_var 1) da_nil)) (nomark _)))))
      (dss_cons (ds_asg (de_cb (call_max2 rfl) sc_max2 (by rfl) bi.max (by decide +kernel) (da_cons (de_ix ix_S sr_ix (de_ix ix_S sr_ix (de_var 0) (de_var 3) (fun _ _ => rfl)) de_int (fun _ _ => rfl)) (da_cons (de_ix ix_S sr_ix (de_ix ix_S sr_ix (de_var 1) (de_var 4) (fun _ _ => rfl)) de_int (fun _ _ => rfl)) da_nil))) (dg_name 5 nd))
      (dss_cons (ds_asg (de_cb (call_min2 rfl) sc_min2 (by rfl) bi.min (by decide +kernel) (da_cons (de_ix ix_S sr_ix (de_ix ix_S sr_ix (de_var 0) (de_var 3) (fun _ _ => rfl)) de_int (fun _ _ => rfl)) (da_cons (de_ix ix_S sr_ix (de_ix ix_S sr_ix (de_var 1) (de_var 4) (fun _ _ => rfl)) de_int (fun _ _ => rfl)) da_nil))) (dg_name 6 nd))
      (dss_cons (ds_if (dt_cmp op_le sr_I0 (de_var 5) (de_var 6) (nomark _))
      (dss_one (ds_app 2 (de_tup (da_cons (de_var 5) (da_cons (de_var 6) da_nil)))))
      dss_nil)
      (dss_one (ds_if (dt_cmp op_lt sr_I0 (de_ix ix_S sr_ix (de_ix ix_S sr_ix (de_var 0) (de_var 3) (fun _ _ => rfl)) de_int (fun _ _ => rfl)) (de_ix ix_S sr_ix (de_ix ix_S sr_ix (de_var 1) (de_var 4) (fun _ _ => rfl)) de_int (fun _ _ => rfl)) (nomark _))
      (dss_one (ds_asg (de_add (de_var 3) de_int) (dg_name 3 nd)))
      (dss_one (ds_asg (de_add (de_var 4) de_int) (dg_name 4 nd)))))))))
      (dss_one (ds_retv 2))))))⟩) pure_common
theorem sc_gaps : FnScope ["pairs", "result", "start", "low", "high"] ["pairs"] (defScope (top 15)) := ⟨rfl, rfl, rfl, by decide +kernel, rfl, by decide +kernel, by decide +kernel⟩
theorem fk_gaps (D : DefAt K mg "gaps" (top 15)) (bi : Bi mg) (cs : Cs mg) : Fnk P w K mg base "gaps" 1 ["pairs"] [] [] sd_gaps :=
  fnk_by (k := 0) (N := ["pairs", "result", "start", "low", "high"]) (ds := d_gaps) D sc_gaps len_gaps (fun _ _ _ _ _ _ us hl => match us, hl with | [_], _ => rfl) (fun X W f cdv A outer s H E eX eW tk po hr hu nd => ⟨_, (dss_cons (ds_own 1 nd da_nil)
      (dss_cons (ds_asg (de_neg (de_globI (by rfl) cs.LIMIT_stretches)) (dg_name 2 nd))
      (dss_cons (ds_for po rfl (di_seq (de_var 0)) (dg_sq rfl (dgs_cons (dg_name 3 nd) (dgs_cons (dg_name 4 nd) dgs_nil)))
      (dss_cons (ds_if (dt_cmp op_lt sr_I0 (de_var 2) (de_var 3) (nomark _))
      (dss_one (ds_app 1 (de_tup (da_cons (de_var 2) (da_cons (de_sub (de_var 3) de_int) da_nil)))))
      dss_nil)
      (dss_one (ds_asg (de_add (de_var 4) de_int) (dg_name 2 nd)))))
      (dss_cons (ds_if (dt_cmp op_le sr_I0 (de_var 2) (de_globI (by rfl) cs.LIMIT_stretches) (nomark _))
      (dss_one (ds_app 1 (de_tup (da_cons (de_var 2) (da_cons (de_globI (by rfl) cs.LIMIT_stretches) da_nil)))))
      dss_nil)
      (dss_one (ds_retv 1))))))⟩) pure_gaps
theorem sc_check_ends : FnScope ["low", "high"] ["low", "high"] (defScope (top 25)) := ⟨rfl, rfl, rfl, by decide +kernel, rfl, by decide +kernel, by decide +kernel⟩
theorem fk_check_ends {kl : Kl} (D : DefAt K mg "check_ends" (top 25)) (bi : Bi mg) (cs : Cs mg) (cf : Cf K mg kl) (x_BadStretch : ExcMk P w K mg base 1 "BadStretch" (kl).BadStretch ["low", "high"]) : Fnk P w K mg base "check_ends" 3 ["low", "high"] [] [] (sd_check_ends kl) :=
  fnk_by (k := 2) (N := ["low", "high"]) (ds := d_check_ends kl) D sc_check_ends (len_check_ends kl) (fun _ _ _ _ _ _ us hl => match us, hl with | [_, _], _ => rfl) (fun X W f cdv A outer s H E eX eW tk po hr hu nd => ⟨_, (dss_one (ds_if (dt_w (dw_or (dt_cmp op_lt sr_I0 (de_var 0) (de_neg (de_globI (by rfl) cs.LIMIT_stretches)) (nomark _)) (dw_or (dt_cmp op_gt sr_I0 (de_var 1) (de_globI (by rfl) cs.LIMIT_stretches) (nomark _)) (dw_or1 (dt_cmp op_gt sr_I0 (de_var 0) (de_var 1) (nomark _))))))
      (dss_one (ds_raise x_BadStretch rfl tk (hr.mono (by decide)) (by rfl) (da_cons (de_var 0) (da_cons (de_var 1) da_nil))))
      dss_nil))⟩) (pure_check_ends kl)
theorem sc_outside : FnScope ["number"] ["number"] (defScope (top 30)) := ⟨rfl, rfl, rfl, by decide +kernel, rfl, by decide +kernel, by decide +kernel⟩
theorem fk_outside (D : DefAt K mg "outside" (top 30)) (bi : Bi mg) (cs : Cs mg) : Fnk P w K mg base "outside" 1 ["number"] [] [] sd_outside :=
  fnk_by (k := 0) (N := ["number"]) (ds := d_outside) D sc_outside len_outside (fun _ _ _ _ _ _ us hl => match us, hl with | [_], _ => rfl) (fun X W f cdv A outer s H E eX eW tk po hr hu nd => ⟨_, (dss_one (ds_ret (de_and (de_cmp op_notN sr_notN (de_var 0) de_non (nomark _)) (de_oneA (de_or (de_cmp op_lt sr_I0 (de_var 0) (de_neg (de_globI (by rfl) cs.LIMIT_stretches)) (nomark _)) (de_oneO (de_cmp op_gt sr_I0 (de_var 0) (de_globI (by rfl) cs.LIMIT_stretches) (nomark _))))))))⟩) pure_outside
theorem sc_height : FnScope ["line", "key", "at", "value", "slope"] ["line", "key"] (defScope (top 28)) := ⟨rfl, rfl, rfl, by decide +kernel, rfl, by decide +kernel, by decide +kernel⟩
theorem fk_height (D : DefAt K mg "height" (top 28)) (bi : Bi mg) : Fnk P w K mg base "height" 1 ["line", "key"] [] [] sd_height :=
  fnk_by (k := 0) (N := ["line", "key", "at", "value", "slope"]) (ds := d_height) D sc_height len_height (fun _ _ _ _ _ _ us hl => match us, hl with | [_, _], _ => rfl) (fun X W f cdv A outer s H E eX eW tk po hr hu nd => ⟨_, (dss_cons (ds_asg (de_var 0) (dg_sq rfl (dgs_cons (dg_name 2 nd) (dgs_cons (dg_name 3 nd) (dgs_cons (dg_name 4 nd) dgs_nil)))))
      (dss_one (ds_ret (de_add (de_var 3) (de_mul (de_var 4) (de_sub (de_var 1) (de_var 2)))))))⟩) pure_height
theorem sc_Stretches___init__ : FnScope ["self", "pairs", "rows", "low", "high"] ["self", "pairs"] (defScope (inClass (top 19) 2)) := ⟨rfl, rfl, rfl, by decide +kernel, rfl, by decide +kernel, by decide +kernel⟩
theorem ms_Stretches___init__ {f : Addr} {fd : FuncData} {kl : Kl} (F : FunD K "__init__" "Stretches.__init__" (defArgs (inClass (top 19) 2)) (defBody (inClass (top 19) 2)) (defScope (inClass (top 19) 2)) [V.ref (He.dflAt ("Stretches", some "__init__") 0 K)] [] f fd) (bi : Bi mg) (cs : Cs mg) (c_joined : Fnk P w K mg base "joined" 1 ["rows"] [] [] sd_joined) (cf : Cf K mg kl) (x_BadStretch : ExcMk P w K mg base 1 "BadStretch" (kl).BadStretch ["low", "high"]) : FnOk P w K mg base (L2.CX P w) 3 f fd ["self", "pairs"] (spInS K kl.Stretches (sd_Stretches___init__ kl)) :=
  slnok_by (k := 2) (y := "self") (N := ["pairs", "rows", "low", "high"]) (ds := d_Stretches___init__ kl) F sc_Stretches___init__ (len_Stretches___init__ kl) (fun X W f cdv A outer s H E eX eW tk po hr hu nd => ⟨_, (dssb_cons (ds_own 2 nd da_nil)
      (dssb_cons (ds_for po rfl (di_seq (de_var 1)) (dg_sq rfl (dgs_cons (dg_name 3 nd) (dgs_cons (dg_name 4 nd) dgs_nil)))
      (dss_cons (ds_if (dt_w (dw_or (dt_cmp op_lt sr_I0 (de_var 3) (de_neg (de_globI (by rfl) cs.LIMIT_stretches)) (nomark _)) (dw_or (dt_cmp op_gt sr_I0 (de_var 4) (de_globI (by rfl) cs.LIMIT_stretches) (nomark _)) (dw_or1 (dt_cmp op_gt sr_I0 (de_var 3) (de_var 4) (nomark _))))))
      (dss_one (ds_raise x_BadStretch rfl tk (hr.mono (by decide)) (by rfl) (da_cons (de_var 3) (da_cons (de_var 4) da_nil))))
      dss_nil)
      (dss_one (ds_app 2 (de_tup (da_cons (de_var 3) (da_cons (de_var 4) da_nil)))))))
      (dssb_frz 2 (dssb_slf cf.sl_pairs (de_callF c_joined tk (hr.mono (by decide)) (by rfl) (da_cons (de_var 2) da_nil))))))⟩) (pure_Stretches___init__ kl)
theorem bo_Stretches___init__ {f : Addr} {fd : FuncData} (F : FunD K "__init__" "Stretches.__init__" (defArgs (inClass (top 19) 2)) (defBody (inClass (top 19) 2)) (defScope (inClass (top 19) 2)) [V.ref (He.dflAt ("Stretches", some "__init__") 0 K)] [] f fd) : Binds K fd ["self", "pairs"] [] := binds_of0 (FunD.binds1 F 2 1 (by simp) rfl (fun _ _ _ _ _ _ _ us its hl hi => match us, its, hl, hi with | [_, _], [_], _, _ => ⟨_, rfl, rfl⟩))
theorem sc_Stretches___contains__ : FnScope ["self", "number", "low", "high"] ["self", "number"] (defScope (inClass (top 19) 7)) := ⟨rfl, rfl, rfl, by decide +kernel, rfl, by decide +kernel, by decide +kernel⟩
theorem mf_Stretches___contains__ {f : Addr} {fd : FuncData} {kl : Kl} (F : FunD K "__contains__" "Stretches.__contains__" (defArgs (inClass (top 19) 7)) (defBody (inClass (top 19) 7)) (defScope (inClass (top 19) 7)) [] [] f fd) (bi : Bi mg) (cf : Cf K mg kl) : FnOk P w K mg base (L2.CX P w) 1 f fd ["self", "number"] (spOf K (sd_Stretches___contains__ kl)) ∧ Binds K fd ["self", "number"] [] :=
  mfn_by (k := 0) (N := ["self", "number", "low", "high"]) (ds := d_Stretches___contains__ kl) F sc_Stretches___contains__ (by intro as Q E h; obtain ⟨_, _, rfl, _⟩ := h; rfl) (fun _ _ _ _ _ _ us hl => match us, hl with | [_, _], _ => rfl) (fun X W f cdv A outer s H E eX eW tk po hr hu nd => ⟨_, (dss_cons (ds_for po rfl (di_seq (de_slA cf.sl_pairs (de_var 0))) (dg_sq rfl (dgs_cons (dg_name 2 nd) (dgs_cons (dg_name 3 nd) dgs_nil)))
      (dss_one (ds_if (dt_chain op_le op_le sr_I0 sr_I0 (de_var 2) (de_var 1) (de_var 3))
      (dss_one (ds_ret de_bl))
      dss_nil)))
      (dss_one (ds_ret de_bl)))⟩) (pure_Stretches___contains__ kl)
theorem sc_Stretches___sub__ : FnScope ["self", "other"] ["self", "other"] (defScope (inClass (top 19) 11)) := ⟨rfl, rfl, rfl, by decide +kernel, rfl, by decide +kernel, by decide +kernel⟩
theorem mf_Stretches___sub__ {f : Addr} {fd : FuncData} {kl : Kl} (F : FunD K "__sub__" "Stretches.__sub__" (defArgs (inClass (top 19) 11)) (defBody (inClass (top 19) 11)) (defScope (inClass (top 19) 11)) [] [] f fd) (bi : Bi mg) (c_gaps : Fnk P w K mg base "gaps" 1 ["pairs"] [] [] sd_gaps) (c_common : Fnk P w K mg base "common" 1 ["left", "right"] [] [] sd_common) (cf : Cf K mg kl) (kl_Stretches : MakeSl P w K mg base 3 "Stretches" (kl).Stretches (sd_Stretches___init__ kl)) : FnOk P w K mg base (L2.CX P w) 5 f fd ["self", "other"] (spOf K (sd_Stretches___sub__ kl)) ∧ Binds K fd ["self", "other"] [] :=
  mfn_by (k := 4) (N := ["self", "other"]) (ds := d_Stretches___sub__ kl) F sc_Stretches___sub__ (by intro as Q E h; obtain ⟨_, _, rfl, _⟩ := h; rfl) (fun _ _ _ _ _ _ us hl => match us, hl with | [_, _], _ => rfl) (fun X W f cdv A outer s H E eX eW tk po hr hu nd => ⟨_, (dss_one (ds_ret (de_makeSl kl_Stretches tk (hr.mono (by decide)) (by rfl) (da_cons (de_callF c_common tk (hr.mono (by decide)) (by rfl) (da_cons (de_slA cf.sl_pairs (de_var 0)) (da_cons (de_callF c_gaps tk (hr.mono (by decide)) (by rfl) (da_cons (de_slA cf.sl_pairs (de_var 1)) da_nil)) da_nil))) da_nil))))⟩) (pure_Stretches___sub__ kl)
theorem sc_Pace___init__ : FnScope ["self", "slowest", "fastest"] ["self", "slowest", "fastest"] (defScope (inClass (top 31) 0)) := ⟨rfl, rfl, rfl, by decide +kernel, rfl, by decide +kernel, by decide +kernel⟩
theorem mi0_Pace___init__ {f : Addr} {fd : FuncData} {kl : Kl} (F : FunD K "__init__" "Pace.__init__" (defArgs (inClass (top 31) 0)) (defBody (inClass (top 31) 0)) (defScope (inClass (top 31) 0)) [V.non, V.non] [] f fd) (bi : Bi mg) (c_outside : Fnk P w K mg base "outside" 1 ["number"] [] [] sd_outside) (cf : Cf K mg kl) (x_BadPace : ExcMk P w K mg base 1 "BadPace" (kl).BadPace ["slowest", "fastest"]) : FnOk P w K mg base (L2.CX P w) 3 f fd ["self", "slowest", "fastest"] (spIn K kl.Pace (sd_Pace___init__ kl)) :=
  inokD_by (k := 2) (y := "self") (N := ["slowest", "fastest"]) (ds := d_Pace___init__ kl) F sc_Pace___init__ (by intro as Q E h; obtain ⟨_, _, rfl, _⟩ := h; rfl) (fun X W f cdv A outer s H E eX eW tk po hr hu nd => ⟨_, (dss_cons (ds_if (dt_w (dw_or (dt_tru (de_callF c_outside tk (hr.mono (by decide)) (by rfl) (da_cons (de_var 1) da_nil))) (dw_or1 (dt_tru (de_callF c_outside tk (hr.mono (by decide)) (by rfl) (da_cons (de_var 2) da_nil))))))
      (dss_one (ds_raise x_BadPace rfl tk (hr.mono (by decide)) (by rfl) (da_cons (de_var 1) (da_cons (de_var 2) da_nil))))
      dss_nil)
      (dss_cons (ds_if (dt_w (dw_and (dt_cmp op_notN sr_notN (de_var 1) de_non (nomark _)) (dw_and (dt_cmp op_notN sr_notN (de_var 2) de_non (nomark _)) (dw_and1 (dt_cmp op_gt sr_I0 (de_var 1) (de_var 2) (nomark _))))))
      (dss_one (ds_raise x_BadPace rfl tk (hr.mono (by decide)) (by rfl) (da_cons (de_var 1) (da_cons (de_var 2) da_nil))))
      dss_nil)
      (dss_cons (ds_fld cf.at_slowest 0 (de_var 1))
      (dss_one (ds_fld cf.at_fastest 0 (de_var 2))))))⟩) (pure_Pace___init__ kl)
theorem bo_Pace___init__ {f : Addr} {fd : FuncData} (F : FunD K "__init__" "Pace.__init__" (defArgs (inClass (top 31) 0)) (defBody (inClass (top 31) 0)) (defScope (inClass (top 31) 0)) [V.non, V.non] [] f fd) : Binds K fd ["self", "slowest", "fastest"] [] := binds_of0 (FunD.binds1 F 3 2 (by simp) rfl (fun _ _ _ _ _ _ _ us its hl hi => match us, its, hl, hi with | [_, _, _], [_, _], _, _ => ⟨_, rfl, rfl⟩))
theorem sc_Promise_exists : FnScope ["self", "known"] ["self", "known"] (defScope (inClass (top 21) 1)) := ⟨rfl, rfl, rfl, by decide +kernel, rfl, by decide +kernel, by decide +kernel⟩
theorem mo_Promise_exists {f : Addr} {fd : FuncData} {kl : Kl} {C : Addr} (F : FunD K "exists" "Promise.exists" (defArgs (inClass (top 21) 1)) (defBody (inClass (top 21) 1)) (defScope (inClass (top 21) 1)) [] [] f fd) (cl : Cls K C) (hm : Meth K C "exists" f) (bi : Bi mg) : MOk P w K mg base 1 "exists" C (sd_Promise_exists kl) :=
  mok_by (k := 0) (N := ["self", "known"]) (ds := d_Promise_exists) F cl hm sc_Promise_exists (by intro as Q E h; obtain ⟨_, rfl, _⟩ := h; rfl) (fun _ _ _ _ _ _ us hl => match us, hl with | [_, _], _ => rfl) (fun X W f cdv A outer s H E eX eW tk po hr hu nd => ⟨_, (dss_one (ds_ret de_bl))⟩) (pure_Promise_exists kl)
theorem sc_OneToOne_exists : FnScope ["self", "known"] ["self", "known"] (defScope (inClass (top 22) 1)) := ⟨rfl, rfl, rfl, by decide +kernel, rfl, by decide +kernel, by decide +kernel⟩
theorem mo_OneToOne_exists {f : Addr} {fd : FuncData} {kl : Kl} {C : Addr} (F : FunD K "exists" "OneToOne.exists" (defArgs (inClass (top 22) 1)) (defBody (inClass (top 22) 1)) (defScope (inClass (top 22) 1)) [] [] f fd) (cl : Cls K C) (hm : Meth K C "exists" f) (bi : Bi mg) (cf : Cf K mg kl) : MOk P w K mg base 1 "exists" C (sd_OneToOne_exists kl) :=
  mok_by (k := 0) (N := ["self", "known"]) (ds := d_OneToOne_exists kl) F cl hm sc_OneToOne_exists (by intro as Q E h; obtain ⟨_, rfl, _⟩ := h; rfl) (fun _ _ _ _ _ _ us hl => match us, hl with | [_, _], _ => rfl) (fun X W f cdv A outer s H E eX eW tk po hr hu nd => ⟨_, (dss_one (ds_ret (de_cmp op_le sr_I0 (de_sub (de_at cf.at_last (de_var 1)) (de_at cf.at_first (de_var 1))) (de_sub (de_at cf.at_greatest (de_var 1)) (de_at cf.at_least (de_var 1))) (nomark _))))⟩) (pure_OneToOne_exists kl)
theorem sc_Pace_exists : FnScope ["self", "known", "span", "room"] ["self", "known"] (defScope (inClass (top 31) 4)) := ⟨rfl, rfl, rfl, by decide +kernel, rfl, by decide +kernel, by decide +kernel⟩
theorem mo_Pace_exists {f : Addr} {fd : FuncData} {kl : Kl} {C : Addr} (F : FunD K "exists" "Pace.exists" (defArgs (inClass (top 31) 4)) (defBody (inClass (top 31) 4)) (defScope (inClass (top 31) 4)) [] [] f fd) (cl : Cls K C) (hm : Meth K C "exists" f) (bi : Bi mg) (cf : Cf K mg kl) : MOk P w K mg base 1 "exists" C (sd_Pace_exists kl) :=
  mok_by (k := 0) (N := ["self", "known", "span", "room"]) (ds := d_Pace_exists kl) F cl hm sc_Pace_exists (by intro as Q E h; obtain ⟨_, _, _, rfl, _⟩ := h; rfl) (fun _ _ _ _ _ _ us hl => match us, hl with | [_, _], _ => rfl) (fun X W f cdv A outer s H E eX eW tk po hr hu nd => ⟨_, (dss_cons (ds_asg (de_sub (de_at cf.at_last (de_var 1)) (de_at cf.at_first (de_var 1))) (dg_name 2 nd))
      (dss_cons (ds_asg (de_sub (de_at cf.at_greatest (de_var 1)) (de_at cf.at_least (de_var 1))) (dg_name 3 nd))
      (dss_cons (ds_if (dt_w (dw_and (dt_cmp op_notN sr_notN (de_at cf.at_slowest (de_var 0)) de_non (nomark _)) (dw_and1 (dt_cmp op_gt sr_I0 (de_mul (de_at cf.at_slowest (de_var 0)) (de_var 2)) (de_var 3) (nomark _)))))
      (dss_one (ds_ret de_bl))
      dss_nil)
      (dss_one (ds_ret (de_orT (de_cmp op_isN sr_isN (de_at cf.at_fastest (de_var 0)) de_non (nomark _)) (de_oneO (de_cmp op_le sr_I0 (de_mul (de_neg (de_at cf.at_fastest (de_var 0))) (de_var 2)) (de_var 3) (nomark _)))))))))⟩) (pure_Pace_exists kl)
theorem sc_Promise_free : FnScope ["self", "known", "gap", "key"] ["self", "known", "gap", "key"] (defScope (inClass (top 21) 3)) := ⟨rfl, rfl, rfl, by decide +kernel, rfl, by decide +kernel, by decide +kernel⟩
theorem mo_Promise_free {f : Addr} {fd : FuncData} {kl : Kl} {C : Addr} (F : FunD K "free" "Promise.free" (defArgs (inClass (top 21) 3)) (defBody (inClass (top 21) 3)) (defScope (inClass (top 21) 3)) [] [] f fd) (cl : Cls K C) (hm : Meth K C "free" f) (bi : Bi mg) (cf : Cf K mg kl) (kl_Stretches : MakeSl P w K mg base 3 "Stretches" (kl).Stretches (sd_Stretches___init__ kl)) : MOk P w K mg base 5 "free" C (sd_Promise_free kl) :=
  mok_by (k := 4) (N := ["self", "known", "gap", "key"]) (ds := d_Promise_free kl) F cl hm sc_Promise_free (by intro as Q E h; obtain ⟨_, _, _, _, _, rfl, _⟩ := h; rfl) (fun _ _ _ _ _ _ us hl => match us, hl with | [_, _, _, _], _ => rfl) (fun X W f cdv A outer s H E eX eW tk po hr hu nd => ⟨_, (dss_one (ds_ret (de_makeSl kl_Stretches tk (hr.mono (by decide)) (by rfl) (da_cons (de_lst (da_cons (de_tup (da_cons (de_at cf.at_least (de_var 1)) (da_cons (de_at cf.at_greatest (de_var 1)) da_nil))) da_nil)) da_nil))))⟩) (pure_Promise_free kl)
theorem mf_Promise_free {f : Addr} {fd : FuncData} {kl : Kl} (F : FunD K "free" "Promise.free" (defArgs (inClass (top 21) 3)) (defBody (inClass (top 21) 3)) (defScope (inClass (top 21) 3)) [] [] f fd) (bi : Bi mg) (cf : Cf K mg kl) (kl_Stretches : MakeSl P w K mg base 3 "Stretches" (kl).Stretches (sd_Stretches___init__ kl)) : FnOk P w K mg base (L2.CX P w) 5 f fd ["self", "known", "gap", "key"] (spOf K (sd_Promise_free kl)) ∧ Binds K fd ["self", "known", "gap", "key"] [] :=
  mfn_by (k := 4) (N := ["self", "known", "gap", "key"]) (ds := d_Promise_free kl) F sc_Promise_free (by intro as Q E h; obtain ⟨_, _, _, _, _, rfl, _⟩ := h; rfl) (fun _ _ _ _ _ _ us hl => match us, hl with | [_, _, _, _], _ => rfl) (fun X W f cdv A outer s H E eX eW tk po hr hu nd => ⟨_, (dss_one (ds_ret (de_makeSl kl_Stretches tk (hr.mono (by decide)) (by rfl) (da_cons (de_lst (da_cons (de_tup (da_cons (de_at cf.at_least (de_var 1)) (da_cons (de_at cf.at_greatest (de_var 1)) da_nil))) da_nil)) da_nil))))⟩) (pure_Promise_free kl)
theorem ms_OneToOne_free {f fc g : Addr} {fcl : List (Str × Addr)} {fd fdg : FuncData} {psg : List Str} {kl : Kl} (Z : FunX P K ⟨"free", "OneToOne.free", defArgs (inClass (top 22) 3), defBody (inClass (top 22) 3), defScope (inClass (top 22) 3), fcl, fc⟩ kl.OneToOne f fd) (Sm : SupM K kl.OneToOne kl.OneToOne "free" g) (G : FnOk P w K mg base (L2.CX P w) 5 g fdg psg (spOf K (sd_Promise_free kl))) (hbi : Binds K fdg psg []) (bi : Bi mg) (cf : Cf K mg kl) (kl_Stretches : MakeSl P w K mg base 3 "Stretches" (kl).Stretches (sd_Stretches___init__ kl)) (ms_Stretches___sub__ : MSl P w K mg base 5 "__sub__" (kl).Stretches (sd_Stretches___sub__ kl)) (cl : Cls K kl.OneToOne) (hm : Meth K kl.OneToOne "free" f) : MOk P w K mg base 7 "free" kl.OneToOne (sd_OneToOne_free kl) :=
  ⟨f, fd, ["self", "known", "gap", "key"], cl, hm, fn_dX (k := 6) (N := ["self", "known", "gap", "key", "__class__", "taken", "_", "value"]) (ds := d_OneToOne_free kl) Z (NdefX.nscope_by (show NdefX.nscB ["self", "known", "gap", "key", "__class__", "taken", "_", "value"] ["self", "known", "gap", "key"] ["__class__"] (defScope (inClass (top 22) 3)) = true from by decide +kernel)) (by intro as Q E h; obtain ⟨_, _, _, rfl, _⟩ := h; rfl) (fun A outer s H E hr => ⟨_, (dssa_cons (dsa_of (ds_asg (de_makeSl kl_Stretches tk_ncx (hr.mono (by decide)) (by rfl) (da_cons (de_lc (own := [("_", 6), ("value", 7)]) rfl (show List.Nodup (["self", "known", "gap", "key", "__class__", "taken", "_", "value"] : List Str) from by decide) (di_seq (de_at cf.at_taught (de_var 1))) (blkOk_by (N := ["self", "known", "gap", "key", "__class__", "taken", "_", "value"]) (sc := defScope (inClass (top 22) 3)) (by decide +kernel)) (fun _ _ _ _ _ => (dg_sqB rfl (dgs_cons (dg_name 6 (show List.Nodup (["self", "known", "gap", "key", "__class__", "taken", "_", "value"] : List Str) from by decide)) (dgs_cons (dg_name 7 (show List.Nodup (["self", "known", "gap", "key", "__class__", "taken", "_", "value"] : List Str) from by decide)) dgs_nil)))) (fun _ _ _ _ _ => dts_nil) (fun _ _ _ _ _ => (de_tup (da_cons (de_var 7) (da_cons (de_var 7) da_nil))))) da_nil)) (dg_name 5 (show List.Nodup (["self", "known", "gap", "key", "__class__", "taken", "_", "value"] : List Str) from by decide))))
      (dssa_cons (dsa_ret (dea_op (L2.OpR.or (op_slt ms_Stretches___sub__ (hr.mono (by decide))) op_sub) (sr_slt sr_I0) (dea_sup ⟨⟨_, rfl⟩, ⟨_, Z⟩, (show List.lookup ("super" : Str) (defScope (inClass (top 22) 3)).names = some .globalImplicit from by decide +kernel), (show List.lookup ("__class__" : Str) (defScope (inClass (top 22) 3)).names = some .free from by decide +kernel), ⟨_, rfl, rfl, (show List.lookup ("self" : Str) (defScope (inClass (top 22) 3)).names = some .local from by decide +kernel)⟩, (show (defScope (inClass (top 22) 3)).kind = .function from by decide +kernel)⟩ Sm G hbi tk_ncx (hr.mono (by decide)) (da_cons (de_var 1) (da_cons (de_var 2) (da_cons (de_var 3) da_nil)))) (de_var 5)))
      (dssa_of dss_nil)))⟩) (pure_OneToOne_free kl), (Z.binds fun _ _ _ _ _ us hl => match us, hl with | [_, _, _, _], _ => rfl)⟩
theorem sc_Pace_lower : FnScope ["self", "known", "gap", "lines", "at", "value"] ["self", "known", "gap"] (defScope (inClass (top 31) 6)) := ⟨rfl, rfl, rfl, by decide +kernel, rfl, by decide +kernel, by decide +kernel⟩
theorem mo_Pace_lower {f : Addr} {fd : FuncData} {kl : Kl} {C : Addr} (F : FunD K "lower" "Pace.lower" (defArgs (inClass (top 31) 6)) (defBody (inClass (top 31) 6)) (defScope (inClass (top 31) 6)) [] [] f fd) (cl : Cls K C) (hm : Meth K C "lower" f) (bi : Bi mg) (cf : Cf K mg kl) : MOk P w K mg base 1 "lower" C (sd_Pace_lower kl) :=
  mok_by (k := 0) (N := ["self", "known", "gap", "lines", "at", "value"]) (ds := d_Pace_lower kl) F cl hm sc_Pace_lower (by intro as Q E h; obtain ⟨_, _, _, _, rfl, _⟩ := h; rfl) (fun _ _ _ _ _ _ us hl => match us, hl with | [_, _, _], _ => rfl) (fun X W f cdv A outer s H E eX eW tk po hr hu nd => ⟨_, (dss_cons (ds_own 3 nd (da_cons (de_tup (da_cons (de_at cf.at_first (de_var 1)) (da_cons (de_at cf.at_least (de_var 1)) (da_cons de_int da_nil)))) da_nil))
      (dss_cons (ds_if (dt_cmp op_notN sr_notN (de_at cf.at_slowest (de_var 0)) de_non (nomark _))
      (dss_cons (ds_asg (de_orT (de_ix ix_S sr_ix (de_var 2) de_int (fun _ _ => rfl)) (de_oneO (de_tup (da_cons (de_at cf.at_first (de_var 1)) (da_cons (de_at cf.at_least (de_var 1)) da_nil))))) (dg_sq rfl (dgs_cons (dg_name 4 nd) (dgs_cons (dg_name 5 nd) dgs_nil))))
      (dss_one (ds_app 3 (de_tup (da_cons (de_var 4) (da_cons (de_var 5) (da_cons (de_at cf.at_slowest (de_var 0)) da_nil)))))))
      dss_nil)
      (dss_cons (ds_if (dt_cmp op_notN sr_notN (de_at cf.at_fastest (de_var 0)) de_non (nomark _))
      (dss_cons (ds_asg (de_orT (de_ix ix_S sr_ix (de_var 2) de_int (fun _ _ => rfl)) (de_oneO (de_tup (da_cons (de_at cf.at_last (de_var 1)) (da_cons (de_at cf.at_least (de_var 1)) da_nil))))) (dg_sq rfl (dgs_cons (dg_name 4 nd) (dgs_cons (dg_name 5 nd) dgs_nil))))
      (dss_one (ds_app 3 (de_tup (da_cons (de_var 4) (da_cons (de_var 5) (da_cons (de_at cf.at_fastest (de_var 0)) da_nil)))))))
      dss_nil)
      (dss_one (ds_retv 3)))))⟩) (pure_Pace_lower kl)
theorem sc_Pace_upper : FnScope ["self", "known", "gap", "lines", "at", "value"] ["self", "known", "gap"] (defScope (inClass (top 31) 7)) := ⟨rfl, rfl, rfl, by decide +kernel, rfl, by decide +kernel, by decide +kernel⟩
theorem mo_Pace_upper {f : Addr} {fd : FuncData} {kl : Kl} {C : Addr} (F : FunD K "upper" "Pace.upper" (defArgs (inClass (top 31) 7)) (defBody (inClass (top 31) 7)) (defScope (inClass (top 31) 7)) [] [] f fd) (cl : Cls K C) (hm : Meth K C "upper" f) (bi : Bi mg) (cf : Cf K mg kl) : MOk P w K mg base 1 "upper" C (sd_Pace_upper kl) :=
  mok_by (k := 0) (N := ["self", "known", "gap", "lines", "at", "value"]) (ds := d_Pace_upper kl) F cl hm sc_Pace_upper (by intro as Q E h; obtain ⟨_, _, _, _, rfl, _⟩ := h; rfl) (fun _ _ _ _ _ _ us hl => match us, hl with | [_, _, _], _ => rfl) (fun X W f cdv A outer s H E eX eW tk po hr hu nd => ⟨_, (dss_cons (ds_own 3 nd (da_cons (de_tup (da_cons (de_at cf.at_first (de_var 1)) (da_cons (de_at cf.at_greatest (de_var 1)) (da_cons de_int da_nil)))) da_nil))
      (dss_cons (ds_if (dt_cmp op_notN sr_notN (de_at cf.at_fastest (de_var 0)) de_non (nomark _))
      (dss_cons (ds_asg (de_orT (de_ix ix_S sr_ix (de_var 2) de_int (fun _ _ => rfl)) (de_oneO (de_tup (da_cons (de_at cf.at_first (de_var 1)) (da_cons (de_at cf.at_greatest (de_var 1)) da_nil))))) (dg_sq rfl (dgs_cons (dg_name 4 nd) (dgs_cons (dg_name 5 nd) dgs_nil))))
      (dss_one (ds_app 3 (de_tup (da_cons (de_var 4) (da_cons (de_var 5) (da_cons (de_at cf.at_fastest (de_var 0)) da_nil)))))))
      dss_nil)
      (dss_cons (ds_if (dt_cmp op_notN sr_notN (de_at cf.at_slowest (de_var 0)) de_non (nomark _))
      (dss_cons (ds_asg (de_orT (de_ix ix_S sr_ix (de_var 2) de_int (fun _ _ => rfl)) (de_oneO (de_tup (da_cons (de_at cf.at_last (de_var 1)) (da_cons (de_at cf.at_greatest (de_var 1)) da_nil))))) (dg_sq rfl (dgs_cons (dg_name 4 nd) (dgs_cons (dg_name 5 nd) dgs_nil))))
      (dss_one (ds_app 3 (de_tup (da_cons (de_var 4) (da_cons (de_var 5) (da_cons (de_at cf.at_slowest (de_var 0)) da_nil)))))))
      dss_nil)
      (dss_one (ds_retv 3)))))⟩) (pure_Pace_upper kl)
theorem sc_Pace_free : FnScope ["self", "known", "gap", "key", "low", "high", "line"] ["self", "known", "gap", "key"] (defScope (inClass (top 31) 8)) := ⟨rfl, rfl, rfl, by decide +kernel, rfl, by decide +kernel, by decide +kernel⟩
theorem mo_Pace_free {f : Addr} {fd : FuncData} {kl : Kl} {C : Addr} (F : FunD K "free" "Pace.free" (defArgs (inClass (top 31) 8)) (defBody (inClass (top 31) 8)) (defScope (inClass (top 31) 8)) [] [] f fd) (cl : Cls K C) (hm : Meth K C "free" f) (bi : Bi mg) (c_height : Fnk P w K mg base "height" 1 ["line", "key"] [] [] sd_height) (cf : Cf K mg kl) (m_lower : TblOk P w K mg base 1 "lower" (tb_lower kl)) (m_upper : TblOk P w K mg base 1 "upper" (tb_upper kl)) (kl_Stretches : MakeSl P w K mg base 3 "Stretches" (kl).Stretches (sd_Stretches___init__ kl)) : MOk P w K mg base 5 "free" C (sd_Pace_free kl) :=
  mok_by (k := 4) (N := ["self", "known", "gap", "key", "low", "high", "line"]) (ds := d_Pace_free kl) F cl hm sc_Pace_free (by intro as Q E h; obtain ⟨_, _, _, _, rfl, _⟩ := h; rfl) (fun _ _ _ _ _ _ us hl => match us, hl with | [_, _, _, _], _ => rfl) (fun X W f cdv A outer s H E eX eW tk po hr hu nd => ⟨_, (dss_cons (ds_asg (de_cb (cr_max rfl) sc_maxL (by rfl) bi.max (by decide +kernel) (da_cons (de_lc (own := [("line", 6)]) rfl nd (di_seq (de_meth m_lower tk (hr.mono (by decide)) (de_var 0) (da_cons (de_var 1) (da_cons (de_var 2) da_nil)))) (blkOk_by (N := ["self", "known", "gap", "key", "low", "high", "line"]) (sc := defScope (inClass (top 31) 8)) (by decide +kernel)) (fun _ _ _ _ _ => (dg_name 6 nd)) (fun _ _ _ _ _ => dts_nil) (fun _ _ _ _ _ => (de_callF c_height takes0 (hr.mono (by decide)) (by rfl) (da_cons (de_var 6) (da_cons (de_var 3) da_nil))))) da_nil)) (dg_name 4 nd))
      (dss_cons (ds_asg (de_cb (cr_min rfl) sc_minL (by rfl) bi.min (by decide +kernel) (da_cons (de_lc (own := [("line", 6)]) rfl nd (di_seq (de_meth m_upper tk (hr.mono (by decide)) (de_var 0) (da_cons (de_var 1) (da_cons (de_var 2) da_nil)))) (blkOk_by (N := ["self", "known", "gap", "key", "low", "high", "line"]) (sc := defScope (inClass (top 31) 8)) (by decide +kernel)) (fun _ _ _ _ _ => (dg_name 6 nd)) (fun _ _ _ _ _ => dts_nil) (fun _ _ _ _ _ => (de_callF c_height takes0 (hr.mono (by decide)) (by rfl) (da_cons (de_var 6) (da_cons (de_var 3) da_nil))))) da_nil)) (dg_name 5 nd))
      (dss_one (ds_ret (de_makeSl kl_Stretches tk (hr.mono (by decide)) (by rfl) (da_cons (de_lst (da_cons (de_tup (da_cons (de_var 4) (da_cons (de_var 5) da_nil))) da_nil)) da_nil))))))⟩) (pure_Pace_free kl)
theorem sc_Known_told : FnScope ["self", "key", "at", "value"] ["self", "key"] (defScope (inClass (top 26) 4)) := ⟨rfl, rfl, rfl, by decide +kernel, rfl, by decide +kernel, by decide +kernel⟩
theorem mo_Known_told {f : Addr} {fd : FuncData} {kl : Kl} {C : Addr} (F : FunD K "told" "Known.told" (defArgs (inClass (top 26) 4)) (defBody (inClass (top 26) 4)) (defScope (inClass (top 26) 4)) [] [] f fd) (cl : Cls K C) (hm : Meth K C "told" f) (bi : Bi mg) (cf : Cf K mg kl) (x_NoKey : ExcMk P w K mg base 1 "NoKey" (kl).NoKey ["key"]) : MOk P w K mg base 3 "told" C (sd_Known_told kl) :=
  mok_by (k := 2) (N := ["self", "key", "at", "value"]) (ds := d_Known_told kl) F cl hm sc_Known_told (by intro as Q E h; obtain ⟨_, _, rfl, _⟩ := h; rfl) (fun _ _ _ _ _ _ us hl => match us, hl with | [_, _], _ => rfl) (fun X W f cdv A outer s H E eX eW tk po hr hu nd => ⟨_, (dss_cons (ds_if (dt_w (dw_or (dt_cmp op_lt sr_I0 (de_var 1) (de_at cf.at_first (de_var 0)) (nomark _)) (dw_or1 (dt_cmp op_gt sr_I0 (de_var 1) (de_at cf.at_last (de_var 0)) (nomark _)))))
      (dss_one (ds_raise x_NoKey rfl tk (hr.mono (by decide)) (by rfl) (da_cons (de_var 1) da_nil)))
      dss_nil)
      (dss_cons (ds_for po rfl (di_seq (de_at cf.at_taught (de_var 0))) (dg_sq rfl (dgs_cons (dg_name 2 nd) (dgs_cons (dg_name 3 nd) dgs_nil)))
      (dss_one (ds_if (dt_cmp (op_eqA hu) sr_eq (de_var 2) (de_var 1) (nomark _))
      (dss_one (ds_retv 3))
      dss_nil)))
      (dss_one (ds_ret de_non))))⟩) (pure_Known_told kl)
theorem sc_Known_gaps : FnScope ["self", "result", "low", "before", "sample"] ["self"] (defScope (inClass (top 26) 5)) := ⟨rfl, rfl, rfl, by decide +kernel, rfl, by decide +kernel, by decide +kernel⟩
theorem mo_Known_gaps {f : Addr} {fd : FuncData} {kl : Kl} {C : Addr} (F : FunD K "gaps" "Known.gaps" (defArgs (inClass (top 26) 5)) (defBody (inClass (top 26) 5)) (defScope (inClass (top 26) 5)) [] [] f fd) (cl : Cls K C) (hm : Meth K C "gaps" f) (bi : Bi mg) (cf : Cf K mg kl) : MOk P w K mg base 1 "gaps" C (sd_Known_gaps kl) :=
  mok_by (k := 0) (N := ["self", "result", "low", "before", "sample"]) (ds := d_Known_gaps kl) F cl hm sc_Known_gaps (by intro as Q E h; obtain ⟨_, rfl, _⟩ := h; rfl) (fun _ _ _ _ _ _ us hl => match us, hl with | [_], _ => rfl) (fun X W f cdv A outer s H E eX eW tk po hr hu nd => ⟨_, (dss_cons (ds_own 1 nd da_nil)
      (dss_cons (ds_asg (de_at cf.at_first (de_var 0)) (dg_name 2 nd))
      (dss_cons (ds_asg de_non (dg_name 3 nd))
      (dss_cons (ds_for po rfl (di_seq (de_at cf.at_taught (de_var 0))) (dg_name 4 nd)
      (dss_cons (ds_if (dt_cmp op_lt sr_I0 (de_var 2) (de_ix ix_S sr_ix (de_var 4) de_int (fun _ _ => rfl)) (nomark _))
      (dss_one (ds_app 1 (de_tup (da_cons (de_var 2) (da_cons (de_sub (de_ix ix_S sr_ix (de_var 4) de_int (fun _ _ => rfl)) de_int) (da_cons (de_var 3) (da_cons (de_var 4) da_nil)))))))
      dss_nil)
      (dss_cons (ds_asg (de_add (de_ix ix_S sr_ix (de_var 4) de_int (fun _ _ => rfl)) de_int) (dg_name 2 nd))
      (dss_one (ds_asg (de_var 4) (dg_name 3 nd))))))
      (dss_cons (ds_if (dt_cmp op_le sr_I0 (de_var 2) (de_at cf.at_last (de_var 0)) (nomark _))
      (dss_one (ds_app 1 (de_tup (da_cons (de_var 2) (da_cons (de_at cf.at_last (de_var 0)) (da_cons (de_var 3) (da_cons de_non da_nil)))))))
      dss_nil)
      (dss_one (ds_retv 1)))))))⟩) (pure_Known_gaps kl)
theorem sc_Known_gap_of : FnScope ["self", "key", "found", "gap"] ["self", "key"] (defScope (inClass (top 26) 6)) := ⟨rfl, rfl, rfl, by decide +kernel, rfl, by decide +kernel, by decide +kernel⟩
theorem mo_Known_gap_of {f : Addr} {fd : FuncData} {kl : Kl} {C : Addr} (F : FunD K "gap_of" "Known.gap_of" (defArgs (inClass (top 26) 6)) (defBody (inClass (top 26) 6)) (defScope (inClass (top 26) 6)) [] [] f fd) (cl : Cls K C) (hm : Meth K C "gap_of" f) (bi : Bi mg) (cf : Cf K mg kl) (m_gaps : TblOk P w K mg base 1 "gaps" (tb_gaps kl)) : MOk P w K mg base 2 "gap_of" C (sd_Known_gap_of kl) :=
  mok_by (k := 1) (N := ["self", "key", "found", "gap"]) (ds := d_Known_gap_of kl) F cl hm sc_Known_gap_of (by intro as Q E h; obtain ⟨_, _, rfl, _⟩ := h; rfl) (fun _ _ _ _ _ _ us hl => match us, hl with | [_, _], _ => rfl) (fun X W f cdv A outer s H E eX eW tk po hr hu nd => ⟨_, (dss_cons (ds_asg de_non (dg_name 2 nd))
      (dss_cons (ds_for po rfl (di_seq (de_meth0 m_gaps tk (hr.mono (by decide)) (de_var 0))) (dg_name 3 nd)
      (dss_one (ds_if (dt_chain op_le op_le sr_I0 sr_I0 (de_ix ix_S sr_ix (de_var 3) de_int (fun _ _ => rfl)) (de_var 1) (de_ix ix_S sr_ix (de_var 3) de_int (fun _ _ => rfl)))
      (dss_one (ds_asg (de_var 3) (dg_name 2 nd)))
      dss_nil)))
      (dss_one (ds_retv 2))))⟩) (pure_Known_gap_of kl)
theorem sc_Known_lot : FnScope ["self", "key", "value"] ["self", "key"] (defScope (inClass (top 26) 7)) := ⟨rfl, rfl, rfl, by decide +kernel, rfl, by decide +kernel, by decide +kernel⟩
theorem mo_Known_lot {f : Addr} {fd : FuncData} {kl : Kl} {C : Addr} (F : FunD K "lot" "Known.lot" (defArgs (inClass (top 26) 7)) (defBody (inClass (top 26) 7)) (defScope (inClass (top 26) 7)) [] [] f fd) (cl : Cls K C) (hm : Meth K C "lot" f) (bi : Bi mg) (cf : Cf K mg kl) (m_told : TblOk P w K mg base 3 "told" (tb_told kl)) (m_gap_of : TblOk P w K mg base 2 "gap_of" (tb_gap_of kl)) (m_free : TblOk P w K mg base 7 "free" (tb_free kl)) (kl_Stretches : MakeSl P w K mg base 3 "Stretches" (kl).Stretches (sd_Stretches___init__ kl)) : MOk P w K mg base 8 "lot" C (sd_Known_lot kl) :=
  mok_by (k := 7) (N := ["self", "key", "value"]) (ds := d_Known_lot kl) F cl hm sc_Known_lot (by intro as Q E h; obtain ⟨_, _, rfl, _⟩ := h; rfl) (fun _ _ _ _ _ _ us hl => match us, hl with | [_, _], _ => rfl) (fun X W f cdv A outer s H E eX eW tk po hr hu nd => ⟨_, (dss_cons (ds_asg (de_meth m_told tk (hr.mono (by decide)) (de_var 0) (da_cons (de_var 1) da_nil)) (dg_name 2 nd))
      (dss_cons (ds_if (dt_cmp op_notN sr_notN (de_var 2) de_non (nomark _))
      (dss_one (ds_ret (de_makeSl kl_Stretches tk (hr.mono (by decide)) (by rfl) (da_cons (de_lst (da_cons (de_tup (da_cons (de_var 2) (da_cons (de_var 2) da_nil))) da_nil)) da_nil))))
      dss_nil)
      (dss_one (ds_ret (de_meth m_free tk (hr.mono (by decide)) (de_at cf.at_promise (de_var 0)) (da_cons (de_var 0) (da_cons (de_meth m_gap_of tk (hr.mono (by decide)) (de_var 0) (da_cons (de_var 1) da_nil)) (da_cons (de_var 1) da_nil))))))))⟩) (pure_Known_lot kl)
theorem sc_Known_teach : FnScope ["self", "key", "value"] ["self", "key", "value"] (defScope (inClass (top 26) 2)) := ⟨rfl, rfl, rfl, by decide +kernel, rfl, by decide +kernel, by decide +kernel⟩
theorem mu_Known_teach {f : Addr} {fd : FuncData} {kl : Kl} (F : FunD K "teach" "Known.teach" (defArgs (inClass (top 26) 2)) (defBody (inClass (top 26) 2)) (defScope (inClass (top 26) 2)) [] [] f fd) (cl : Cls K kl.Known) (hm : Meth K kl.Known "teach" f) (bi : Bi mg) (cs : Cs mg) (cf : Cf K mg kl) (m_lot : TblOk P w K mg base 8 "lot" (tb_lot kl)) (m_told : TblOk P w K mg base 3 "told" (tb_told kl)) (x_Impossible : ExcMk P w K mg base 1 "Impossible" (kl).Impossible ["key", "value"]) (x_TooMany : ExcMk P w K mg base 1 "TooMany" (kl).TooMany ["limit"]) (ms_Stretches___contains__ : MSl P w K mg base 1 "__contains__" (kl).Stretches (sd_Stretches___contains__ kl)) : MuM P w K mg base 9 "teach" kl.Known (sd_Known_teach kl) :=
  mumok_by (k := 8) (y := "self") (N := ["key", "value"]) (ds := d_Known_teach kl) F cl hm sc_Known_teach (len_Known_teach kl) (fun _ _ _ _ _ _ us hl => match us, hl with | [_, _, _], _ => rfl) (fun X W f cdv A outer s H E eX eW tk po hr hu nd => ⟨_, (dss_cons (ds_if (dt_lend (dt_cmp (L2.OpR.or (op_niS ms_Stretches___contains__ (hr.mono (by decide))) op_notIn_seq) (sr_niS sr_notIn) (de_var 2) (de_meth m_lot tk (hr.mono (by decide)) (de_var 0) (da_cons (de_var 1) da_nil)) (by with_unfolding_all rfl)))
      (dss_one (ds_raise x_Impossible rfl tk (hr.mono (by decide)) (by rfl) (da_cons (de_var 1) (da_cons (de_var 2) da_nil))))
      dss_nil)
      (dss_one (ds_if (dt_lend (dt_cmp op_isN sr_isN (de_meth m_told tk (hr.mono (by decide)) (de_var 0) (da_cons (de_var 1) da_nil)) de_non (nomark _)))
      (dss_cons (ds_if (dt_lend (dt_cmp op_ge sr_I0 (de_cb call_lenA sc_len (by rfl) bi.len (by decide +kernel) (da_cons (de_at cf.at_taught (de_var 0)) da_nil)) (de_globI (by rfl) cs.MOST_SAMPLES) (nomark _)))
      (dss_one (ds_raise x_TooMany rfl tk (hr.mono (by decide)) (by rfl) (da_cons (de_globI (by rfl) cs.MOST_SAMPLES) da_nil)))
      dss_nil)
      (dss_one (ds_fld cf.at_taught 0 (de_cb cr_sortT sc_sortP (by rfl) bi.sorted (by decide +kernel) (da_cons (de_add (de_atO cf.at_taught 0) (de_lst (da_cons (de_tup (da_cons (de_var 1) (da_cons (de_var 2) da_nil))) da_nil))) da_nil)))))
      dss_nil)))⟩) (pure_Known_teach kl)
theorem sc_Known___init__ : FnScope ["self", "first", "last", "promise", "least", "greatest", "samples", "key", "value"] ["self", "first", "last", "promise", "least", "greatest", "samples"] (defScope (inClass (top 26) 1)) := ⟨rfl, rfl, rfl, by decide +kernel, rfl, by decide +kernel, by decide +kernel⟩
theorem mi0_Known___init__ {f : Addr} {fd : FuncData} {kl : Kl} (F : FunD K "__init__" "Known.__init__" (defArgs (inClass (top 26) 1)) (defBody (inClass (top 26) 1)) (defScope (inClass (top 26) 1)) [] [("promise", V.non), ("least", V.int (-1000000000000000000)), ("greatest", V.int 1000000000000000000), ("samples", V.ref (kwdAt ("Known", some "__init__") "samples" K))] f fd) (bi : Bi mg) (c_check_ends : Fnk P w K mg base "check_ends" 3 ["low", "high"] [] [] (sd_check_ends kl)) (cf : Cf K mg kl) (m_exists : TblOk P w K mg base 1 "exists" (tb_exists kl)) (kb_Promise : Mk0 K (kl).Promise) (x0_Contradiction : ExcM0 K mg "Contradiction" (kl).Contradiction) (mu_Known_teach : MuM P w K mg base 9 "teach" (kl).Known (sd_Known_teach kl)) : FnOk P w K mg base (L2.CX P w) 11 f fd ["self", "first", "last", "promise", "least", "greatest", "samples"] (spIn K kl.Known (sd_Known___init__ kl)) :=
  inokW_by (k := 10) (y := "self") (N := ["first", "last", "promise", "least", "greatest", "samples", "key", "value"]) (ds := d_Known___init__ kl) F sc_Known___init__ (len_Known___init__ kl) (fun X W f cdv A outer s H E eX eW tk po hr hu nd => ⟨_, (dss_cons (ds_expr (de_callF c_check_ends tk (hr.mono (by decide)) (by rfl) (da_cons (de_var 1) (da_cons (de_var 2) da_nil))))
      (dss_cons (ds_expr (de_callF c_check_ends tk (hr.mono (by decide)) (by rfl) (da_cons (de_var 4) (da_cons (de_var 5) da_nil))))
      (dss_cons (ds_fld cf.at_first 0 (de_var 1))
      (dss_cons (ds_fld cf.at_last 0 (de_var 2))
      (dss_cons (ds_fld cf.at_least 0 (de_var 4))
      (dss_cons (ds_fld cf.at_greatest 0 (de_var 5))
      (dss_cons (ds_fld cf.at_promise 0 (de_if (dt_cmp op_isN sr_isN (de_var 3) de_non (nomark _)) (de_bare kb_Promise (by rfl) cf.g_Promise) (de_var 3)))
      (dss_cons (ds_fld cf.at_taught 0 (de_lst da_nil))
      (dss_cons (ds_if (dt_lend (dt_not (dt_tru (de_meth m_exists tk (hr.mono (by decide)) (de_at cf.at_promise (de_var 0)) (da_cons (de_var 0) da_nil)))))
      (dss_one (ds_raise0 x0_Contradiction rfl tk (by rfl)))
      dss_nil)
      (dss_one (ds_for po rfl (di_seq (de_var 6)) (dg_sq rfl (dgs_cons (dg_name 7 nd) (dgs_cons (dg_name 8 nd) dgs_nil)))
      (dss_one (ds_mut mu_Known_teach tk (hr.mono (by decide)) 0 (da_cons (de_var 7) (da_cons (de_var 8) da_nil)))))))))))))))⟩) (pure_Known___init__ kl)
theorem bn_Known___init___promise_least_greatest_samples {f : Addr} {fd : FuncData} (F : FunD K "__init__" "Known.__init__" (defArgs (inClass (top 26) 1)) (defBody (inClass (top 26) 1)) (defScope (inClass (top 26) 1)) [] [("promise", V.non), ("least", V.int (-1000000000000000000)), ("greatest", V.int 1000000000000000000), ("samples", V.ref (kwdAt ("Known", some "__init__") "samples" K))] f fd) : ∃ mv : List Value, KBn K fd ["self", "first", "last", "promise", "least", "greatest", "samples"] 3 ["promise", "least", "greatest", "samples"] (fun us ws => us ++ ((ws.drop 0).take 1 ++ ((ws.drop 1).take 1 ++ ((ws.drop 2).take 1 ++ ((ws.drop 3).take 1 ++ []))))) (fun us ws => us ++ ((ws.drop 0).take 1 ++ ((ws.drop 1).take 1 ++ ((ws.drop 2).take 1 ++ ((ws.drop 3).take 1 ++ []))))) := FunD.kbinds0 F 3 ["promise", "least", "greatest", "samples"] [] (fun us ms ws => us ++ ((ws.drop 0).take 1 ++ ((ws.drop 1).take 1 ++ ((ws.drop 2).take 1 ++ ((ws.drop 3).take 1 ++ []))))) (by simp) (by simp) (fun a b c => pairs_app a (pairs_app (vals_cut 0 c) (pairs_app (vals_cut 1 c) (pairs_app (vals_cut 2 c) (pairs_app (vals_cut 3 c) .nil))))) (fun _ _ _ _ _ _ us ms ws h1 h2 h3 => match us, ms, ws, h1, h2, h3 with | [_, _, _], [], [_, _, _, _], _, _, _ => (by exact rfl))
theorem sc__law_draws : FnScope ["_law_script", "_law_draws_here", "_law_k", "_law_size", "_law_turn", "_law_mixed"] ["_law_script"] (defScope (top 33)) := ⟨rfl, rfl, rfl, by decide +kernel, rfl, by decide +kernel, by decide +kernel⟩
theorem dk__law_draws (D : DefAt K mg "_law_draws" (top 33)) (bi : Bi mg) : Drk P w K mg base :=
  drk_of D sc__law_draws (fun _ _ _ _ _ _ us hl => match us, hl with | [_], _ => rfl) fun f cdv A outer s H E po =>
    have nd := sc__law_draws.nd
    ⟨_, (dss_cons (ds_own 1 nd da_nil)
      (dss_cons (ds_for po rfl (di_range1 (by rfl) bi.range (da_cons (de_cb (call_min2 rfl) sc_min2 (by rfl) bi.min (by decide +kernel) (da_cons (de_cb call_lenA sc_len (by rfl) bi.len (by decide +kernel) (da_cons (de_var 0) da_nil)) (da_cons de_int da_nil))) da_nil)) (dg_name 2 nd)
      (dss_cons (ds_asg (de_cb call_abs sc_abs (by rfl) bi.abs (by decide +kernel) (da_cons (de_ix ix_S sr_ix (de_var 0) (de_var 2) (fun _ _ => rfl)) da_nil)) (dg_name 3 nd))
      (dss_one (ds_if (dt_cmp op_ge sr_I0 (de_var 3) (de_pow de_int de_int) (nomark _))
      (dss_one (ds_for po rfl (di_range1 (by rfl) bi.range (da_cons de_int da_nil)) (dg_name 4 nd)
      (dss_one (ds_if (dt_cmp op_gt sr_I0 (de_var 3) de_int (nomark _))
      (dss_cons (ds_app 1 (de_mod (de_ct call_int1 sc_int1 (by rfl) bi.int (by decide +kernel) (da_cons (de_var 3) da_nil)) (de_pow de_int de_int)))
      (dss_one (ds_asg (de_fdiv (de_var 3) (de_pow de_int de_int)) (dg_name 3 nd))))
      dss_nil))))
      (dss_cons (ds_asg (de_add (de_mul de_int (de_var 3)) (de_ct call_int1 sc_int1 (by rfl) bi.int (by decide +kernel) (da_cons (de_cmp op_lt sr_I0 (de_ix ix_S sr_ix (de_var 0) (de_var 2) (fun _ _ => rfl)) de_int (nomark _)) da_nil))) (dg_name 3 nd))
      (dss_one (ds_for po rfl (di_range1 (by rfl) bi.range (da_cons de_int da_nil)) (dg_name 4 nd)
      (dss_cons (ds_asg (de_mod (de_ct call_int1 sc_int1 (by rfl) bi.int (by decide +kernel) (da_cons (de_add (de_mul (de_var 3) de_int) (de_mul (de_add (de_add (de_mul de_int (de_var 2)) (de_var 4)) de_int) de_int)) da_nil)) de_int) (dg_name 5 nd))
      (dss_cons (ds_asg (de_mod (de_ct call_int1 sc_int1 (by rfl) bi.int (by decide +kernel) (da_cons (de_mul (de_var 5) (de_var 5)) da_nil)) de_int) (dg_name 5 nd))
      (dss_one (ds_app 1 (de_mod (de_ct call_int1 sc_int1 (by rfl) bi.int (by decide +kernel) (da_cons (de_mul (de_var 5) (de_var 5)) da_nil)) de_int))))))))))))
      (dss_one (ds_retv 1))))⟩
theorem sc__law_next : FnScope ["_law_draws_here", "_law_many"] ["_law_draws_here", "_law_many"] (defScope (top 34)) := ⟨rfl, rfl, rfl, by decide +kernel, rfl, by decide +kernel, by decide +kernel⟩
theorem fk__law_next (D : DefAt K mg "_law_next" (top 34)) (bi : Bi mg) : Fnk P w K mg base "_law_next" 1 ["_law_draws_here", "_law_many"] [] [] sd__law_next :=
  fnk_next D sc__law_next (fun _ _ _ _ _ _ us hl => match us, hl with | [_, _], _ => rfl) fun f cdv A outer s H E hu =>
    pss_cons (ps_if (pt_cmpR (op_eqD hu) (pv 0) (pe_lst pa_nil) (nomark _)) (pss_one (ps_ret pe_int)) pss_nil)
      (pss_one (ps_ret (pe_op op_mod (pe_callTy call_int1 (by rfl) bi.int (by decide +kernel) (pa_cons (pe_bm PySem.F.plainAttrs_list PySem.F.slot_list_pop PySem.F.type_list_pop mt_popAt (pv 0) (pa_cons pe_int pa_nil)) pa_nil)) (pv 1))))
theorem sc__law_amount : FnScope ["_law_draws_here", "_law_low", "_law_high", "_law_number", "_law_kind"] ["_law_draws_here", "_law_low", "_law_high"] (defScope (top 35)) := ⟨rfl, rfl, rfl, by decide +kernel, rfl, by decide +kernel, by decide +kernel⟩
theorem fk__law_amount (D : DefAt K mg "_law_amount" (top 35)) (bi : Bi mg) (c__law_next : Fnk P w K mg base "_law_next" 1 ["_law_draws_here", "_law_many"] [] [] sd__law_next) : Fnk P w K mg base "_law_amount" 2 ["_law_draws_here", "_law_low", "_law_high"] [] [] sd__law_amount :=
  fnk_by (k := 1) (N := ["_law_draws_here", "_law_low", "_law_high", "_law_number", "_law_kind"]) (ds := d__law_amount) D sc__law_amount len__law_amount (fun _ _ _ _ _ _ us hl => match us, hl with | [_, _, _], _ => rfl) (fun X W f cdv A outer s H E eX eW tk po hr hu nd => ⟨_, (dss_cons (ds_asg (de_callF c__law_next tk (hr.mono (by decide)) (by rfl) (da_cons (de_var 0) (da_cons (de_pow de_int de_int) da_nil))) (dg_name 3 nd))
      (dss_cons (ds_asg (de_mod (de_ct call_int1 sc_int1 (by rfl) bi.int (by decide +kernel) (da_cons (de_var 3) da_nil)) de_int) (dg_name 4 nd))
      (dss_cons (ds_asg (de_fdiv (de_var 3) de_int) (dg_name 3 nd))
      (dss_cons (ds_if (dt_cmp (op_eqA hu) sr_eq (de_var 4) de_int (nomark _))
      (dss_one (ds_ret (de_cb (call_min2 rfl) sc_min2 (by rfl) bi.min (by decide +kernel) (da_cons (de_var 2) (da_cons (de_add (de_var 1) (de_mod (de_ct call_int1 sc_int1 (by rfl) bi.int (by decide +kernel) (da_cons (de_var 3) da_nil)) de_int)) da_nil)))))
      dss_nil)
      (dss_cons (ds_if (dt_cmp (op_eqA hu) sr_eq (de_var 4) de_int (nomark _))
      (dss_one (ds_ret (de_cb (call_max2 rfl) sc_max2 (by rfl) bi.max (by decide +kernel) (da_cons (de_var 1) (da_cons (de_sub (de_var 2) (de_mod (de_ct call_int1 sc_int1 (by rfl) bi.int (by decide +kernel) (da_cons (de_var 3) da_nil)) de_int)) da_nil)))))
      dss_nil)
      (dss_cons (ds_if (dt_cmp (op_eqA hu) sr_eq (de_var 4) de_int (nomark _))
      (dss_one (ds_ret (de_cb (call_max2 rfl) sc_max2 (by rfl) bi.max (by decide +kernel) (da_cons (de_var 1) (da_cons (de_cb (call_min2 rfl) sc_min2 (by rfl) bi.min (by decide +kernel) (da_cons (de_var 2) (da_cons (de_sub (de_mod (de_ct call_int1 sc_int1 (by rfl) bi.int (by decide +kernel) (da_cons (de_var 3) da_nil)) de_int) de_int) da_nil))) da_nil)))))
      dss_nil)
      (dss_one (ds_ret (de_add (de_var 1) (de_mod (de_ct call_int1 sc_int1 (by rfl) bi.int (by decide +kernel) (da_cons (de_var 3) da_nil)) (de_add (de_sub (de_var 2) (de_var 1)) de_int)))))))))))⟩) pure__law_amount
theorem sc__law_range : FnScope ["_law_draws_here", "_law_kind", "_law_low"] ["_law_draws_here"] (defScope (top 36)) := ⟨rfl, rfl, rfl, by decide +kernel, rfl, by decide +kernel, by decide +kernel⟩
theorem fk__law_range (D : DefAt K mg "_law_range" (top 36)) (bi : Bi mg) (c__law_next : Fnk P w K mg base "_law_next" 1 ["_law_draws_here", "_law_many"] [] [] sd__law_next) (c__law_amount : Fnk P w K mg base "_law_amount" 2 ["_law_draws_here", "_law_low", "_law_high"] [] [] sd__law_amount) : Fnk P w K mg base "_law_range" 3 ["_law_draws_here"] [] [] sd__law_range :=
  fnk_by (k := 2) (N := ["_law_draws_here", "_law_kind", "_law_low"]) (ds := d__law_range) D sc__law_range len__law_range (fun _ _ _ _ _ _ us hl => match us, hl with | [_], _ => rfl) (fun X W f cdv A outer s H E eX eW tk po hr hu nd => ⟨_, (dss_cons (ds_asg (de_callF c__law_next tk (hr.mono (by decide)) (by rfl) (da_cons (de_var 0) (da_cons de_int da_nil))) (dg_name 1 nd))
      (dss_cons (ds_if (dt_cmp (op_eqA hu) sr_eq (de_var 1) de_int (nomark _))
      (dss_one (ds_ret (de_tup (da_cons (de_neg (de_pow de_int de_int)) (da_cons (de_pow de_int de_int) da_nil)))))
      dss_nil)
      (dss_cons (ds_if (dt_cmp (op_eqA hu) sr_eq (de_var 1) de_int (nomark _))
      (dss_cons (ds_asg (de_callF c__law_amount tk (hr.mono (by decide)) (by rfl) (da_cons (de_var 0) (da_cons (de_neg (de_pow de_int de_int)) (da_cons (de_pow de_int de_int) da_nil)))) (dg_name 2 nd))
      (dss_one (ds_ret (de_tup (da_cons (de_var 2) (da_cons (de_var 2) da_nil))))))
      dss_nil)
      (dss_cons (ds_if (dt_cmp (op_eqA hu) sr_eq (de_var 1) de_int (nomark _))
      (dss_one (ds_ret (de_tup (da_cons (de_sub (de_pow de_int de_int) (de_callF c__law_next tk (hr.mono (by decide)) (by rfl) (da_cons (de_var 0) (da_cons de_int da_nil)))) (da_cons (de_pow de_int de_int) da_nil)))))
      dss_nil)
      (dss_cons (ds_if (dt_cmp (op_eqA hu) sr_eq (de_var 1) de_int (nomark _))
      (dss_cons (ds_asg (de_callF c__law_amount tk (hr.mono (by decide)) (by rfl) (da_cons (de_var 0) (da_cons (de_neg (de_pow de_int de_int)) (da_cons (de_pow de_int de_int) da_nil)))) (dg_name 2 nd))
      (dss_one (ds_ret (de_tup (da_cons (de_var 2) (da_cons (de_callF c__law_amount tk (hr.mono (by decide)) (by rfl) (da_cons (de_var 0) (da_cons (de_var 2) (da_cons (de_pow de_int de_int) da_nil)))) da_nil))))))
      dss_nil)
      (dss_one (ds_ret (de_tup (da_cons (de_neg de_int) (da_cons (de_sub (de_callF c__law_next tk (hr.mono (by decide)) (by rfl) (da_cons (de_var 0) (da_cons de_int da_nil))) de_int) da_nil))))))))))⟩) pure__law_range
theorem sc__law_speed : FnScope ["_law_draws_here", "_law_kind"] ["_law_draws_here"] (defScope (top 37)) := ⟨rfl, rfl, rfl, by decide +kernel, rfl, by decide +kernel, by decide +kernel⟩
theorem fk__law_speed (D : DefAt K mg "_law_speed" (top 37)) (bi : Bi mg) (c__law_next : Fnk P w K mg base "_law_next" 1 ["_law_draws_here", "_law_many"] [] [] sd__law_next) (c__law_amount : Fnk P w K mg base "_law_amount" 2 ["_law_draws_here", "_law_low", "_law_high"] [] [] sd__law_amount) : Fnk P w K mg base "_law_speed" 3 ["_law_draws_here"] [] [] sd__law_speed :=
  fnk_by (k := 2) (N := ["_law_draws_here", "_law_kind"]) (ds := d__law_speed) D sc__law_speed len__law_speed (fun _ _ _ _ _ _ us hl => match us, hl with | [_], _ => rfl) (fun X W f cdv A outer s H E eX eW tk po hr hu nd => ⟨_, (dss_cons (ds_asg (de_callF c__law_next tk (hr.mono (by decide)) (by rfl) (da_cons (de_var 0) (da_cons de_int da_nil))) (dg_name 1 nd))
      (dss_cons (ds_if (dt_cmp (op_eqA hu) sr_eq (de_var 1) de_int (nomark _))
      (dss_one (ds_ret de_non))
      dss_nil)
      (dss_cons (ds_if (dt_cmp (op_eqA hu) sr_eq (de_var 1) de_int (nomark _))
      (dss_one (ds_ret (de_callF c__law_amount tk (hr.mono (by decide)) (by rfl) (da_cons (de_var 0) (da_cons (de_neg (de_pow de_int de_int)) (da_cons (de_pow de_int de_int) da_nil))))))
      dss_nil)
      (dss_one (ds_ret (de_sub (de_callF c__law_next tk (hr.mono (by decide)) (by rfl) (da_cons (de_var 0) (da_cons de_int da_nil))) de_int))))))⟩) pure__law_speed
theorem sc__law_facts : FnScope ["_law_draws_here", "_law_kind", "_law_keys", "_law_values", "_law_span", "_law_room", "_law_slow", "_law_quick"] ["_law_draws_here", "_law_kind"] (defScope (top 38)) := ⟨rfl, rfl, rfl, by decide +kernel, rfl, by decide +kernel, by decide +kernel⟩
theorem fk__law_facts (D : DefAt K mg "_law_facts" (top 38)) (bi : Bi mg) (c__law_range : Fnk P w K mg base "_law_range" 3 ["_law_draws_here"] [] [] sd__law_range) (c__law_speed : Fnk P w K mg base "_law_speed" 3 ["_law_draws_here"] [] [] sd__law_speed) : Fnk P w K mg base "_law_facts" 4 ["_law_draws_here", "_law_kind"] [] [] sd__law_facts :=
  fnk_by (k := 3) (N := ["_law_draws_here", "_law_kind", "_law_keys", "_law_values", "_law_span", "_law_room", "_law_slow", "_law_quick"]) (ds := d__law_facts) D sc__law_facts len__law_facts (fun _ _ _ _ _ _ us hl => match us, hl with | [_, _], _ => rfl) (fun X W f cdv A outer s H E eX eW tk po hr hu nd => ⟨_, (dss_cons (ds_asg (de_callF c__law_range tk (hr.mono (by decide)) (by rfl) (da_cons (de_var 0) da_nil)) (dg_name 2 nd))
      (dss_cons (ds_asg (de_callF c__law_range tk (hr.mono (by decide)) (by rfl) (da_cons (de_var 0) da_nil)) (dg_name 3 nd))
      (dss_cons (ds_asg (de_sub (de_ix ix_S sr_ix (de_var 2) de_int (fun _ _ => rfl)) (de_ix ix_S sr_ix (de_var 2) de_int (fun _ _ => rfl))) (dg_name 4 nd))
      (dss_cons (ds_asg (de_sub (de_ix ix_S sr_ix (de_var 3) de_int (fun _ _ => rfl)) (de_ix ix_S sr_ix (de_var 3) de_int (fun _ _ => rfl))) (dg_name 5 nd))
      (dss_cons (ds_asg de_non (dg_name 6 nd))
      (dss_cons (ds_asg de_non (dg_name 7 nd))
      (dss_cons (ds_if (dt_cmp (op_eqA hu) sr_eq (de_var 1) de_str (nomark _))
      (dss_cons (ds_asg (de_callF c__law_speed tk (hr.mono (by decide)) (by rfl) (da_cons (de_var 0) da_nil)) (dg_name 6 nd))
      (dss_cons (ds_asg (de_callF c__law_speed tk (hr.mono (by decide)) (by rfl) (da_cons (de_var 0) da_nil)) (dg_name 7 nd))
      (dss_cons (ds_if (dt_w (dw_and (dt_cmp op_notN sr_notN (de_var 6) de_non (nomark _)) (dw_and (dt_cmp op_notN sr_notN (de_var 7) de_non (nomark _)) (dw_and1 (dt_cmp op_gt sr_I0 (de_var 6) (de_var 7) (nomark _))))))
      (dss_one (ds_par 6 7 nd rfl (da_cons (de_var 7) (da_cons (de_var 6) da_nil))))
      dss_nil)
      (dss_cons (ds_if (dt_w (dw_and (dt_cmp op_notN sr_notN (de_var 6) de_non (nomark _)) (dw_and (dt_cmp op_gt sr_I0 (de_var 6) de_int (nomark _)) (dw_and1 (dt_cmp op_gt sr_I0 (de_mul (de_var 6) (de_var 4)) (de_var 5) (nomark _))))))
      (dss_one (ds_asg (de_fdiv (de_var 5) (de_var 4)) (dg_name 6 nd)))
      dss_nil)
      (dss_one (ds_if (dt_w (dw_and (dt_cmp op_notN sr_notN (de_var 7) de_non (nomark _)) (dw_and (dt_cmp op_lt sr_I0 (de_var 7) de_int (nomark _)) (dw_and1 (dt_cmp op_gt sr_I0 (de_sub de_int (de_mul (de_var 7) (de_var 4))) (de_var 5) (nomark _))))))
      (dss_one (ds_asg (de_sub de_int (de_fdiv (de_var 5) (de_var 4))) (dg_name 7 nd)))
      dss_nil))))))
      dss_nil)
      (dss_cons (ds_if (dt_w (dw_and (dt_cmp (op_eqA hu) sr_eq (de_var 1) de_str (nomark _)) (dw_and1 (dt_cmp op_gt sr_I0 (de_var 4) (de_var 5) (nomark _)))))
      (dss_one (ds_asg (de_tup (da_cons (de_ix ix_S sr_ix (de_var 2) de_int (fun _ _ => rfl)) (da_cons (de_add (de_ix ix_S sr_ix (de_var 2) de_int (fun _ _ => rfl)) (de_var 5)) da_nil))) (dg_name 2 nd)))
      dss_nil)
      (dss_one (ds_ret (de_disp (dp_cons (de_var 2) (dp_cons (de_var 3) (dp_cons (de_var 1) (dp_cons (de_var 6) (dp_cons (de_var 7) dp_nil))))))))))))))))⟩) pure__law_facts
theorem sc__law_ends : FnScope ["_law_facts_here", "_law_rows", "_law_key", "_law_low", "_law_high", "_law_slow", "_law_quick", "_law_below", "_law_above", "_law_at", "_law_value"] ["_law_facts_here", "_law_rows", "_law_key"] (defScope (top 39)) := ⟨rfl, rfl, rfl, by decide +kernel, rfl, by decide +kernel, by decide +kernel⟩
theorem fk__law_ends (D : DefAt K mg "_law_ends" (top 39)) (bi : Bi mg) : Fnk P w K mg base "_law_ends" 1 ["_law_facts_here", "_law_rows", "_law_key"] [] [] sd__law_ends :=
  fnk_by (k := 0) (N := ["_law_facts_here", "_law_rows", "_law_key", "_law_low", "_law_high", "_law_slow", "_law_quick", "_law_below", "_law_above", "_law_at", "_law_value"]) (ds := d__law_ends) D sc__law_ends len__law_ends (fun _ _ _ _ _ _ us hl => match us, hl with | [_, _, _], _ => rfl) (fun X W f cdv A outer s H E eX eW tk po hr hu nd => ⟨_, (dss_cons (ds_asg (de_key hu (de_var 0)) (dg_sq rfl (dgs_cons (dg_name 3 nd) (dgs_cons (dg_name 4 nd) dgs_nil))))
      (dss_cons (ds_asg (de_key hu (de_var 0)) (dg_name 5 nd))
      (dss_cons (ds_asg (de_key hu (de_var 0)) (dg_name 6 nd))
      (dss_cons (ds_asg (de_sub (de_var 2) (de_ix ix_S sr_ix (de_key hu (de_var 0)) de_int (fun _ _ => rfl))) (dg_name 7 nd))
      (dss_cons (ds_asg (de_sub (de_ix ix_S sr_ix (de_key hu (de_var 0)) de_int (fun _ _ => rfl)) (de_var 2)) (dg_name 8 nd))
      (dss_cons (ds_if (dt_cmp op_notN sr_notN (de_var 5) de_non (nomark _))
      (dss_cons (ds_asg (de_cb (call_max2 rfl) sc_max2 (by rfl) bi.max (by decide +kernel) (da_cons (de_var 3) (da_cons (de_add (de_ix ix_S sr_ix (de_key hu (de_var 0)) de_int (fun _ _ => rfl)) (de_mul (de_var 5) (de_var 7))) da_nil))) (dg_name 3 nd))
      (dss_one (ds_asg (de_cb (call_min2 rfl) sc_min2 (by rfl) bi.min (by decide +kernel) (da_cons (de_var 4) (da_cons (de_sub (de_ix ix_S sr_ix (de_key hu (de_var 0)) de_int (fun _ _ => rfl)) (de_mul (de_var 5) (de_var 8))) da_nil))) (dg_name 4 nd))))
      dss_nil)
      (dss_cons (ds_if (dt_cmp op_notN sr_notN (de_var 6) de_non (nomark _))
      (dss_cons (ds_asg (de_cb (call_max2 rfl) sc_max2 (by rfl) bi.max (by decide +kernel) (da_cons (de_var 3) (da_cons (de_sub (de_ix ix_S sr_ix (de_key hu (de_var 0)) de_int (fun _ _ => rfl)) (de_mul (de_var 6) (de_var 8))) da_nil))) (dg_name 3 nd))
      (dss_one (ds_asg (de_cb (call_min2 rfl) sc_min2 (by rfl) bi.min (by decide +kernel) (da_cons (de_var 4) (da_cons (de_add (de_ix ix_S sr_ix (de_key hu (de_var 0)) de_int (fun _ _ => rfl)) (de_mul (de_var 6) (de_var 7))) da_nil))) (dg_name 4 nd))))
      dss_nil)
      (dss_cons (ds_for po rfl (di_seq (de_var 1)) (dg_sq rfl (dgs_cons (dg_name 9 nd) (dgs_cons (dg_name 10 nd) dgs_nil)))
      (dss_cons (ds_if (dt_w (dw_and (dt_cmp op_le sr_I0 (de_var 9) (de_var 2) (nomark _)) (dw_and1 (dt_cmp op_notN sr_notN (de_var 5) de_non (nomark _)))))
      (dss_one (ds_asg (de_cb (call_max2 rfl) sc_max2 (by rfl) bi.max (by decide +kernel) (da_cons (de_var 3) (da_cons (de_add (de_var 10) (de_mul (de_var 5) (de_sub (de_var 2) (de_var 9)))) da_nil))) (dg_name 3 nd)))
      dss_nil)
      (dss_cons (ds_if (dt_w (dw_and (dt_cmp op_le sr_I0 (de_var 9) (de_var 2) (nomark _)) (dw_and1 (dt_cmp op_notN sr_notN (de_var 6) de_non (nomark _)))))
      (dss_one (ds_asg (de_cb (call_min2 rfl) sc_min2 (by rfl) bi.min (by decide +kernel) (da_cons (de_var 4) (da_cons (de_add (de_var 10) (de_mul (de_var 6) (de_sub (de_var 2) (de_var 9)))) da_nil))) (dg_name 4 nd)))
      dss_nil)
      (dss_cons (ds_if (dt_w (dw_and (dt_cmp op_ge sr_I0 (de_var 9) (de_var 2) (nomark _)) (dw_and1 (dt_cmp op_notN sr_notN (de_var 6) de_non (nomark _)))))
      (dss_one (ds_asg (de_cb (call_max2 rfl) sc_max2 (by rfl) bi.max (by decide +kernel) (da_cons (de_var 3) (da_cons (de_sub (de_var 10) (de_mul (de_var 6) (de_sub (de_var 9) (de_var 2)))) da_nil))) (dg_name 3 nd)))
      dss_nil)
      (dss_cons (ds_if (dt_w (dw_and (dt_cmp op_ge sr_I0 (de_var 9) (de_var 2) (nomark _)) (dw_and1 (dt_cmp op_notN sr_notN (de_var 5) de_non (nomark _)))))
      (dss_one (ds_asg (de_cb (call_min2 rfl) sc_min2 (by rfl) bi.min (by decide +kernel) (da_cons (de_var 4) (da_cons (de_sub (de_var 10) (de_mul (de_var 5) (de_sub (de_var 9) (de_var 2)))) da_nil))) (dg_name 4 nd)))
      dss_nil)
      (dss_one (ds_if (dt_cmp (op_eqA hu) sr_eq (de_var 9) (de_var 2) (nomark _))
      (dss_cons (ds_asg (de_cb (call_max2 rfl) sc_max2 (by rfl) bi.max (by decide +kernel) (da_cons (de_var 3) (da_cons (de_var 10) da_nil))) (dg_name 3 nd))
      (dss_one (ds_asg (de_cb (call_min2 rfl) sc_min2 (by rfl) bi.min (by decide +kernel) (da_cons (de_var 4) (da_cons (de_var 10) da_nil))) (dg_name 4 nd))))
      dss_nil)))))))
      (dss_one (ds_ret (de_tup (da_cons (de_var 3) (da_cons (de_var 4) da_nil)))))))))))))⟩) pure__law_ends
theorem sc__law_free : FnScope ["_law_facts_here", "_law_rows", "_law_key", "_law_value", "_law_taken", "_law_at", "_law_told", "_law_turn"] ["_law_facts_here", "_law_rows", "_law_key", "_law_value"] (defScope (top 40)) := ⟨rfl, rfl, rfl, by decide +kernel, rfl, by decide +kernel, by decide +kernel⟩
theorem fk__law_free (D : DefAt K mg "_law_free" (top 40)) (bi : Bi mg) : Fnk P w K mg base "_law_free" 1 ["_law_facts_here", "_law_rows", "_law_key", "_law_value"] [] [] sd__law_free :=
  fnk_by (k := 0) (N := ["_law_facts_here", "_law_rows", "_law_key", "_law_value", "_law_taken", "_law_at", "_law_told", "_law_turn"]) (ds := d__law_free) D sc__law_free len__law_free (fun _ _ _ _ _ _ us hl => match us, hl with | [_, _, _, _], _ => rfl) (fun X W f cdv A outer s H E eX eW tk po hr hu nd => ⟨_, (dss_cons (ds_own 4 nd da_nil)
      (dss_cons (ds_for po rfl (di_seq (de_var 1)) (dg_sq rfl (dgs_cons (dg_name 5 nd) (dgs_cons (dg_name 6 nd) dgs_nil)))
      (dss_cons (ds_if (dt_cmp (op_eqA hu) sr_eq (de_var 5) (de_var 2) (nomark _))
      (dss_one (ds_retv 6))
      dss_nil)
      (dss_one (ds_app 4 (de_var 6)))))
      (dss_frz 4 (dss_cons (ds_for po rfl (di_range1 (by rfl) bi.range (da_cons (de_cb call_lenA sc_len (by rfl) bi.len (by decide +kernel) (da_cons (de_var 4) da_nil)) da_nil)) (dg_name 7 nd)
      (dss_cons (ds_if (dt_cmp op_in_seq sr_in (de_var 3) (de_var 4) (by with_unfolding_all rfl))
      (dss_one (ds_asg (de_add (de_var 3) de_int) (dg_name 3 nd)))
      dss_nil)
      (dss_one (ds_if (dt_cmp op_gt sr_I0 (de_var 3) (de_ix ix_S sr_ix (de_key hu (de_var 0)) de_int (fun _ _ => rfl)) (nomark _))
      (dss_one (ds_asg (de_ix ix_S sr_ix (de_key hu (de_var 0)) de_int (fun _ _ => rfl)) (dg_name 3 nd)))
      dss_nil))))
      (dss_one (ds_retv 3))))))⟩) pure__law_free
theorem sc__law_sampled : FnScope ["_law_draws_here", "_law_facts_here", "_law_many", "_law_rows", "_law_k", "_law_key", "_law_low", "_law_high", "_law_value"] ["_law_draws_here", "_law_facts_here", "_law_many"] (defScope (top 41)) := ⟨rfl, rfl, rfl, by decide +kernel, rfl, by decide +kernel, by decide +kernel⟩
theorem fk__law_sampled (D : DefAt K mg "_law_sampled" (top 41)) (bi : Bi mg) (c__law_next : Fnk P w K mg base "_law_next" 1 ["_law_draws_here", "_law_many"] [] [] sd__law_next) (c__law_amount : Fnk P w K mg base "_law_amount" 2 ["_law_draws_here", "_law_low", "_law_high"] [] [] sd__law_amount) (c__law_ends : Fnk P w K mg base "_law_ends" 1 ["_law_facts_here", "_law_rows", "_law_key"] [] [] sd__law_ends) (c__law_free : Fnk P w K mg base "_law_free" 1 ["_law_facts_here", "_law_rows", "_law_key", "_law_value"] [] [] sd__law_free) : Fnk P w K mg base "_law_sampled" 3 ["_law_draws_here", "_law_facts_here", "_law_many"] [] [] sd__law_sampled :=
  fnk_by (k := 2) (N := ["_law_draws_here", "_law_facts_here", "_law_many", "_law_rows", "_law_k", "_law_key", "_law_low", "_law_high", "_law_value"]) (ds := d__law_sampled) D sc__law_sampled len__law_sampled (fun _ _ _ _ _ _ us hl => match us, hl with | [_, _, _], _ => rfl) (fun X W f cdv A outer s H E eX eW tk po hr hu nd => ⟨_, (dss_cons (ds_own 3 nd da_nil)
      (dss_cons (ds_for po rfl (di_range1 (by rfl) bi.range (da_cons (de_callF c__law_next tk (hr.mono (by decide)) (by rfl) (da_cons (de_var 0) (da_cons (de_add (de_var 2) de_int) da_nil))) da_nil)) (dg_name 4 nd)
      (dss_cons (ds_asg (de_callF c__law_amount tk (hr.mono (by decide)) (by rfl) (da_cons (de_var 0) (da_cons (de_ix ix_S sr_ix (de_key hu (de_var 1)) de_int (fun _ _ => rfl)) (da_cons (de_ix ix_S sr_ix (de_key hu (de_var 1)) de_int (fun _ _ => rfl)) da_nil)))) (dg_name 5 nd))
      (dss_cons (ds_asg (de_lend (de_callF c__law_ends tk (hr.mono (by decide)) (by rfl) (da_cons (de_var 1) (da_cons (de_var 3) (da_cons (de_var 5) da_nil))))) (dg_sq rfl (dgs_cons (dg_name 6 nd) (dgs_cons (dg_name 7 nd) dgs_nil))))
      (dss_cons (ds_asg (de_callF c__law_amount tk (hr.mono (by decide)) (by rfl) (da_cons (de_var 0) (da_cons (de_var 6) (da_cons (de_var 7) da_nil)))) (dg_name 8 nd))
      (dss_cons (ds_if (dt_cmp (op_eqA hu) sr_eq (de_key hu (de_var 1)) de_str (nomark _))
      (dss_one (ds_asg (de_lend (de_callF c__law_free tk (hr.mono (by decide)) (by rfl) (da_cons (de_var 1) (da_cons (de_var 3) (da_cons (de_var 5) (da_cons (de_var 8) da_nil)))))) (dg_name 8 nd)))
      dss_nil)
      (dss_one (ds_app 3 (de_tup (da_cons (de_var 5) (da_cons (de_var 8) da_nil))))))))))
      (dss_one (ds_retv 3))))⟩) pure__law_sampled
theorem sc__law_promise : FnScope ["_law_facts_here"] ["_law_facts_here"] (defScope (top 42)) := ⟨rfl, rfl, rfl, by decide +kernel, rfl, by decide +kernel, by decide +kernel⟩
theorem fk__law_promise {kl : Kl} (D : DefAt K mg "_law_promise" (top 42)) (bi : Bi mg) (cf : Cf K mg kl) (k_Pace : MakeOk P w K mg base 3 "Pace" (kl).Pace (sd_Pace___init__ kl)) (kb_OneToOne : Mk0 K (kl).OneToOne) (kb_Promise : Mk0 K (kl).Promise) : Fnk P w K mg base "_law_promise" 5 ["_law_facts_here"] [] [] (sd__law_promise kl) :=
  fnk_by (k := 4) (N := ["_law_facts_here"]) (ds := d__law_promise kl) D sc__law_promise (len__law_promise kl) (fun _ _ _ _ _ _ us hl => match us, hl with | [_], _ => rfl) (fun X W f cdv A outer s H E eX eW tk po hr hu nd => ⟨_, (dss_cons (ds_if (dt_cmp (op_eqA hu) sr_eq (de_key hu (de_var 0)) de_str (nomark _))
      (dss_one (ds_ret (de_make k_Pace tk (hr.mono (by decide)) (by rfl) (da_cons (de_key hu (de_var 0)) (da_cons (de_key hu (de_var 0)) da_nil)))))
      dss_nil)
      (dss_cons (ds_if (dt_cmp (op_eqA hu) sr_eq (de_key hu (de_var 0)) de_str (nomark _))
      (dss_one (ds_ret (de_bare kb_OneToOne (by rfl) cf.g_OneToOne)))
      dss_nil)
      (dss_one (ds_ret (de_bare kb_Promise (by rfl) cf.g_Promise)))))⟩) (pure__law_promise kl)
theorem sc__law_spoilt_ends : FnScope ["_law_draws_here", "_law_ends_here", "_law_kind", "_law_more"] ["_law_draws_here", "_law_ends_here"] (defScope (top 43)) := ⟨rfl, rfl, rfl, by decide +kernel, rfl, by decide +kernel, by decide +kernel⟩
theorem fk__law_spoilt_ends (D : DefAt K mg "_law_spoilt_ends" (top 43)) (bi : Bi mg) (c__law_next : Fnk P w K mg base "_law_next" 1 ["_law_draws_here", "_law_many"] [] [] sd__law_next) : Fnk P w K mg base "_law_spoilt_ends" 2 ["_law_draws_here", "_law_ends_here"] [] [] sd__law_spoilt_ends :=
  fnk_by (k := 1) (N := ["_law_draws_here", "_law_ends_here", "_law_kind", "_law_more"]) (ds := d__law_spoilt_ends) D sc__law_spoilt_ends len__law_spoilt_ends (fun _ _ _ _ _ _ us hl => match us, hl with | [_, _], _ => rfl) (fun X W f cdv A outer s H E eX eW tk po hr hu nd => ⟨_, (dss_cons (ds_asg (de_callF c__law_next tk (hr.mono (by decide)) (by rfl) (da_cons (de_var 0) (da_cons de_int da_nil))) (dg_name 2 nd))
      (dss_cons (ds_asg (de_add de_int (de_callF c__law_next tk (hr.mono (by decide)) (by rfl) (da_cons (de_var 0) (da_cons de_int da_nil)))) (dg_name 3 nd))
      (dss_cons (ds_if (dt_cmp (op_eqA hu) sr_eq (de_var 2) de_int (nomark _))
      (dss_one (ds_ret (de_tup (da_cons (de_sub (de_neg (de_pow de_int de_int)) (de_var 3)) (da_cons (de_ix ix_S sr_ix (de_var 1) de_int (fun _ _ => rfl)) da_nil)))))
      dss_nil)
      (dss_cons (ds_if (dt_cmp (op_eqA hu) sr_eq (de_var 2) de_int (nomark _))
      (dss_one (ds_ret (de_tup (da_cons (de_ix ix_S sr_ix (de_var 1) de_int (fun _ _ => rfl)) (da_cons (de_add (de_pow de_int de_int) (de_var 3)) da_nil)))))
      dss_nil)
      (dss_one (ds_ret (de_tup (da_cons (de_add (de_ix ix_S sr_ix (de_var 1) de_int (fun _ _ => rfl)) (de_var 3)) (da_cons (de_ix ix_S sr_ix (de_var 1) de_int (fun _ _ => rfl)) da_nil)))))))))⟩) pure__law_spoilt_ends
theorem sc__law_spoilt_facts : FnScope ["_law_draws_here", "_law_facts_here", "_law_span", "_law_room", "_law_more"] ["_law_draws_here", "_law_facts_here"] (defScope (top 44)) := ⟨rfl, rfl, rfl, by decide +kernel, rfl, by decide +kernel, by decide +kernel⟩
theorem fkp__law_spoilt_facts {kl : Kl} (D : DefAt K mg "_law_spoilt_facts" (top 44)) (bi : Bi mg) (c__law_next : Fnk P w K mg base "_law_next" 1 ["_law_draws_here", "_law_many"] [] [] sd__law_next) : FnkP P w K mg base "_law_spoilt_facts" 2 ["_law_draws_here", "_law_facts_here"] (sd__law_spoilt_facts kl) :=
  fnkp_by (k := 1) (N := ["_law_draws_here", "_law_facts_here", "_law_span", "_law_room", "_law_more"]) (ds := d__law_spoilt_facts) D sc__law_spoilt_facts (len__law_spoilt_facts kl) (fun _ _ _ _ _ _ us hl => match us, hl with | [_, _], _ => rfl) (fun X W f cdv A outer s H E eX eW tk po hr hu nd => ⟨_, (dss_cons (ds_asg (de_sub (de_ix ix_S sr_ix (de_odKey 1 hu de_str) de_int (fun _ _ => rfl)) (de_ix ix_S sr_ix (de_odKey 1 hu de_str) de_int (fun _ _ => rfl))) (dg_name 2 nd))
      (dss_cons (ds_asg (de_sub (de_ix ix_S sr_ix (de_odKey 1 hu de_str) de_int (fun _ _ => rfl)) (de_ix ix_S sr_ix (de_odKey 1 hu de_str) de_int (fun _ _ => rfl))) (dg_name 3 nd))
      (dss_cons (ds_asg (de_add de_int (de_callF c__law_next tk (hr.mono (by decide)) (by rfl) (da_cons (de_var 0) (da_cons de_int da_nil)))) (dg_name 4 nd))
      (dss_cons (ds_if (dt_w (dw_and (dt_cmp (op_eqA hu) sr_eq (de_odKey 1 hu de_str) de_str (nomark _)) (dw_and (dt_cmp op_gt sr_I0 (de_var 2) de_int (nomark _)) (dw_and1 (dt_cmp op_le sr_I0 (de_add (de_fdivM (de_var 3) (de_var 2)) (de_var 4)) (de_pow de_int de_int) (nomark _))))))
      (dss_cons (ds_odSet 1 hu de_str (de_add (de_fdivM (de_var 3) (de_var 2)) (de_var 4)))
      (dss_cons (ds_odSet 1 hu de_str de_non)
      (dss_one (ds_if (dt_cmp (op_eqA hu) sr_eq (de_callF c__law_next tk (hr.mono (by decide)) (by rfl) (da_cons (de_var 0) (da_cons de_int da_nil))) de_int (nomark _))
      (dss_cons (ds_odSet 1 hu de_str (de_sub de_int (de_odKey 1 hu de_str)))
      (dss_one (ds_odSet 1 hu de_str de_non)))
      dss_nil))))
      dss_nil)
      (dss_cons (ds_if (dt_w (dw_and (dt_cmp (op_eqA hu) sr_eq (de_odKey 1 hu de_str) de_str (nomark _)) (dw_and1 (dt_cmp op_le sr_I0 (de_add (de_add (de_ix ix_S sr_ix (de_odKey 1 hu de_str) de_int (fun _ _ => rfl)) (de_var 3)) (de_var 4)) (de_pow de_int de_int) (nomark _)))))
      (dss_one (ds_odSet 1 hu de_str (de_tup (da_cons (de_ix ix_S sr_ix (de_odKey 1 hu de_str) de_int (fun _ _ => rfl)) (da_cons (de_add (de_add (de_ix ix_S sr_ix (de_odKey 1 hu de_str) de_int (fun _ _ => rfl)) (de_var 3)) (de_var 4)) da_nil)))))
      dss_nil)
      (dss_frzD 1 (dss_one (ds_retv 1))))))))⟩) (pure__law_spoilt_facts kl)
theorem sc__law_spoilt_samples : FnScope ["_law_draws_here", "_law_facts_here", "_law_rows", "_law_place", "_law_more", "_law_kind", "_law_key", "_law_low", "_law_high", "_law_bad"] ["_law_draws_here", "_law_facts_here", "_law_rows"] (defScope (top 45)) := ⟨rfl, rfl, rfl, by decide +kernel, rfl, by decide +kernel, by decide +kernel⟩
theorem fk__law_spoilt_samples (D : DefAt K mg "_law_spoilt_samples" (top 45)) (bi : Bi mg) (c__law_next : Fnk P w K mg base "_law_next" 1 ["_law_draws_here", "_law_many"] [] [] sd__law_next) (c__law_amount : Fnk P w K mg base "_law_amount" 2 ["_law_draws_here", "_law_low", "_law_high"] [] [] sd__law_amount) (c__law_ends : Fnk P w K mg base "_law_ends" 1 ["_law_facts_here", "_law_rows", "_law_key"] [] [] sd__law_ends) : Fnk P w K mg base "_law_spoilt_samples" 3 ["_law_draws_here", "_law_facts_here", "_law_rows"] [] [] sd__law_spoilt_samples :=
  fnk_by (k := 2) (N := ["_law_draws_here", "_law_facts_here", "_law_rows", "_law_place", "_law_more", "_law_kind", "_law_key", "_law_low", "_law_high", "_law_bad"]) (ds := d__law_spoilt_samples) D sc__law_spoilt_samples len__law_spoilt_samples (fun _ _ _ _ _ _ us hl => match us, hl with | [_, _, _], _ => rfl) (fun X W f cdv A outer s H E eX eW tk po hr hu nd => ⟨_, (dss_cons (ds_asg (de_callF c__law_next tk (hr.mono (by decide)) (by rfl) (da_cons (de_var 0) (da_cons (de_add (de_cb call_lenA sc_len (by rfl) bi.len (by decide +kernel) (da_cons (de_var 2) da_nil)) de_int) da_nil))) (dg_name 3 nd))
      (dss_cons (ds_asg (de_add de_int (de_callF c__law_next tk (hr.mono (by decide)) (by rfl) (da_cons (de_var 0) (da_cons de_int da_nil)))) (dg_name 4 nd))
      (dss_cons (ds_asg (de_callF c__law_next tk (hr.mono (by decide)) (by rfl) (da_cons (de_var 0) (da_cons de_int da_nil))) (dg_name 5 nd))
      (dss_cons (ds_asg (de_callF c__law_amount tk (hr.mono (by decide)) (by rfl) (da_cons (de_var 0) (da_cons (de_ix ix_S sr_ix (de_key hu (de_var 1)) de_int (fun _ _ => rfl)) (da_cons (de_ix ix_S sr_ix (de_key hu (de_var 1)) de_int (fun _ _ => rfl)) da_nil)))) (dg_name 6 nd))
      (dss_cons (ds_asg (de_callF c__law_ends tk (hr.mono (by decide)) (by rfl) (da_cons (de_var 1) (da_cons (de_slc (de_var 2) do_none (do_some (de_var 3))) (da_cons (de_var 6) da_nil)))) (dg_sq rfl (dgs_cons (dg_name 7 nd) (dgs_cons (dg_name 8 nd) dgs_nil))))
      (dss_cons (ds_asg (de_tup (da_cons (de_var 6) (da_cons (de_add (de_var 8) (de_var 4)) da_nil))) (dg_name 9 nd))
      (dss_cons (ds_if (dt_cmp (op_eqA hu) sr_eq (de_var 5) de_int (nomark _))
      (dss_one (ds_asg (de_tup (da_cons (de_var 6) (da_cons (de_sub (de_var 7) (de_var 4)) da_nil))) (dg_name 9 nd)))
      dss_nil)
      (dss_cons (ds_if (dt_cmp (op_eqA hu) sr_eq (de_var 5) de_int (nomark _))
      (dss_one (ds_asg (de_tup (da_cons (de_add (de_ix ix_S sr_ix (de_key hu (de_var 1)) de_int (fun _ _ => rfl)) (de_var 4)) (da_cons (de_var 7) da_nil))) (dg_name 9 nd)))
      dss_nil)
      (dss_cons (ds_if (dt_cmp (op_eqA hu) sr_eq (de_var 5) de_int (nomark _))
      (dss_one (ds_asg (de_tup (da_cons (de_sub (de_ix ix_S sr_ix (de_key hu (de_var 1)) de_int (fun _ _ => rfl)) (de_var 4)) (da_cons (de_var 7) da_nil))) (dg_name 9 nd)))
      dss_nil)
      (dss_one (ds_ret (de_add (de_add (de_slc (de_var 2) do_none (do_some (de_var 3))) (de_lst (da_cons (de_var 9) da_nil))) (de_slc (de_var 2) (do_some (de_var 3)) do_none)))))))))))))⟩) pure__law_spoilt_samples
theorem sc__law_possible_value : FnScope ["_law_facts_here", "_law_rows", "_law_key", "_law_value", "_law_low", "_law_high"] ["_law_facts_here", "_law_rows", "_law_key", "_law_value"] (defScope (top 46)) := ⟨rfl, rfl, rfl, by decide +kernel, rfl, by decide +kernel, by decide +kernel⟩
theorem fk__law_possible_value (D : DefAt K mg "_law_possible_value" (top 46)) (bi : Bi mg) (c__law_ends : Fnk P w K mg base "_law_ends" 1 ["_law_facts_here", "_law_rows", "_law_key"] [] [] sd__law_ends) (c__law_free : Fnk P w K mg base "_law_free" 1 ["_law_facts_here", "_law_rows", "_law_key", "_law_value"] [] [] sd__law_free) : Fnk P w K mg base "_law_possible_value" 2 ["_law_facts_here", "_law_rows", "_law_key", "_law_value"] [] [] sd__law_possible_value :=
  fnk_by (k := 1) (N := ["_law_facts_here", "_law_rows", "_law_key", "_law_value", "_law_low", "_law_high"]) (ds := d__law_possible_value) D sc__law_possible_value len__law_possible_value (fun _ _ _ _ _ _ us hl => match us, hl with | [_, _, _, _], _ => rfl) (fun X W f cdv A outer s H E eX eW tk po hr hu nd => ⟨_, (dss_cons (ds_asg (de_callF c__law_ends tk (hr.mono (by decide)) (by rfl) (da_cons (de_var 0) (da_cons (de_var 1) (da_cons (de_var 2) da_nil)))) (dg_sq rfl (dgs_cons (dg_name 4 nd) (dgs_cons (dg_name 5 nd) dgs_nil))))
      (dss_cons (ds_if (dt_w (dw_or (dt_cmp op_lt sr_I0 (de_var 3) (de_var 4) (nomark _)) (dw_or1 (dt_cmp op_gt sr_I0 (de_var 3) (de_var 5) (nomark _)))))
      (dss_one (ds_ret de_bl))
      dss_nil)
      (dss_one (ds_ret (de_or (de_cmp (op_neA hu) sr_ne (de_key hu (de_var 0)) de_str (nomark _)) (de_oneO (de_cmp (op_eqA hu) sr_eq (de_callF c__law_free tk (hr.mono (by decide)) (by rfl) (da_cons (de_var 0) (da_cons (de_var 1) (da_cons (de_var 2) (da_cons (de_var 3) da_nil))))) (de_var 3) (nomark _))))))))⟩) pure__law_possible_value
theorem sc__law_known_fault : FnScope ["_law_facts_here", "_law_rows", "_law_keys", "_law_values", "_law_ends_here", "_law_span", "_law_room", "_law_slow", "_law_quick", "_law_k", "_law_key", "_law_value"] ["_law_facts_here", "_law_rows"] (defScope (top 47)) := ⟨rfl, rfl, rfl, by decide +kernel, rfl, by decide +kernel, by decide +kernel⟩
theorem fk__law_known_fault (D : DefAt K mg "_law_known_fault" (top 47)) (bi : Bi mg) (c__law_possible_value : Fnk P w K mg base "_law_possible_value" 2 ["_law_facts_here", "_law_rows", "_law_key", "_law_value"] [] [] sd__law_possible_value) : Fnk P w K mg base "_law_known_fault" 3 ["_law_facts_here", "_law_rows"] [] [] sd__law_known_fault :=
  fnk_by (k := 2) (N := ["_law_facts_here", "_law_rows", "_law_keys", "_law_values", "_law_ends_here", "_law_span", "_law_room", "_law_slow", "_law_quick", "_law_k", "_law_key", "_law_value"]) (ds := d__law_known_fault) D sc__law_known_fault len__law_known_fault (fun _ _ _ _ _ _ us hl => match us, hl with | [_, _], _ => rfl) (fun X W f cdv A outer s H E eX eW tk po hr hu nd => ⟨_, (dss_cons (ds_asg (de_key hu (de_var 0)) (dg_name 2 nd))
      (dss_cons (ds_asg (de_key hu (de_var 0)) (dg_name 3 nd))
      (dss_cons (ds_for po rfl (di_seq (de_lst (da_cons (de_var 2) (da_cons (de_var 3) da_nil)))) (dg_name 4 nd)
      (dss_one (ds_if (dt_w (dw_or (dt_cmp op_lt sr_I0 (de_ix ix_S sr_ix (de_var 4) de_int (fun _ _ => rfl)) (de_neg (de_pow de_int de_int)) (nomark _)) (dw_or (dt_cmp op_gt sr_I0 (de_ix ix_S sr_ix (de_var 4) de_int (fun _ _ => rfl)) (de_pow de_int de_int) (nomark _)) (dw_or1 (dt_cmp op_gt sr_I0 (de_ix ix_S sr_ix (de_var 4) de_int (fun _ _ => rfl)) (de_ix ix_S sr_ix (de_var 4) de_int (fun _ _ => rfl)) (nomark _))))))
      (dss_one (ds_ret (de_lst (da_cons de_str (da_cons (de_ix ix_S sr_ix (de_var 4) de_int (fun _ _ => rfl)) (da_cons (de_ix ix_S sr_ix (de_var 4) de_int (fun _ _ => rfl)) (da_cons de_bl da_nil)))))))
      dss_nil)))
      (dss_cons (ds_asg (de_sub (de_ix ix_S sr_ix (de_var 2) de_int (fun _ _ => rfl)) (de_ix ix_S sr_ix (de_var 2) de_int (fun _ _ => rfl))) (dg_name 5 nd))
      (dss_cons (ds_asg (de_sub (de_ix ix_S sr_ix (de_var 3) de_int (fun _ _ => rfl)) (de_ix ix_S sr_ix (de_var 3) de_int (fun _ _ => rfl))) (dg_name 6 nd))
      (dss_cons (ds_asg (de_key hu (de_var 0)) (dg_name 7 nd))
      (dss_cons (ds_asg (de_key hu (de_var 0)) (dg_name 8 nd))
      (dss_cons (ds_if (dt_w (dw_and (dt_cmp (op_eqA hu) sr_eq (de_key hu (de_var 0)) de_str (nomark _)) (dw_and1 (dt_cmp op_gt sr_I0 (de_var 5) (de_var 6) (nomark _)))))
      (dss_one (ds_ret (de_lst (da_cons de_str (da_cons de_bl da_nil)))))
      dss_nil)
      (dss_cons (ds_if (dt_w (dw_or (dt_w (dw_and (dt_cmp op_notN sr_notN (de_var 7) de_non (nomark _)) (dw_and1 (dt_cmp op_gt sr_I0 (de_mul (de_var 7) (de_var 5)) (de_var 6) (nomark _))))) (dw_or1 (dt_w (dw_and (dt_cmp op_notN sr_notN (de_var 8) de_non (nomark _)) (dw_and1 (dt_cmp op_gt sr_I0 (de_sub de_int (de_mul (de_var 8) (de_var 5))) (de_var 6) (nomark _))))))))
      (dss_one (ds_ret (de_lst (da_cons de_str (da_cons de_bl da_nil)))))
      dss_nil)
      (dss_cons (ds_for po rfl (di_range1 (by rfl) bi.range (da_cons (de_cb call_lenA sc_len (by rfl) bi.len (by decide +kernel) (da_cons (de_var 1) da_nil)) da_nil)) (dg_name 9 nd)
      (dss_cons (ds_asg (de_ix ix_S sr_ix (de_var 1) (de_var 9) (fun _ _ => rfl)) (dg_sq rfl (dgs_cons (dg_name 10 nd) (dgs_cons (dg_name 11 nd) dgs_nil))))
      (dss_cons (ds_if (dt_w (dw_or (dt_cmp op_lt sr_I0 (de_var 10) (de_ix ix_S sr_ix (de_var 2) de_int (fun _ _ => rfl)) (nomark _)) (dw_or1 (dt_cmp op_gt sr_I0 (de_var 10) (de_ix ix_S sr_ix (de_var 2) de_int (fun _ _ => rfl)) (nomark _)))))
      (dss_one (ds_ret (de_lst (da_cons de_str (da_cons (de_var 10) (da_cons de_bl da_nil))))))
      dss_nil)
      (dss_one (ds_if (dt_not (dt_tru (de_callF c__law_possible_value tk (hr.mono (by decide)) (by rfl) (da_cons (de_var 0) (da_cons (de_slc (de_var 1) do_none (do_some (de_var 9))) (da_cons (de_var 10) (da_cons (de_var 11) da_nil)))))))
      (dss_one (ds_ret (de_lst (da_cons de_str (da_cons (de_var 10) (da_cons (de_var 11) (da_cons de_bl da_nil)))))))
      dss_nil)))))
      (dss_one (ds_ret (de_lst (da_cons de_str da_nil))))))))))))))⟩) pure__law_known_fault
theorem sc__law_tried : FnScope ["_law_facts_here", "_law_rows", "_law_keys", "_law_values", "_law_made", "_law_told", "e"] ["_law_facts_here", "_law_rows"] (defScope (top 48)) := ⟨rfl, rfl, rfl, by decide +kernel, rfl, by decide +kernel, by decide +kernel⟩
theorem fk__law_tried {kl : Kl} (D : DefAt K mg "_law_tried" (top 48)) (bi : Bi mg) (c__law_promise : Fnk P w K mg base "_law_promise" 5 ["_law_facts_here"] [] [] (sd__law_promise kl)) (cf : Cf K mg kl) (kn_Known_promise_least_greatest_samples : MakeOkN P w K mg base 11 "Known" (kl).Known (sd_Known___init__ kl) 2 ["promise", "least", "greatest", "samples"] (fun vs zs => vs ++ ((zs.drop 0).take 1 ++ ((zs.drop 1).take 1 ++ ((zs.drop 2).take 1 ++ ((zs.drop 3).take 1 ++ [])))))) : Fnk P w K mg base "_law_tried" 13 ["_law_facts_here", "_law_rows"] [] [] (sd__law_tried kl) :=
  fnk_by (k := 12) (N := ["_law_facts_here", "_law_rows", "_law_keys", "_law_values", "_law_made", "_law_told", "e"]) (ds := d__law_tried kl) D sc__law_tried (len__law_tried kl) (fun _ _ _ _ _ _ us hl => match us, hl with | [_, _], _ => rfl) (fun X W f cdv A outer s H E eX eW tk po hr hu nd => ⟨_, (dss_cons (ds_asg (de_key hu (de_var 0)) (dg_name 2 nd))
      (dss_cons (ds_asg (de_key hu (de_var 0)) (dg_name 3 nd))
      (dss_cons (ds_asg (de_callF c__law_promise tk (hr.mono (by decide)) (by rfl) (da_cons (de_var 0) da_nil)) (dg_name 4 nd))
      (dss_cons (ds_asg (de_lst da_nil) (dg_name 5 nd))
      (dss_cons (ds_try nd tk (fun W' pn xe tk po => (dss_cons (ds_expr (de_makeN kn_Known_promise_least_greatest_samples tk (hr.mono (by decide)) (by rfl) (da_cons (de_ix ix_S sr_ix (de_var 2) de_int (fun _ _ => rfl)) (da_cons (de_ix ix_S sr_ix (de_var 2) de_int (fun _ _ => rfl)) da_nil)) (dk_cons (de_var 4) (dk_cons (de_ix ix_S sr_ix (de_var 3) de_int (fun _ _ => rfl)) (dk_cons (de_ix ix_S sr_ix (de_var 3) de_int (fun _ _ => rfl)) (dk_cons (de_var 1) dk_nil)))) (fun r s => pairs_app r (pairs_app (pairs_cut 0 s) (pairs_app (pairs_cut 1 s) (pairs_app (pairs_cut 2 s) (pairs_app (pairs_cut 3 s) .nil)))))))
      (dss_one (ds_asg (de_lst (da_cons de_str da_nil)) (dg_name 5 nd)))))
      (dck_named (i := 6) cf.exm_BadStretch (by rfl) cf.g_BadStretch (fun a oe cls d pn hz hf => (dss_one (ds_asg (de_lst (da_cons de_str (da_cons (de_xf cf.xf_BadStretch cf.no_BadStretch_low hz hf (de_var 6)) (da_cons (de_xf cf.xf_BadStretch cf.no_BadStretch_high hz hf (de_var 6)) (da_cons (de_and (de_cb (call_isX hz hf) (sc_isX cf.isx_ReadError) (by rfl) bi.isinstance (by decide +kernel) (da_cons (de_var 6) (da_cons (de_clsn (by rfl) cf.g_ReadError) da_nil))) (de_oneA (de_cb (call_isX hz hf) (sc_isX cf.isx_ValueError) (by rfl) bi.isinstance (by decide +kernel) (da_cons (de_var 6) (da_cons (de_tyn (by rfl) bi.ValueError (by decide +kernel)) da_nil))))) da_nil))))) (dg_name 5 nd)))) (dck_named (i := 6) cf.exm_Contradiction (by rfl) cf.g_Contradiction (fun a oe cls d pn hz hf => (dss_one (ds_asg (de_lst (da_cons de_str (da_cons (de_and (de_cb (call_isX hz hf) (sc_isX cf.isx_ReadError) (by rfl) bi.isinstance (by decide +kernel) (da_cons (de_var 6) (da_cons (de_clsn (by rfl) cf.g_ReadError) da_nil))) (de_oneA (de_cb (call_isX hz hf) (sc_isX cf.isx_ValueError) (by rfl) bi.isinstance (by decide +kernel) (da_cons (de_var 6) (da_cons (de_tyn (by rfl) bi.ValueError (by decide +kernel)) da_nil))))) da_nil))) (dg_name 5 nd)))) (dck_named (i := 6) cf.exm_NoKey (by rfl) cf.g_NoKey (fun a oe cls d pn hz hf => (dss_one (ds_asg (de_lst (da_cons de_str (da_cons (de_xf cf.xf_NoKey cf.no_NoKey_key hz hf (de_var 6)) (da_cons (de_and (de_cb (call_isX hz hf) (sc_isX cf.isx_ReadError) (by rfl) bi.isinstance (by decide +kernel) (da_cons (de_var 6) (da_cons (de_clsn (by rfl) cf.g_ReadError) da_nil))) (de_oneA (de_cb (call_isX hz hf) (sc_isX cf.isx_ValueError) (by rfl) bi.isinstance (by decide +kernel) (da_cons (de_var 6) (da_cons (de_tyn (by rfl) bi.ValueError (by decide +kernel)) da_nil))))) da_nil)))) (dg_name 5 nd)))) (dck_named (i := 6) cf.exm_Impossible (by rfl) cf.g_Impossible (fun a oe cls d pn hz hf => (dss_one (ds_asg (de_lst (da_cons de_str (da_cons (de_xf cf.xf_Impossible cf.no_Impossible_key hz hf (de_var 6)) (da_cons (de_xf cf.xf_Impossible cf.no_Impossible_value hz hf (de_var 6)) (da_cons (de_and (de_cb (call_isX hz hf) (sc_isX cf.isx_ReadError) (by rfl) bi.isinstance (by decide +kernel) (da_cons (de_var 6) (da_cons (de_clsn (by rfl) cf.g_ReadError) da_nil))) (de_oneA (de_cb (call_isX hz hf) (sc_isX cf.isx_ValueError) (by rfl) bi.isinstance (by decide +kernel) (da_cons (de_var 6) (da_cons (de_tyn (by rfl) bi.ValueError (by decide +kernel)) da_nil))))) da_nil))))) (dg_name 5 nd)))) (dck_bare cf.exm_ReadError (by rfl) cf.g_ReadError (fun a oe cls d pn hz hf => (dss_one (ds_asg (de_lst (da_cons de_str da_nil)) (dg_name 5 nd)))) dck_nil))))))
      (dss_one (ds_retv 5)))))))⟩) (pure__law_tried kl)
theorem sc_law : FnScope ["_law_script", "_law_draws_here", "_law_facts_here", "_law_rows", "_law_handed", "_law_told"] ["_law_script"] (defScope (top 49)) := ⟨rfl, rfl, rfl, by decide +kernel, rfl, by decide +kernel, by decide +kernel⟩
theorem ok_law {kl : Kl} {f : Addr} {fd : FuncData} (F : FunD K "law" "law" (defArgs (top 49)) (defBody (top 49)) (defScope (top 49)) [] [] f fd) (bi : Bi mg) (dk : Drk P w K mg base) (c__law_next : Fnk P w K mg base "_law_next" 1 ["_law_draws_here", "_law_many"] [] [] sd__law_next) (c__law_facts : Fnk P w K mg base "_law_facts" 4 ["_law_draws_here", "_law_kind"] [] [] sd__law_facts) (c__law_sampled : Fnk P w K mg base "_law_sampled" 3 ["_law_draws_here", "_law_facts_here", "_law_many"] [] [] sd__law_sampled) (c__law_tried : Fnk P w K mg base "_law_tried" 13 ["_law_facts_here", "_law_rows"] [] [] (sd__law_tried kl)) (c__law_spoilt_samples : Fnk P w K mg base "_law_spoilt_samples" 3 ["_law_draws_here", "_law_facts_here", "_law_rows"] [] [] sd__law_spoilt_samples) (c__law_spoilt_ends : Fnk P w K mg base "_law_spoilt_ends" 2 ["_law_draws_here", "_law_ends_here"] [] [] sd__law_spoilt_ends) (c__law_known_fault : Fnk P w K mg base "_law_known_fault" 3 ["_law_facts_here", "_law_rows"] [] [] sd__law_known_fault) (cf : Cf K mg kl) (pf__law_spoilt_facts : FnkP P w K mg base "_law_spoilt_facts" 2 ["_law_draws_here", "_law_facts_here"] (sd__law_spoilt_facts kl)) : FnOk P w K mg base (L2.CX P w) 14 f fd ["_law_script"] (spLaw K) :=
  fn_lawL (k := 13) (ds := (d_law kl)) F sc_law (by decide) (fun cdv A outer s H E hr =>
    have tk := tk_cx (P := P) (w := w) (K := K) (mg := mg) (base := base) (N := ["_law_script", "_law_draws_here", "_law_facts_here", "_law_rows", "_law_handed", "_law_told"]) (qual := "law") (scope := defScope (top 49)) (f := f) (cdv := cdv) (A := A) (outer := outer) (s := s) (H := H) (E := E)
    have po := po_cx (P := P) (w := w) (K := K) (mg := mg) (base := base) (N := ["_law_script", "_law_draws_here", "_law_facts_here", "_law_rows", "_law_handed", "_law_told"]) (qual := "law") (scope := defScope (top 49)) (f := f) (cdv := cdv) (A := A) (outer := outer) (s := s) (H := H) (E := E)
    have hu := hr.units
    have nd := sc_law.nd
    have T : DSSL (cxOf (L2.CX P w) P w K mg base ["_law_script", "_law_draws_here", "_law_facts_here", "_law_rows", "_law_handed", "_law_told"] "law" (defScope (top 49)) f cdv A outer s H E) (WX0 E) ((defBody (top 49)).drop 1) _ (d_law kl) := (dssl_cons (dsl_of (ds_asg (de_callF c__law_facts tk (hr.mono (by decide)) (by rfl) (da_cons (de_var 1) (da_cons (de_ix ix_S sr_ix (de_lst (da_cons de_str (da_cons de_str (da_cons de_str (da_cons de_str da_nil))))) (de_callF c__law_next tk (hr.mono (by decide)) (by rfl) (da_cons (de_var 1) (da_cons de_int da_nil))) (fun _ _ => rfl)) da_nil))) (dg_name 2 nd)))
      (dssl_cons (dsl_of (ds_asg (de_callF c__law_sampled tk (hr.mono (by decide)) (by rfl) (da_cons (de_var 1) (da_cons (de_var 2) (da_cons de_int da_nil)))) (dg_name 3 nd)))
      (dssl_cons (dsl_of (ds_if (dt_cmp (op_neA hu) sr_ne (de_callF c__law_tried tk (hr.mono (by decide)) (by rfl) (da_cons (de_var 2) (da_cons (de_ct call_listS sc_list (by rfl) bi.list (by decide +kernel) (da_cons (de_var 3) da_nil)) da_nil))) (de_lst (da_cons de_str da_nil)) (nomark _))
      (dss_one (ds_ret de_bl))
      dss_nil))
      (dssl_cons (dsl_of (ds_if (dt_cmp (op_neA hu) sr_ne (de_callF c__law_next tk (hr.mono (by decide)) (by rfl) (da_cons (de_var 1) (da_cons de_int da_nil))) de_int (nomark _))
      (dss_one (ds_asg (de_callF c__law_spoilt_samples tk (hr.mono (by decide)) (by rfl) (da_cons (de_var 1) (da_cons (de_var 2) (da_cons (de_var 3) da_nil)))) (dg_name 3 nd)))
      dss_nil))
      (dssl_cons (dsl_if (dt_cmp (op_eqA hu) sr_eq (de_callF c__law_next tk (hr.mono (by decide)) (by rfl) (da_cons (de_var 1) (da_cons de_int da_nil))) de_int (nomark _))
      (dssl_one (dsl_callP 2 nd pf__law_spoilt_facts tk (hr.mono (by decide)) (by rfl) (de_var 1)))
      dssl_nil)
      (dssl_cons (dsl_if (dt_cmp (op_eqA hu) sr_eq (de_callF c__law_next tk (hr.mono (by decide)) (by rfl) (da_cons (de_var 1) (da_cons de_int da_nil))) de_int (nomark _))
      (dssl_one (dsl_setK 2 (Nat.lt_of_le_of_lt (Nat.add_le_add_left (by decide) _) hu) (de_callF c__law_spoilt_ends tk (hr.mono (by decide)) (by rfl) (da_cons (de_var 1) (da_cons (de_key hu (de_var 2)) da_nil)))))
      dssl_nil)
      (dssl_cons (dsl_if (dt_cmp (op_eqA hu) sr_eq (de_callF c__law_next tk (hr.mono (by decide)) (by rfl) (da_cons (de_var 1) (da_cons de_int da_nil))) de_int (nomark _))
      (dssl_one (dsl_setK 2 (Nat.lt_of_le_of_lt (Nat.add_le_add_left (by decide) _) hu) (de_callF c__law_spoilt_ends tk (hr.mono (by decide)) (by rfl) (da_cons (de_var 1) (da_cons (de_key hu (de_var 2)) da_nil)))))
      dssl_nil)
      (dssl_cons (dsl_of (ds_asg (de_ct call_listS sc_list (by rfl) bi.list (by decide +kernel) (da_cons (de_var 3) da_nil)) (dg_name 4 nd)))
      (dssl_cons (dsl_of (ds_asg (de_callF c__law_tried tk (hr.mono (by decide)) (by rfl) (da_cons (de_var 2) (da_cons (de_var 4) da_nil))) (dg_name 5 nd)))
      (dssl_one (dsl_of (ds_ret (de_and (de_cmp (op_eqA hu) sr_eq (de_var 5) (de_callF c__law_known_fault tk (hr.mono (by decide)) (by rfl) (da_cons (de_var 2) (da_cons (de_var 3) da_nil))) (nomark _)) (de_oneA (de_cmp (op_eqA hu) sr_eq (de_var 4) (de_var 3) (nomark _))))))))))))))))
    ⟨_, pss_cons (ps_draws dk tk (hr.mono (by decide)) nd) T.1, T.2⟩) (pure_law kl)
end
def df (x : Str) (st : Stmt) : He.DefD := ⟨(x, none), x, x, defArgs st, defBody st, defScope st, [], []⟩
def fns : List He.DefD := [df "_law_draws" (top 33),
  df "_law_next" (top 34),
  df "_law_facts" (top 38),
  df "_law_range" (top 36),
  df "_law_amount" (top 35),
  df "_law_speed" (top 37),
  df "_law_sampled" (top 41),
  df "_law_ends" (top 39),
  df "_law_free" (top 40),
  df "_law_tried" (top 48),
  df "_law_promise" (top 42),
  ⟨("Pace", some "__init__"), "__init__", "Pace.__init__", defArgs (inClass (top 31) 0), defBody (inClass (top 31) 0), defScope (inClass (top 31) 0), [.non, .non], []⟩,
  df "outside" (top 30),
  ⟨("Known", some "__init__"), "__init__", "Known.__init__", defArgs (inClass (top 26) 1), defBody (inClass (top 26) 1), defScope (inClass (top 26) 1), [], [("promise", .non), ("least", .int (-1000000000000000000)), ("greatest", .int 1000000000000000000), ("samples", .adr (kwdAt ("Known", some "__init__") "samples"))]⟩,
  df "check_ends" (top 25),
  ⟨("Promise", some "exists"), "exists", "Promise.exists", defArgs (inClass (top 21) 1), defBody (inClass (top 21) 1), defScope (inClass (top 21) 1), [], []⟩,
  ⟨("OneToOne", some "exists"), "exists", "OneToOne.exists", defArgs (inClass (top 22) 1), defBody (inClass (top 22) 1), defScope (inClass (top 22) 1), [], []⟩,
  ⟨("Pace", some "exists"), "exists", "Pace.exists", defArgs (inClass (top 31) 4), defBody (inClass (top 31) 4), defScope (inClass (top 31) 4), [], []⟩,
  ⟨("Known", some "teach"), "teach", "Known.teach", defArgs (inClass (top 26) 2), defBody (inClass (top 26) 2), defScope (inClass (top 26) 2), [], []⟩,
  ⟨("Known", some "lot"), "lot", "Known.lot", defArgs (inClass (top 26) 7), defBody (inClass (top 26) 7), defScope (inClass (top 26) 7), [], []⟩,
  ⟨("Known", some "told"), "told", "Known.told", defArgs (inClass (top 26) 4), defBody (inClass (top 26) 4), defScope (inClass (top 26) 4), [], []⟩,
  ⟨("Known", some "gap_of"), "gap_of", "Known.gap_of", defArgs (inClass (top 26) 6), defBody (inClass (top 26) 6), defScope (inClass (top 26) 6), [], []⟩,
  ⟨("Known", some "gaps"), "gaps", "Known.gaps", defArgs (inClass (top 26) 5), defBody (inClass (top 26) 5), defScope (inClass (top 26) 5), [], []⟩,
  ⟨("Promise", some "free"), "free", "Promise.free", defArgs (inClass (top 21) 3), defBody (inClass (top 21) 3), defScope (inClass (top 21) 3), [], []⟩,
  ⟨("Stretches", some "__init__"), "__init__", "Stretches.__init__", defArgs (inClass (top 19) 2), defBody (inClass (top 19) 2), defScope (inClass (top 19) 2), [.adr (He.dflAt ("Stretches", some "__init__") 0)], []⟩,
  df "joined" (top 13),
  ⟨("Stretches", some "__sub__"), "__sub__", "Stretches.__sub__", defArgs (inClass (top 19) 11), defBody (inClass (top 19) 11), defScope (inClass (top 19) 11), [], []⟩,
  df "gaps" (top 15),
  df "common" (top 14),
  ⟨("Pace", some "free"), "free", "Pace.free", defArgs (inClass (top 31) 8), defBody (inClass (top 31) 8), defScope (inClass (top 31) 8), [], []⟩,
  df "height" (top 28),
  ⟨("Pace", some "lower"), "lower", "Pace.lower", defArgs (inClass (top 31) 6), defBody (inClass (top 31) 6), defScope (inClass (top 31) 6), [], []⟩,
  ⟨("Pace", some "upper"), "upper", "Pace.upper", defArgs (inClass (top 31) 7), defBody (inClass (top 31) 7), defScope (inClass (top 31) 7), [], []⟩,
  ⟨("Stretches", some "__contains__"), "__contains__", "Stretches.__contains__", defArgs (inClass (top 19) 7), defBody (inClass (top 19) 7), defScope (inClass (top 19) 7), [], []⟩,
  df "_law_spoilt_samples" (top 45),
  df "_law_spoilt_ends" (top 43),
  df "_law_known_fault" (top 47),
  df "_law_possible_value" (top 46),
  df "_law_spoilt_facts" (top 44),
  df "law" (top 49)]
def fas : List He.Fa := [.free "int", .free "len", .free "min", .free "range", .free "abs", .free "sorted", .free "max", .free "tuple", .free "str", .free "isinstance", .free "list", .free "ValueError", .int "LIMIT_stretches" 1000000000000000000, .str "DIGITS" (PySem.Str.ofString "0123456789"), .int "MOST_SAMPLES" 40, .glo "_law_draws", .glo "_law_next", .glo "_law_facts", .glo "_law_range", .glo "_law_amount", .glo "_law_speed", .glo "_law_sampled", .glo "_law_ends", .glo "_law_free", .glo "_law_tried", .glo "_law_promise", .glo "ReadError", .glo "BadStretch", .glo "BadText", .glo "BadPace", .glo "Contradiction", .glo "NoKey", .glo "Impossible", .glo "TooMany", .glo "Stretches", .glo "Promise", .glo "OneToOne", .glo "Known", .glo "Pace", .cls "Known", .noat "Known" "greatest", .noat "Known" "least", .noat "Known" "last", .noat "Known" "first", .noat "Known" "taught", .noat "Known" "promise", .cls "Pace", .noat "Pace" "slowest", .noat "Pace" "fastest", .cls "OneToOne", .cls "Promise", .mkr "Pace", .glo "outside", .mkr "Known", .glo "check_ends", .meth "Promise" "exists", .meth "OneToOne" "exists", .meth "Pace" "exists", .meth "Known" "teach", .meth "Known" "lot", .meth "Known" "told", .meth "Known" "gap_of", .meth "Known" "gaps", .meth "Promise" "free", .glo "joined", .mkr "Stretches", .meth "Stretches" "__sub__", .glo "gaps", .glo "common", .meth "OneToOne" "free", .meth "Pace" "free", .glo "height", .meth "Pace" "lower", .meth "Pace" "upper", .meth "Stretches" "__contains__", .glo "_law_spoilt_samples", .glo "_law_spoilt_ends", .glo "_law_known_fault", .glo "_law_possible_value", .glo "_law_spoilt_facts", .glo "law"]
def fxs : List DefX := [⟨("BadPace", some "__init__"), "__init__", "BadPace.__init__", defArgs (inClass (top 5) 0), defBody (inClass (top 5) 0), defScope (inClass (top 5) 0), "BadPace"⟩,
  ⟨("BadStretch", some "__init__"), "__init__", "BadStretch.__init__", defArgs (inClass (top 3) 0), defBody (inClass (top 3) 0), defScope (inClass (top 3) 0), "BadStretch"⟩,
  ⟨("NoKey", some "__init__"), "__init__", "NoKey.__init__", defArgs (inClass (top 7) 0), defBody (inClass (top 7) 0), defScope (inClass (top 7) 0), "NoKey"⟩,
  ⟨("OneToOne", some "free"), "free", "OneToOne.free", defArgs (inClass (top 22) 3), defBody (inClass (top 22) 3), defScope (inClass (top 22) 3), "OneToOne"⟩,
  ⟨("Impossible", some "__init__"), "__init__", "Impossible.__init__", defArgs (inClass (top 8) 0), defBody (inClass (top 8) 0), defScope (inClass (top 8) 0), "Impossible"⟩,
  ⟨("TooMany", some "__init__"), "__init__", "TooMany.__init__", defArgs (inClass (top 9) 0), defBody (inClass (top 9) 0), defScope (inClass (top 9) 0), "TooMany"⟩]
def exs : List (PySem.W.Frag → Bool) := [fun K => isCb K (He.ga K "Pace"),
  fun K => kiB K (He.ga K "Pace") (.ref (He.ga K "Stretches")) false,
  fun K => isCb K (He.ga K "Known"),
  fun K => kiB K (He.ga K "Known") (.ref (He.ga K "Stretches")) false,
  fun K => isCb K (He.ga K "OneToOne"),
  fun K => kiB K (He.ga K "OneToOne") (.ref (He.ga K "Stretches")) false,
  fun K => isCb K (He.ga K "Promise"),
  fun K => kiB K (He.ga K "Promise") (.ref (He.ga K "Stretches")) false,
  fun K => plB K (He.ga K "Stretches"),
  fun K => slcB K (He.ga K "Stretches"),
  fun K => siB K (He.ga K "Stretches"),
  fun K => kiB K (He.ga K "Stretches") (.ref (He.ga K "Stretches")) true,
  fun K => sl1B K (He.ga K "Stretches") "pairs",
  fun K => exmB K (He.ga K "TooMany") (He.ga K "ReadError") true,
  fun K => exmB K (He.ga K "Impossible") (He.ga K "ReadError") true,
  fun K => exmB K (He.ga K "NoKey") (He.ga K "ReadError") true,
  fun K => exmB K (He.ga K "Contradiction") (He.ga K "ReadError") true,
  fun K => exmB K (He.ga K "BadPace") (He.ga K "ReadError") true,
  fun K => exmB K (He.ga K "BadText") (He.ga K "ReadError") true,
  fun K => exmB K (He.ga K "BadStretch") (He.ga K "ReadError") true,
  fun K => exmB K (He.ga K "ReadError") (He.ga K "ReadError") true,
  fun K => exmB K (He.ga K "TooMany") (He.ga K "Impossible") false,
  fun K => exmB K (He.ga K "Impossible") (He.ga K "Impossible") true,
  fun K => exmB K (He.ga K "NoKey") (He.ga K "Impossible") false,
  fun K => exmB K (He.ga K "Contradiction") (He.ga K "Impossible") false,
  fun K => exmB K (He.ga K "BadPace") (He.ga K "Impossible") false,
  fun K => exmB K (He.ga K "BadText") (He.ga K "Impossible") false,
  fun K => exmB K (He.ga K "BadStretch") (He.ga K "Impossible") false,
  fun K => exmB K (He.ga K "ReadError") (He.ga K "Impossible") false,
  fun K => exmB K (He.ga K "TooMany") (He.ga K "NoKey") false,
  fun K => exmB K (He.ga K "Impossible") (He.ga K "NoKey") false,
  fun K => exmB K (He.ga K "NoKey") (He.ga K "NoKey") true,
  fun K => exmB K (He.ga K "Contradiction") (He.ga K "NoKey") false,
  fun K => exmB K (He.ga K "BadPace") (He.ga K "NoKey") false,
  fun K => exmB K (He.ga K "BadText") (He.ga K "NoKey") false,
  fun K => exmB K (He.ga K "BadStretch") (He.ga K "NoKey") false,
  fun K => exmB K (He.ga K "ReadError") (He.ga K "NoKey") false,
  fun K => exmB K (He.ga K "TooMany") (He.ga K "Contradiction") false,
  fun K => exmB K (He.ga K "Impossible") (He.ga K "Contradiction") false,
  fun K => exmB K (He.ga K "NoKey") (He.ga K "Contradiction") false,
  fun K => exmB K (He.ga K "Contradiction") (He.ga K "Contradiction") true,
  fun K => exmB K (He.ga K "BadPace") (He.ga K "Contradiction") false,
  fun K => exmB K (He.ga K "BadText") (He.ga K "Contradiction") false,
  fun K => exmB K (He.ga K "BadStretch") (He.ga K "Contradiction") false,
  fun K => exmB K (He.ga K "ReadError") (He.ga K "Contradiction") false,
  fun K => exmB K (He.ga K "TooMany") (He.ga K "BadStretch") false,
  fun K => exmB K (He.ga K "Impossible") (He.ga K "BadStretch") false,
  fun K => exmB K (He.ga K "NoKey") (He.ga K "BadStretch") false,
  fun K => exmB K (He.ga K "Contradiction") (He.ga K "BadStretch") false,
  fun K => exmB K (He.ga K "BadPace") (He.ga K "BadStretch") false,
  fun K => exmB K (He.ga K "BadText") (He.ga K "BadStretch") false,
  fun K => exmB K (He.ga K "BadStretch") (He.ga K "BadStretch") true,
  fun K => exmB K (He.ga K "ReadError") (He.ga K "BadStretch") false,
  fun K => excB K (He.ga K "TooMany"),
  fun K => kiB K (He.ga K "TooMany") (.type "ValueError") true,
  fun K => excB K (He.ga K "Impossible"),
  fun K => kiB K (He.ga K "Impossible") (.type "ValueError") true,
  fun K => excB K (He.ga K "NoKey"),
  fun K => kiB K (He.ga K "NoKey") (.type "ValueError") true,
  fun K => excB K (He.ga K "Contradiction"),
  fun K => kiB K (He.ga K "Contradiction") (.type "ValueError") true,
  fun K => excB K (He.ga K "BadPace"),
  fun K => kiB K (He.ga K "BadPace") (.type "ValueError") true,
  fun K => excB K (He.ga K "BadText"),
  fun K => kiB K (He.ga K "BadText") (.type "ValueError") true,
  fun K => excB K (He.ga K "BadStretch"),
  fun K => kiB K (He.ga K "BadStretch") (.type "ValueError") true,
  fun K => excB K (He.ga K "ReadError"),
  fun K => kiB K (He.ga K "ReadError") (.type "ValueError") true,
  fun K => kiB K (He.ga K "TooMany") (.ref (He.ga K "ReadError")) true,
  fun K => kiB K (He.ga K "Impossible") (.ref (He.ga K "ReadError")) true,
  fun K => kiB K (He.ga K "NoKey") (.ref (He.ga K "ReadError")) true,
  fun K => kiB K (He.ga K "Contradiction") (.ref (He.ga K "ReadError")) true,
  fun K => kiB K (He.ga K "BadPace") (.ref (He.ga K "ReadError")) true,
  fun K => kiB K (He.ga K "BadText") (.ref (He.ga K "ReadError")) true,
  fun K => kiB K (He.ga K "BadStretch") (.ref (He.ga K "ReadError")) true,
  fun K => kiB K (He.ga K "ReadError") (.ref (He.ga K "ReadError")) true,
  fun K => noatB K (He.ga K "Impossible") "value",
  fun K => noatB K (He.ga K "Impossible") "key",
  fun K => noatB K (He.ga K "NoKey") "key",
  fun K => noatB K (He.ga K "BadStretch") "high",
  fun K => noatB K (He.ga K "BadStretch") "low",
  fun K => initB K (He.ga K "BadPace") (He.fAd K ("BadPace", some "__init__")),
  fun K => noatB K (He.ga K "BadPace") "slowest",
  fun K => noatB K (He.ga K "BadPace") "fastest",
  fun K => oexB K (He.ga K "BadPace"),
  fun K => supEB K (He.ga K "BadPace") (He.ga K "BadPace"),
  fun K => mk0B K (He.ga K "OneToOne"),
  fun K => mk0B K (He.ga K "Promise"),
  fun K => initB K (He.ga K "BadStretch") (He.fAd K ("BadStretch", some "__init__")),
  fun K => oexB K (He.ga K "BadStretch"),
  fun K => supEB K (He.ga K "BadStretch") (He.ga K "BadStretch"),
  fun K => oexB K (He.ga K "Contradiction"),
  fun K => PySem.W.excIn K (He.ga K "Contradiction") PySem.HandSPX.veTail "ValueError.__new__",
  fun K => initB K (He.ga K "NoKey") (He.fAd K ("NoKey", some "__init__")),
  fun K => oexB K (He.ga K "NoKey"),
  fun K => supEB K (He.ga K "NoKey") (He.ga K "NoKey"),
  fun K => supMB K (He.ga K "OneToOne") (He.ga K "OneToOne") "free" (He.fAd K ("Promise", some "free")),
  fun K => initB K (He.ga K "Impossible") (He.fAd K ("Impossible", some "__init__")),
  fun K => oexB K (He.ga K "Impossible"),
  fun K => supEB K (He.ga K "Impossible") (He.ga K "Impossible"),
  fun K => initB K (He.ga K "TooMany") (He.fAd K ("TooMany", some "__init__")),
  fun K => noatB K (He.ga K "TooMany") "limit",
  fun K => oexB K (He.ga K "TooMany"),
  fun K => supEB K (He.ga K "TooMany") (He.ga K "TooMany")]
def fps : List DefP := []
def tp : Top := ⟨fas, fns, fxs, exs, fps⟩
abbrev R : PySem.W.OpenRow := PySem.W.OpenLaw.row PySem.Challenge.rw_stretchesread_k20_refused_known
abbrev hk : PySem.W.Hook := hookY R.prog 5 tp
def ob (s : PySem.W.SharedT) : AlX := obsY R.prog 5 tp (HandSHeadRun.getT s)
theorem ob_eq (s : PySem.W.SharedT) : ob s = hk.obs s.abs := obsY_eq (HandSHeadRun.getT_eq s)
def loose : List Str := (["_wall", "ReadError", "BadStretch", "BadText", "BadPace", "Contradiction", "NoKey", "Impossible", "TooMany", "LIMIT_stretches", "DIGITS", "joined", "common", "gaps", "written", "read_number", "read_stretch", "Stretches", "Promise", "OneToOne", "MOST_SAMPLES", "check_ends", "Known", "height", "outside", "Pace", "_law_draws", "_law_next", "_law_amount", "_law_range"] : List Str) ++ (["_law_speed", "_law_facts", "_law_ends", "_law_free", "_law_sampled", "_law_promise", "_law_spoilt_ends", "_law_spoilt_facts", "_law_spoilt_samples", "_law_possible_value", "_law_known_fault", "_law_tried"] : List Str)
theorem run_0 (w : World) : PcEq R 8000 (fun s => (lkY R (PySem.W.view R.prog [49]) loose w s, fxO R.prog fxs (KY 5 s), fpO fps (KY 5 s))) ((((true, PySem.W.openGood (PySem.W.view R.prog [49]) loose) : _ × _), fxV fxs, fpV fps)) w := by
  intro os
  kernel_rfl
theorem run_1 (w : World) : PcEq R 8000 (fun s => (fnO (fns.take 36) (KY 5 s), fnO (fns.drop 36) (KY 5 s))) ((fnV (fns.take 36), fnV (fns.drop 36))) w := by
  intro os
  kernel_rfl
theorem run_2 (w : World) : PcEq R 8000 (fun s => (faO fas (KY 5 s), exO exs (KY 5 s))) ((true, exV exs)) w := by
  intro os
  kernel_rfl
theorem run (w : World) : HandSHeadRun.RunEq R (PySem.W.view R.prog [49]) hk ob 8000 loose w :=
  run_of (run_0 w).ran fun os s e => ⟨(Prod.mk.inj ((run_0 w).at e)).1, top_of (Prod.mk.inj ((run_2 w).at e)).1 (fn_cut 36 (Prod.mk.inj ((run_1 w).at e)).1 (Prod.mk.inj ((run_1 w).at e)).2) (Prod.mk.inj (Prod.mk.inj ((run_0 w).at e)).2).1 (Prod.mk.inj ((run_2 w).at e)).2 (Prod.mk.inj (Prod.mk.inj ((run_0 w).at e)).2).2⟩
def klOf (K : PySem.W.Frag) : Kl := ⟨He.ga K "ReadError", He.ga K "BadStretch", He.ga K "BadText", He.ga K "BadPace", He.ga K "Contradiction", He.ga K "NoKey", He.ga K "Impossible", He.ga K "TooMany", He.ga K "Stretches", He.ga K "Promise", He.ga K "OneToOne", He.ga K "Known", He.ga K "Pace"⟩
theorem facts {w : World} {K : PySem.W.Frag} {h : Heap} {mg : Str → Option Value} {fa : Addr} (X : K.In h) (G : h.Ns mainGlobals mg) (hfa : mg ("law" : Str) = some (.ref fa)) (c : tp.obs R.prog K = tp.val) :
    ∃ fd : FuncData, (∀ (s : Shared) (v : Value), BindsTo s fd ⟨[v], []⟩ [("_law_script", v)]) ∧ ∀ base : Heap, K.In base → base.Ns mainGlobals mg → FnOk R.prog w K mg base (L2.CX R.prog w) 14 fa fd ["_law_script"] (spLaw K) := by
  have c1 : He.SaysD fas fns K := Top.sd c
  obtain ⟨fd, F⟩ := c1.def_ 39 (d := df "law" (top 49)) rfl
  have e := hfa.symm.trans (He.glo_ok X G (c1.fact 80 (f := .glo "law") rfl))
  cases e
  have b := FunD.bindsA (ps := ["_law_script"]) F fun _ _ _ _ _ _ us hl => match us, hl with | [_], _ => rfl
  refine ⟨fd, fun s v => b s [v] rfl, fun base _ _ => ?_⟩
  let P : Program := R.prog
  have bi : Bi mg := ⟨He.free_ok X G (c1.fact 0 (f := .free "int") rfl), He.free_ok X G (c1.fact 1 (f := .free "len") rfl), He.free_ok X G (c1.fact 2 (f := .free "min") rfl), He.free_ok X G (c1.fact 3 (f := .free "range") rfl), He.free_ok X G (c1.fact 4 (f := .free "abs") rfl), He.free_ok X G (c1.fact 5 (f := .free "sorted") rfl), He.free_ok X G (c1.fact 6 (f := .free "max") rfl), He.free_ok X G (c1.fact 7 (f := .free "tuple") rfl), He.free_ok X G (c1.fact 8 (f := .free "str") rfl), He.free_ok X G (c1.fact 9 (f := .free "isinstance") rfl), He.free_ok X G (c1.fact 10 (f := .free "list") rfl), He.free_ok X G (c1.fact 11 (f := .free "ValueError") rfl)⟩
  have cs : Cs mg := ⟨He.int_ok X G (c1.fact 12 rfl), He.str_ok X G (c1.fact 13 rfl), He.int_ok X G (c1.fact 14 rfl)⟩
  have dk : Drk P w K mg base := dk__law_draws (defAt_of X G c1 0 15 rfl rfl) bi
  have c__law_next : Fnk P w K mg base "_law_next" 1 ["_law_draws_here", "_law_many"] [] [] sd__law_next := fk__law_next (defAt_of X G c1 1 16 rfl rfl) bi
  have c__law_amount : Fnk P w K mg base "_law_amount" 2 ["_law_draws_here", "_law_low", "_law_high"] [] [] sd__law_amount := fk__law_amount (defAt_of X G c1 4 19 rfl rfl) bi c__law_next
  have c__law_range : Fnk P w K mg base "_law_range" 3 ["_law_draws_here"] [] [] sd__law_range := fk__law_range (defAt_of X G c1 3 18 rfl rfl) bi c__law_next c__law_amount
  have c__law_speed : Fnk P w K mg base "_law_speed" 3 ["_law_draws_here"] [] [] sd__law_speed := fk__law_speed (defAt_of X G c1 5 20 rfl rfl) bi c__law_next c__law_amount
  have c__law_facts : Fnk P w K mg base "_law_facts" 4 ["_law_draws_here", "_law_kind"] [] [] sd__law_facts := fk__law_facts (defAt_of X G c1 2 17 rfl rfl) bi c__law_range c__law_speed
  have c__law_ends : Fnk P w K mg base "_law_ends" 1 ["_law_facts_here", "_law_rows", "_law_key"] [] [] sd__law_ends := fk__law_ends (defAt_of X G c1 7 22 rfl rfl) bi
  have c__law_free : Fnk P w K mg base "_law_free" 1 ["_law_facts_here", "_law_rows", "_law_key", "_law_value"] [] [] sd__law_free := fk__law_free (defAt_of X G c1 8 23 rfl rfl) bi
  have c__law_sampled : Fnk P w K mg base "_law_sampled" 3 ["_law_draws_here", "_law_facts_here", "_law_many"] [] [] sd__law_sampled := fk__law_sampled (defAt_of X G c1 6 21 rfl rfl) bi c__law_next c__law_amount c__law_ends c__law_free
  have cf : Cf K mg (klOf K) := {
    g_ReadError := (He.glo_ok X G (c1.fact 26 (f := .glo "ReadError") rfl))
    g_BadStretch := (He.glo_ok X G (c1.fact 27 (f := .glo "BadStretch") rfl))
    g_BadText := (He.glo_ok X G (c1.fact 28 (f := .glo "BadText") rfl))
    g_BadPace := (He.glo_ok X G (c1.fact 29 (f := .glo "BadPace") rfl))
    g_Contradiction := (He.glo_ok X G (c1.fact 30 (f := .glo "Contradiction") rfl))
    g_NoKey := (He.glo_ok X G (c1.fact 31 (f := .glo "NoKey") rfl))
    g_Impossible := (He.glo_ok X G (c1.fact 32 (f := .glo "Impossible") rfl))
    g_TooMany := (He.glo_ok X G (c1.fact 33 (f := .glo "TooMany") rfl))
    g_Stretches := (He.glo_ok X G (c1.fact 34 (f := .glo "Stretches") rfl))
    g_Promise := (He.glo_ok X G (c1.fact 35 (f := .glo "Promise") rfl))
    g_OneToOne := (He.glo_ok X G (c1.fact 36 (f := .glo "OneToOne") rfl))
    g_Known := (He.glo_ok X G (c1.fact 37 (f := .glo "Known") rfl))
    g_Pace := (He.glo_ok X G (c1.fact 38 (f := .glo "Pace") rfl))
    at_greatest := (atOk_cons (He.cls_ok (c1.fact 39 (f := .cls "Known") rfl)) (He.noat_ok (c1.fact 40 (f := .noat "Known" "greatest") rfl)) atOk_nil)
    at_least := (atOk_cons (He.cls_ok (c1.fact 39 (f := .cls "Known") rfl)) (He.noat_ok (c1.fact 41 (f := .noat "Known" "least") rfl)) atOk_nil)
    at_last := (atOk_cons (He.cls_ok (c1.fact 39 (f := .cls "Known") rfl)) (He.noat_ok (c1.fact 42 (f := .noat "Known" "last") rfl)) atOk_nil)
    at_first := (atOk_cons (He.cls_ok (c1.fact 39 (f := .cls "Known") rfl)) (He.noat_ok (c1.fact 43 (f := .noat "Known" "first") rfl)) atOk_nil)
    at_taught := (atOk_cons (He.cls_ok (c1.fact 39 (f := .cls "Known") rfl)) (He.noat_ok (c1.fact 44 (f := .noat "Known" "taught") rfl)) atOk_nil)
    at_promise := (atOk_cons (He.cls_ok (c1.fact 39 (f := .cls "Known") rfl)) (He.noat_ok (c1.fact 45 (f := .noat "Known" "promise") rfl)) atOk_nil)
    at_slowest := (atOk_cons (He.cls_ok (c1.fact 46 (f := .cls "Pace") rfl)) (He.noat_ok (c1.fact 47 (f := .noat "Pace" "slowest") rfl)) atOk_nil)
    at_fastest := (atOk_cons (He.cls_ok (c1.fact 46 (f := .cls "Pace") rfl)) (He.noat_ok (c1.fact 48 (f := .noat "Pace" "fastest") rfl)) atOk_nil)
    is_Stretches := ⟨(all_cons (p := fun r : Addr × Bool => IsC K r.1 ∧ PySem.W.kitOne K (.ref r.1) (.ref (klOf K).Stretches) = some r.2) ⟨isCb_ok (He.cls_ok (c1.fact 50 (f := .cls "Promise") rfl)) (Top.e c 6 rfl), kiB_ok (Top.e c 7 rfl)⟩ (all_cons (p := fun r : Addr × Bool => IsC K r.1 ∧ PySem.W.kitOne K (.ref r.1) (.ref (klOf K).Stretches) = some r.2) ⟨isCb_ok (He.cls_ok (c1.fact 49 (f := .cls "OneToOne") rfl)) (Top.e c 4 rfl), kiB_ok (Top.e c 5 rfl)⟩ (all_cons (p := fun r : Addr × Bool => IsC K r.1 ∧ PySem.W.kitOne K (.ref r.1) (.ref (klOf K).Stretches) = some r.2) ⟨isCb_ok (He.cls_ok (c1.fact 39 (f := .cls "Known") rfl)) (Top.e c 2 rfl), kiB_ok (Top.e c 3 rfl)⟩ (all_cons (p := fun r : Addr × Bool => IsC K r.1 ∧ PySem.W.kitOne K (.ref r.1) (.ref (klOf K).Stretches) = some r.2) ⟨isCb_ok (He.cls_ok (c1.fact 46 (f := .cls "Pace") rfl)) (Top.e c 0 rfl), kiB_ok (Top.e c 1 rfl)⟩ all_nil)))), plB_ok (Top.e c 8 rfl)⟩
    iss_Stretches := isTblS_one (Top.e c 9 rfl) (Top.e c 10 rfl) (Top.e c 11 rfl)
    sl_pairs := slOk_one (Top.e c 9 rfl) (Top.e c 12 rfl)
    exm_ReadError := (all_cons (p := fun r : Addr × Bool => PySem.W.exmOne K (.ref r.1) (.ref (klOf K).ReadError) = some r.2) (exmB_ok (Top.e c 20 rfl)) (all_cons (p := fun r : Addr × Bool => PySem.W.exmOne K (.ref r.1) (.ref (klOf K).ReadError) = some r.2) (exmB_ok (Top.e c 19 rfl)) (all_cons (p := fun r : Addr × Bool => PySem.W.exmOne K (.ref r.1) (.ref (klOf K).ReadError) = some r.2) (exmB_ok (Top.e c 18 rfl)) (all_cons (p := fun r : Addr × Bool => PySem.W.exmOne K (.ref r.1) (.ref (klOf K).ReadError) = some r.2) (exmB_ok (Top.e c 17 rfl)) (all_cons (p := fun r : Addr × Bool => PySem.W.exmOne K (.ref r.1) (.ref (klOf K).ReadError) = some r.2) (exmB_ok (Top.e c 16 rfl)) (all_cons (p := fun r : Addr × Bool => PySem.W.exmOne K (.ref r.1) (.ref (klOf K).ReadError) = some r.2) (exmB_ok (Top.e c 15 rfl)) (all_cons (p := fun r : Addr × Bool => PySem.W.exmOne K (.ref r.1) (.ref (klOf K).ReadError) = some r.2) (exmB_ok (Top.e c 14 rfl)) (all_cons (p := fun r : Addr × Bool => PySem.W.exmOne K (.ref r.1) (.ref (klOf K).ReadError) = some r.2) (exmB_ok (Top.e c 13 rfl)) all_nil))))))))
    exm_Impossible := (all_cons (p := fun r : Addr × Bool => PySem.W.exmOne K (.ref r.1) (.ref (klOf K).Impossible) = some r.2) (exmB_ok (Top.e c 28 rfl)) (all_cons (p := fun r : Addr × Bool => PySem.W.exmOne K (.ref r.1) (.ref (klOf K).Impossible) = some r.2) (exmB_ok (Top.e c 27 rfl)) (all_cons (p := fun r : Addr × Bool => PySem.W.exmOne K (.ref r.1) (.ref (klOf K).Impossible) = some r.2) (exmB_ok (Top.e c 26 rfl)) (all_cons (p := fun r : Addr × Bool => PySem.W.exmOne K (.ref r.1) (.ref (klOf K).Impossible) = some r.2) (exmB_ok (Top.e c 25 rfl)) (all_cons (p := fun r : Addr × Bool => PySem.W.exmOne K (.ref r.1) (.ref (klOf K).Impossible) = some r.2) (exmB_ok (Top.e c 24 rfl)) (all_cons (p := fun r : Addr × Bool => PySem.W.exmOne K (.ref r.1) (.ref (klOf K).Impossible) = some r.2) (exmB_ok (Top.e c 23 rfl)) (all_cons (p := fun r : Addr × Bool => PySem.W.exmOne K (.ref r.1) (.ref (klOf K).Impossible) = some r.2) (exmB_ok (Top.e c 22 rfl)) (all_cons (p := fun r : Addr × Bool => PySem.W.exmOne K (.ref r.1) (.ref (klOf K).Impossible) = some r.2) (exmB_ok (Top.e c 21 rfl)) all_nil))))))))
    exm_NoKey := (all_cons (p := fun r : Addr × Bool => PySem.W.exmOne K (.ref r.1) (.ref (klOf K).NoKey) = some r.2) (exmB_ok (Top.e c 36 rfl)) (all_cons (p := fun r : Addr × Bool => PySem.W.exmOne K (.ref r.1) (.ref (klOf K).NoKey) = some r.2) (exmB_ok (Top.e c 35 rfl)) (all_cons (p := fun r : Addr × Bool => PySem.W.exmOne K (.ref r.1) (.ref (klOf K).NoKey) = some r.2) (exmB_ok (Top.e c 34 rfl)) (all_cons (p := fun r : Addr × Bool => PySem.W.exmOne K (.ref r.1) (.ref (klOf K).NoKey) = some r.2) (exmB_ok (Top.e c 33 rfl)) (all_cons (p := fun r : Addr × Bool => PySem.W.exmOne K (.ref r.1) (.ref (klOf K).NoKey) = some r.2) (exmB_ok (Top.e c 32 rfl)) (all_cons (p := fun r : Addr × Bool => PySem.W.exmOne K (.ref r.1) (.ref (klOf K).NoKey) = some r.2) (exmB_ok (Top.e c 31 rfl)) (all_cons (p := fun r : Addr × Bool => PySem.W.exmOne K (.ref r.1) (.ref (klOf K).NoKey) = some r.2) (exmB_ok (Top.e c 30 rfl)) (all_cons (p := fun r : Addr × Bool => PySem.W.exmOne K (.ref r.1) (.ref (klOf K).NoKey) = some r.2) (exmB_ok (Top.e c 29 rfl)) all_nil))))))))
    exm_Contradiction := (all_cons (p := fun r : Addr × Bool => PySem.W.exmOne K (.ref r.1) (.ref (klOf K).Contradiction) = some r.2) (exmB_ok (Top.e c 44 rfl)) (all_cons (p := fun r : Addr × Bool => PySem.W.exmOne K (.ref r.1) (.ref (klOf K).Contradiction) = some r.2) (exmB_ok (Top.e c 43 rfl)) (all_cons (p := fun r : Addr × Bool => PySem.W.exmOne K (.ref r.1) (.ref (klOf K).Contradiction) = some r.2) (exmB_ok (Top.e c 42 rfl)) (all_cons (p := fun r : Addr × Bool => PySem.W.exmOne K (.ref r.1) (.ref (klOf K).Contradiction) = some r.2) (exmB_ok (Top.e c 41 rfl)) (all_cons (p := fun r : Addr × Bool => PySem.W.exmOne K (.ref r.1) (.ref (klOf K).Contradiction) = some r.2) (exmB_ok (Top.e c 40 rfl)) (all_cons (p := fun r : Addr × Bool => PySem.W.exmOne K (.ref r.1) (.ref (klOf K).Contradiction) = some r.2) (exmB_ok (Top.e c 39 rfl)) (all_cons (p := fun r : Addr × Bool => PySem.W.exmOne K (.ref r.1) (.ref (klOf K).Contradiction) = some r.2) (exmB_ok (Top.e c 38 rfl)) (all_cons (p := fun r : Addr × Bool => PySem.W.exmOne K (.ref r.1) (.ref (klOf K).Contradiction) = some r.2) (exmB_ok (Top.e c 37 rfl)) all_nil))))))))
    exm_BadStretch := (all_cons (p := fun r : Addr × Bool => PySem.W.exmOne K (.ref r.1) (.ref (klOf K).BadStretch) = some r.2) (exmB_ok (Top.e c 52 rfl)) (all_cons (p := fun r : Addr × Bool => PySem.W.exmOne K (.ref r.1) (.ref (klOf K).BadStretch) = some r.2) (exmB_ok (Top.e c 51 rfl)) (all_cons (p := fun r : Addr × Bool => PySem.W.exmOne K (.ref r.1) (.ref (klOf K).BadStretch) = some r.2) (exmB_ok (Top.e c 50 rfl)) (all_cons (p := fun r : Addr × Bool => PySem.W.exmOne K (.ref r.1) (.ref (klOf K).BadStretch) = some r.2) (exmB_ok (Top.e c 49 rfl)) (all_cons (p := fun r : Addr × Bool => PySem.W.exmOne K (.ref r.1) (.ref (klOf K).BadStretch) = some r.2) (exmB_ok (Top.e c 48 rfl)) (all_cons (p := fun r : Addr × Bool => PySem.W.exmOne K (.ref r.1) (.ref (klOf K).BadStretch) = some r.2) (exmB_ok (Top.e c 47 rfl)) (all_cons (p := fun r : Addr × Bool => PySem.W.exmOne K (.ref r.1) (.ref (klOf K).BadStretch) = some r.2) (exmB_ok (Top.e c 46 rfl)) (all_cons (p := fun r : Addr × Bool => PySem.W.exmOne K (.ref r.1) (.ref (klOf K).BadStretch) = some r.2) (exmB_ok (Top.e c 45 rfl)) all_nil))))))))
    isx_ValueError := ⟨(all_cons (p := fun r : Addr × Bool => ExcC K r.1 ∧ (PySem.W.clsIn K r.1).isSome = true) (excB_ok (Top.e c 67 rfl)) (all_cons (p := fun r : Addr × Bool => ExcC K r.1 ∧ (PySem.W.clsIn K r.1).isSome = true) (excB_ok (Top.e c 65 rfl)) (all_cons (p := fun r : Addr × Bool => ExcC K r.1 ∧ (PySem.W.clsIn K r.1).isSome = true) (excB_ok (Top.e c 63 rfl)) (all_cons (p := fun r : Addr × Bool => ExcC K r.1 ∧ (PySem.W.clsIn K r.1).isSome = true) (excB_ok (Top.e c 61 rfl)) (all_cons (p := fun r : Addr × Bool => ExcC K r.1 ∧ (PySem.W.clsIn K r.1).isSome = true) (excB_ok (Top.e c 59 rfl)) (all_cons (p := fun r : Addr × Bool => ExcC K r.1 ∧ (PySem.W.clsIn K r.1).isSome = true) (excB_ok (Top.e c 57 rfl)) (all_cons (p := fun r : Addr × Bool => ExcC K r.1 ∧ (PySem.W.clsIn K r.1).isSome = true) (excB_ok (Top.e c 55 rfl)) (all_cons (p := fun r : Addr × Bool => ExcC K r.1 ∧ (PySem.W.clsIn K r.1).isSome = true) (excB_ok (Top.e c 53 rfl)) all_nil)))))))), (.type "ValueError"), fun u => relTy, (all_cons (p := fun r : Addr × Bool => PySem.W.kitOne K (.ref r.1) (.type "ValueError") = some r.2) (kiB_ok (Top.e c 68 rfl)) (all_cons (p := fun r : Addr × Bool => PySem.W.kitOne K (.ref r.1) (.type "ValueError") = some r.2) (kiB_ok (Top.e c 66 rfl)) (all_cons (p := fun r : Addr × Bool => PySem.W.kitOne K (.ref r.1) (.type "ValueError") = some r.2) (kiB_ok (Top.e c 64 rfl)) (all_cons (p := fun r : Addr × Bool => PySem.W.kitOne K (.ref r.1) (.type "ValueError") = some r.2) (kiB_ok (Top.e c 62 rfl)) (all_cons (p := fun r : Addr × Bool => PySem.W.kitOne K (.ref r.1) (.type "ValueError") = some r.2) (kiB_ok (Top.e c 60 rfl)) (all_cons (p := fun r : Addr × Bool => PySem.W.kitOne K (.ref r.1) (.type "ValueError") = some r.2) (kiB_ok (Top.e c 58 rfl)) (all_cons (p := fun r : Addr × Bool => PySem.W.kitOne K (.ref r.1) (.type "ValueError") = some r.2) (kiB_ok (Top.e c 56 rfl)) (all_cons (p := fun r : Addr × Bool => PySem.W.kitOne K (.ref r.1) (.type "ValueError") = some r.2) (kiB_ok (Top.e c 54 rfl)) all_nil))))))))⟩
    isx_ReadError := ⟨(all_cons (p := fun r : Addr × Bool => ExcC K r.1 ∧ (PySem.W.clsIn K r.1).isSome = true) (excB_ok (Top.e c 67 rfl)) (all_cons (p := fun r : Addr × Bool => ExcC K r.1 ∧ (PySem.W.clsIn K r.1).isSome = true) (excB_ok (Top.e c 65 rfl)) (all_cons (p := fun r : Addr × Bool => ExcC K r.1 ∧ (PySem.W.clsIn K r.1).isSome = true) (excB_ok (Top.e c 63 rfl)) (all_cons (p := fun r : Addr × Bool => ExcC K r.1 ∧ (PySem.W.clsIn K r.1).isSome = true) (excB_ok (Top.e c 61 rfl)) (all_cons (p := fun r : Addr × Bool => ExcC K r.1 ∧ (PySem.W.clsIn K r.1).isSome = true) (excB_ok (Top.e c 59 rfl)) (all_cons (p := fun r : Addr × Bool => ExcC K r.1 ∧ (PySem.W.clsIn K r.1).isSome = true) (excB_ok (Top.e c 57 rfl)) (all_cons (p := fun r : Addr × Bool => ExcC K r.1 ∧ (PySem.W.clsIn K r.1).isSome = true) (excB_ok (Top.e c 55 rfl)) (all_cons (p := fun r : Addr × Bool => ExcC K r.1 ∧ (PySem.W.clsIn K r.1).isSome = true) (excB_ok (Top.e c 53 rfl)) all_nil)))))))), (.ref (He.ga K "ReadError")), fun u => relRef, (all_cons (p := fun r : Addr × Bool => PySem.W.kitOne K (.ref r.1) (.ref (He.ga K "ReadError")) = some r.2) (kiB_ok (Top.e c 76 rfl)) (all_cons (p := fun r : Addr × Bool => PySem.W.kitOne K (.ref r.1) (.ref (He.ga K "ReadError")) = some r.2) (kiB_ok (Top.e c 75 rfl)) (all_cons (p := fun r : Addr × Bool => PySem.W.kitOne K (.ref r.1) (.ref (He.ga K "ReadError")) = some r.2) (kiB_ok (Top.e c 74 rfl)) (all_cons (p := fun r : Addr × Bool => PySem.W.kitOne K (.ref r.1) (.ref (He.ga K "ReadError")) = some r.2) (kiB_ok (Top.e c 73 rfl)) (all_cons (p := fun r : Addr × Bool => PySem.W.kitOne K (.ref r.1) (.ref (He.ga K "ReadError")) = some r.2) (kiB_ok (Top.e c 72 rfl)) (all_cons (p := fun r : Addr × Bool => PySem.W.kitOne K (.ref r.1) (.ref (He.ga K "ReadError")) = some r.2) (kiB_ok (Top.e c 71 rfl)) (all_cons (p := fun r : Addr × Bool => PySem.W.kitOne K (.ref r.1) (.ref (He.ga K "ReadError")) = some r.2) (kiB_ok (Top.e c 70 rfl)) (all_cons (p := fun r : Addr × Bool => PySem.W.kitOne K (.ref r.1) (.ref (He.ga K "ReadError")) = some r.2) (kiB_ok (Top.e c 69 rfl)) all_nil))))))))⟩
    xf_Impossible := excB_xf (Top.e c 55 rfl)
    no_Impossible_value := noatB_ok (Top.e c 77 rfl)
    no_Impossible_key := noatB_ok (Top.e c 78 rfl)
    xf_NoKey := excB_xf (Top.e c 57 rfl)
    no_NoKey_key := noatB_ok (Top.e c 79 rfl)
    xf_BadStretch := excB_xf (Top.e c 65 rfl)
    no_BadStretch_high := noatB_ok (Top.e c 80 rfl)
    no_BadStretch_low := noatB_ok (Top.e c 81 rfl)
  }
  obtain ⟨fd_F_Pace___init__, F_Pace___init__⟩ := c1.def_ 11 (d := ⟨("Pace", some "__init__"), "__init__", "Pace.__init__", defArgs (inClass (top 31) 0), defBody (inClass (top 31) 0), defScope (inClass (top 31) 0), [.non, .non], []⟩) rfl
  have c_outside : Fnk P w K mg base "outside" 1 ["number"] [] [] sd_outside := fk_outside (defAt_of X G c1 12 52 rfl rfl) bi cs
  obtain ⟨fd_Z_BadPace___init__, Z_BadPace___init__⟩ := Top.x c 0 (d := ⟨("BadPace", some "__init__"), "__init__", "BadPace.__init__", defArgs (inClass (top 5) 0), defBody (inClass (top 5) 0), defScope (inClass (top 5) 0), "BadPace"⟩) rfl
  have x_BadPace : ExcMk P w K mg base 1 "BadPace" ((klOf K)).BadPace ["slowest", "fastest"] := mx_BadPace Z_BadPace___init__ (oexB_ok (Top.e c 85 rfl)) (initB_ok (Top.e c 82 rfl)).1 (initB_ok (Top.e c 82 rfl)).2 (He.glo_ok X G (c1.fact 29 (f := .glo "BadPace") rfl)) (supEB_ok (Top.e c 86 rfl)) (noatB_ok (Top.e c 83 rfl)) (noatB_ok (Top.e c 84 rfl))
  have k_Pace : MakeOk P w K mg base 3 "Pace" ((klOf K)).Pace (sd_Pace___init__ (klOf K)) := MakeOk.mono ⟨_, _, _, (He.mkr_ok (c1.fact 51 (f := .mkr "Pace") rfl)), (mi0_Pace___init__ (P := P) (w := w) (kl := klOf K) (base := base) F_Pace___init__ bi c_outside cf x_BadPace), (He.glo_ok X G (c1.fact 38 (f := .glo "Pace") rfl)), bo_Pace___init__ F_Pace___init__⟩ (by decide)
  have kb_OneToOne : Mk0 K ((klOf K)).OneToOne := mk0B_ok (Top.e c 87 rfl)
  have kb_Promise : Mk0 K ((klOf K)).Promise := mk0B_ok (Top.e c 88 rfl)
  have c__law_promise : Fnk P w K mg base "_law_promise" 5 ["_law_facts_here"] [] [] (sd__law_promise (klOf K)) := fk__law_promise (defAt_of X G c1 10 25 rfl rfl) bi cf k_Pace kb_OneToOne kb_Promise
  obtain ⟨fd_F_Known___init__, F_Known___init__⟩ := c1.def_ 13 (d := ⟨("Known", some "__init__"), "__init__", "Known.__init__", defArgs (inClass (top 26) 1), defBody (inClass (top 26) 1), defScope (inClass (top 26) 1), [], [("promise", .non), ("least", .int (-1000000000000000000)), ("greatest", .int 1000000000000000000), ("samples", .adr (kwdAt ("Known", some "__init__") "samples"))]⟩) rfl
  obtain ⟨fd_Z_BadStretch___init__, Z_BadStretch___init__⟩ := Top.x c 1 (d := ⟨("BadStretch", some "__init__"), "__init__", "BadStretch.__init__", defArgs (inClass (top 3) 0), defBody (inClass (top 3) 0), defScope (inClass (top 3) 0), "BadStretch"⟩) rfl
  have x_BadStretch : ExcMk P w K mg base 1 "BadStretch" ((klOf K)).BadStretch ["low", "high"] := mx_BadStretch Z_BadStretch___init__ (oexB_ok (Top.e c 90 rfl)) (initB_ok (Top.e c 89 rfl)).1 (initB_ok (Top.e c 89 rfl)).2 (He.glo_ok X G (c1.fact 27 (f := .glo "BadStretch") rfl)) (supEB_ok (Top.e c 91 rfl)) (noatB_ok (Top.e c 81 rfl)) (noatB_ok (Top.e c 80 rfl))
  have c_check_ends : Fnk P w K mg base "check_ends" 3 ["low", "high"] [] [] (sd_check_ends (klOf K)) := fk_check_ends (defAt_of X G c1 14 54 rfl rfl) bi cs cf x_BadStretch
  obtain ⟨fd_F_Promise_exists, F_Promise_exists⟩ := c1.def_ 15 (d := ⟨("Promise", some "exists"), "exists", "Promise.exists", defArgs (inClass (top 21) 1), defBody (inClass (top 21) 1), defScope (inClass (top 21) 1), [], []⟩) rfl
  obtain ⟨fd_F_OneToOne_exists, F_OneToOne_exists⟩ := c1.def_ 16 (d := ⟨("OneToOne", some "exists"), "exists", "OneToOne.exists", defArgs (inClass (top 22) 1), defBody (inClass (top 22) 1), defScope (inClass (top 22) 1), [], []⟩) rfl
  obtain ⟨fd_F_Pace_exists, F_Pace_exists⟩ := c1.def_ 17 (d := ⟨("Pace", some "exists"), "exists", "Pace.exists", defArgs (inClass (top 31) 4), defBody (inClass (top 31) 4), defScope (inClass (top 31) 4), [], []⟩) rfl
  have m_exists : TblOk P w K mg base 1 "exists" (tb_exists (klOf K)) := (all_cons (p := fun r : Addr × Sd => MOk P w K mg base 1 "exists" r.1 r.2) (MOk.mono (mo_Promise_exists (kl := klOf K) F_Promise_exists (He.cls_ok (c1.fact 50 (f := .cls "Promise") rfl)) (He.meth_ok (c1.fact 55 (f := .meth "Promise" "exists") rfl)) bi) (by decide)) (all_cons (p := fun r : Addr × Sd => MOk P w K mg base 1 "exists" r.1 r.2) (MOk.mono (mo_OneToOne_exists (kl := klOf K) F_OneToOne_exists (He.cls_ok (c1.fact 49 (f := .cls "OneToOne") rfl)) (He.meth_ok (c1.fact 56 (f := .meth "OneToOne" "exists") rfl)) bi cf) (by decide)) (all_cons (p := fun r : Addr × Sd => MOk P w K mg base 1 "exists" r.1 r.2) (MOk.mono (mo_Pace_exists (kl := klOf K) F_Pace_exists (He.cls_ok (c1.fact 46 (f := .cls "Pace") rfl)) (He.meth_ok (c1.fact 57 (f := .meth "Pace" "exists") rfl)) bi cf) (by decide)) all_nil)))
  have x0_Contradiction : ExcM0 K mg "Contradiction" ((klOf K)).Contradiction := ⟨oexB_ok (Top.e c 92 rfl), (Top.e c 93 rfl), (He.glo_ok X G (c1.fact 30 (f := .glo "Contradiction") rfl))⟩
  obtain ⟨fd_F_Known_teach, F_Known_teach⟩ := c1.def_ 18 (d := ⟨("Known", some "teach"), "teach", "Known.teach", defArgs (inClass (top 26) 2), defBody (inClass (top 26) 2), defScope (inClass (top 26) 2), [], []⟩) rfl
  obtain ⟨fd_F_Known_lot, F_Known_lot⟩ := c1.def_ 19 (d := ⟨("Known", some "lot"), "lot", "Known.lot", defArgs (inClass (top 26) 7), defBody (inClass (top 26) 7), defScope (inClass (top 26) 7), [], []⟩) rfl
  obtain ⟨fd_F_Known_told, F_Known_told⟩ := c1.def_ 20 (d := ⟨("Known", some "told"), "told", "Known.told", defArgs (inClass (top 26) 4), defBody (inClass (top 26) 4), defScope (inClass (top 26) 4), [], []⟩) rfl
  obtain ⟨fd_Z_NoKey___init__, Z_NoKey___init__⟩ := Top.x c 2 (d := ⟨("NoKey", some "__init__"), "__init__", "NoKey.__init__", defArgs (inClass (top 7) 0), defBody (inClass (top 7) 0), defScope (inClass (top 7) 0), "NoKey"⟩) rfl
  have x_NoKey : ExcMk P w K mg base 1 "NoKey" ((klOf K)).NoKey ["key"] := mx_NoKey Z_NoKey___init__ (oexB_ok (Top.e c 95 rfl)) (initB_ok (Top.e c 94 rfl)).1 (initB_ok (Top.e c 94 rfl)).2 (He.glo_ok X G (c1.fact 31 (f := .glo "NoKey") rfl)) (supEB_ok (Top.e c 96 rfl)) (noatB_ok (Top.e c 79 rfl))
  have m_told : TblOk P w K mg base 3 "told" (tb_told (klOf K)) := (all_cons (p := fun r : Addr × Sd => MOk P w K mg base 3 "told" r.1 r.2) (MOk.mono (mo_Known_told (kl := klOf K) F_Known_told (He.cls_ok (c1.fact 39 (f := .cls "Known") rfl)) (He.meth_ok (c1.fact 60 (f := .meth "Known" "told") rfl)) bi cf x_NoKey) (by decide)) all_nil)
  obtain ⟨fd_F_Known_gap_of, F_Known_gap_of⟩ := c1.def_ 21 (d := ⟨("Known", some "gap_of"), "gap_of", "Known.gap_of", defArgs (inClass (top 26) 6), defBody (inClass (top 26) 6), defScope (inClass (top 26) 6), [], []⟩) rfl
  obtain ⟨fd_F_Known_gaps, F_Known_gaps⟩ := c1.def_ 22 (d := ⟨("Known", some "gaps"), "gaps", "Known.gaps", defArgs (inClass (top 26) 5), defBody (inClass (top 26) 5), defScope (inClass (top 26) 5), [], []⟩) rfl
  have m_gaps : TblOk P w K mg base 1 "gaps" (tb_gaps (klOf K)) := (all_cons (p := fun r : Addr × Sd => MOk P w K mg base 1 "gaps" r.1 r.2) (MOk.mono (mo_Known_gaps (kl := klOf K) F_Known_gaps (He.cls_ok (c1.fact 39 (f := .cls "Known") rfl)) (He.meth_ok (c1.fact 62 (f := .meth "Known" "gaps") rfl)) bi cf) (by decide)) all_nil)
  have m_gap_of : TblOk P w K mg base 2 "gap_of" (tb_gap_of (klOf K)) := (all_cons (p := fun r : Addr × Sd => MOk P w K mg base 2 "gap_of" r.1 r.2) (MOk.mono (mo_Known_gap_of (kl := klOf K) F_Known_gap_of (He.cls_ok (c1.fact 39 (f := .cls "Known") rfl)) (He.meth_ok (c1.fact 61 (f := .meth "Known" "gap_of") rfl)) bi cf m_gaps) (by decide)) all_nil)
  obtain ⟨fd_F_Promise_free, F_Promise_free⟩ := c1.def_ 23 (d := ⟨("Promise", some "free"), "free", "Promise.free", defArgs (inClass (top 21) 3), defBody (inClass (top 21) 3), defScope (inClass (top 21) 3), [], []⟩) rfl
  obtain ⟨fd_F_Stretches___init__, F_Stretches___init__⟩ := c1.def_ 24 (d := ⟨("Stretches", some "__init__"), "__init__", "Stretches.__init__", defArgs (inClass (top 19) 2), defBody (inClass (top 19) 2), defScope (inClass (top 19) 2), [.adr (He.dflAt ("Stretches", some "__init__") 0)], []⟩) rfl
  have c_joined : Fnk P w K mg base "joined" 1 ["rows"] [] [] sd_joined := fk_joined (defAt_of X G c1 25 64 rfl rfl) bi
  have fi_Stretches := ms_Stretches___init__ (P := P) (w := w) (kl := klOf K) (base := base) F_Stretches___init__ bi cs c_joined cf x_BadStretch
  have kl_Stretches : MakeSl P w K mg base 3 "Stretches" ((klOf K)).Stretches (sd_Stretches___init__ (klOf K)) := MakeSl.mono ⟨_, _, _, (He.mkr_ok (c1.fact 65 (f := .mkr "Stretches") rfl)), fi_Stretches, (He.glo_ok X G (c1.fact 34 (f := .glo "Stretches") rfl)), bo_Stretches___init__ F_Stretches___init__⟩ (by decide)
  obtain ⟨fd_Z_OneToOne_free, Z_OneToOne_free⟩ := Top.x c 3 (d := ⟨("OneToOne", some "free"), "free", "OneToOne.free", defArgs (inClass (top 22) 3), defBody (inClass (top 22) 3), defScope (inClass (top 22) 3), "OneToOne"⟩) rfl
  have G_OneToOne_free := mf_Promise_free (kl := klOf K) (P := P) (w := w) (base := base) F_Promise_free bi cf kl_Stretches
  obtain ⟨fd_F_Stretches___sub__, F_Stretches___sub__⟩ := c1.def_ 26 (d := ⟨("Stretches", some "__sub__"), "__sub__", "Stretches.__sub__", defArgs (inClass (top 19) 11), defBody (inClass (top 19) 11), defScope (inClass (top 19) 11), [], []⟩) rfl
  have c_gaps : Fnk P w K mg base "gaps" 1 ["pairs"] [] [] sd_gaps := fk_gaps (defAt_of X G c1 27 67 rfl rfl) bi cs
  have c_common : Fnk P w K mg base "common" 1 ["left", "right"] [] [] sd_common := fk_common (defAt_of X G c1 28 68 rfl rfl) bi
  have ms_Stretches___sub__ : MSl P w K mg base 5 "__sub__" ((klOf K)).Stretches (sd_Stretches___sub__ (klOf K)) := MSl.mono ⟨_, _, _, (slcB_ok (Top.e c 9 rfl)).1, (slcB_ok (Top.e c 9 rfl)).2, (He.meth_ok (c1.fact 66 (f := .meth "Stretches" "__sub__") rfl)), (mf_Stretches___sub__ (P := P) (w := w) (kl := klOf K) (base := base) F_Stretches___sub__ bi c_gaps c_common cf kl_Stretches).1, (mf_Stretches___sub__ (P := P) (w := w) (kl := klOf K) (base := base) F_Stretches___sub__ bi c_gaps c_common cf kl_Stretches).2⟩ (by decide)
  obtain ⟨fd_F_Pace_free, F_Pace_free⟩ := c1.def_ 29 (d := ⟨("Pace", some "free"), "free", "Pace.free", defArgs (inClass (top 31) 8), defBody (inClass (top 31) 8), defScope (inClass (top 31) 8), [], []⟩) rfl
  have c_height : Fnk P w K mg base "height" 1 ["line", "key"] [] [] sd_height := fk_height (defAt_of X G c1 30 71 rfl rfl) bi
  obtain ⟨fd_F_Pace_lower, F_Pace_lower⟩ := c1.def_ 31 (d := ⟨("Pace", some "lower"), "lower", "Pace.lower", defArgs (inClass (top 31) 6), defBody (inClass (top 31) 6), defScope (inClass (top 31) 6), [], []⟩) rfl
  have m_lower : TblOk P w K mg base 1 "lower" (tb_lower (klOf K)) := (all_cons (p := fun r : Addr × Sd => MOk P w K mg base 1 "lower" r.1 r.2) (MOk.mono (mo_Pace_lower (kl := klOf K) F_Pace_lower (He.cls_ok (c1.fact 46 (f := .cls "Pace") rfl)) (He.meth_ok (c1.fact 72 (f := .meth "Pace" "lower") rfl)) bi cf) (by decide)) all_nil)
  obtain ⟨fd_F_Pace_upper, F_Pace_upper⟩ := c1.def_ 32 (d := ⟨("Pace", some "upper"), "upper", "Pace.upper", defArgs (inClass (top 31) 7), defBody (inClass (top 31) 7), defScope (inClass (top 31) 7), [], []⟩) rfl
  have m_upper : TblOk P w K mg base 1 "upper" (tb_upper (klOf K)) := (all_cons (p := fun r : Addr × Sd => MOk P w K mg base 1 "upper" r.1 r.2) (MOk.mono (mo_Pace_upper (kl := klOf K) F_Pace_upper (He.cls_ok (c1.fact 46 (f := .cls "Pace") rfl)) (He.meth_ok (c1.fact 73 (f := .meth "Pace" "upper") rfl)) bi cf) (by decide)) all_nil)
  have m_free : TblOk P w K mg base 7 "free" (tb_free (klOf K)) := (all_cons (p := fun r : Addr × Sd => MOk P w K mg base 7 "free" r.1 r.2) (MOk.mono (mo_Promise_free (kl := klOf K) F_Promise_free (He.cls_ok (c1.fact 50 (f := .cls "Promise") rfl)) (He.meth_ok (c1.fact 63 (f := .meth "Promise" "free") rfl)) bi cf kl_Stretches) (by decide)) (all_cons (p := fun r : Addr × Sd => MOk P w K mg base 7 "free" r.1 r.2) (MOk.mono (ms_OneToOne_free (kl := klOf K) (P := P) (w := w) (base := base) Z_OneToOne_free (supMB_ok (Top.e c 97 rfl)) G_OneToOne_free.1 G_OneToOne_free.2 bi cf kl_Stretches ms_Stretches___sub__ (He.cls_ok (c1.fact 49 (f := .cls "OneToOne") rfl)) (He.meth_ok (c1.fact 69 (f := .meth "OneToOne" "free") rfl))) (by decide)) (all_cons (p := fun r : Addr × Sd => MOk P w K mg base 7 "free" r.1 r.2) (MOk.mono (mo_Pace_free (kl := klOf K) F_Pace_free (He.cls_ok (c1.fact 46 (f := .cls "Pace") rfl)) (He.meth_ok (c1.fact 70 (f := .meth "Pace" "free") rfl)) bi c_height cf m_lower m_upper kl_Stretches) (by decide)) all_nil)))
  have m_lot : TblOk P w K mg base 8 "lot" (tb_lot (klOf K)) := (all_cons (p := fun r : Addr × Sd => MOk P w K mg base 8 "lot" r.1 r.2) (MOk.mono (mo_Known_lot (kl := klOf K) F_Known_lot (He.cls_ok (c1.fact 39 (f := .cls "Known") rfl)) (He.meth_ok (c1.fact 59 (f := .meth "Known" "lot") rfl)) bi cf m_told m_gap_of m_free kl_Stretches) (by decide)) all_nil)
  obtain ⟨fd_Z_Impossible___init__, Z_Impossible___init__⟩ := Top.x c 4 (d := ⟨("Impossible", some "__init__"), "__init__", "Impossible.__init__", defArgs (inClass (top 8) 0), defBody (inClass (top 8) 0), defScope (inClass (top 8) 0), "Impossible"⟩) rfl
  have x_Impossible : ExcMk P w K mg base 1 "Impossible" ((klOf K)).Impossible ["key", "value"] := mx_Impossible Z_Impossible___init__ (oexB_ok (Top.e c 99 rfl)) (initB_ok (Top.e c 98 rfl)).1 (initB_ok (Top.e c 98 rfl)).2 (He.glo_ok X G (c1.fact 32 (f := .glo "Impossible") rfl)) (supEB_ok (Top.e c 100 rfl)) (noatB_ok (Top.e c 78 rfl)) (noatB_ok (Top.e c 77 rfl))
  obtain ⟨fd_Z_TooMany___init__, Z_TooMany___init__⟩ := Top.x c 5 (d := ⟨("TooMany", some "__init__"), "__init__", "TooMany.__init__", defArgs (inClass (top 9) 0), defBody (inClass (top 9) 0), defScope (inClass (top 9) 0), "TooMany"⟩) rfl
  have x_TooMany : ExcMk P w K mg base 1 "TooMany" ((klOf K)).TooMany ["limit"] := mx_TooMany Z_TooMany___init__ (oexB_ok (Top.e c 103 rfl)) (initB_ok (Top.e c 101 rfl)).1 (initB_ok (Top.e c 101 rfl)).2 (He.glo_ok X G (c1.fact 33 (f := .glo "TooMany") rfl)) (supEB_ok (Top.e c 104 rfl)) (noatB_ok (Top.e c 102 rfl))
  obtain ⟨fd_F_Stretches___contains__, F_Stretches___contains__⟩ := c1.def_ 33 (d := ⟨("Stretches", some "__contains__"), "__contains__", "Stretches.__contains__", defArgs (inClass (top 19) 7), defBody (inClass (top 19) 7), defScope (inClass (top 19) 7), [], []⟩) rfl
  have ms_Stretches___contains__ : MSl P w K mg base 1 "__contains__" ((klOf K)).Stretches (sd_Stretches___contains__ (klOf K)) := MSl.mono ⟨_, _, _, (slcB_ok (Top.e c 9 rfl)).1, (slcB_ok (Top.e c 9 rfl)).2, (He.meth_ok (c1.fact 74 (f := .meth "Stretches" "__contains__") rfl)), (mf_Stretches___contains__ (P := P) (w := w) (kl := klOf K) (base := base) F_Stretches___contains__ bi cf).1, (mf_Stretches___contains__ (P := P) (w := w) (kl := klOf K) (base := base) F_Stretches___contains__ bi cf).2⟩ (by decide)
  have mu_Known_teach : MuM P w K mg base 9 "teach" ((klOf K)).Known (sd_Known_teach (klOf K)) := MuM.mono (mu_Known_teach (P := P) (w := w) (kl := klOf K) (base := base) F_Known_teach (He.cls_ok (c1.fact 39 (f := .cls "Known") rfl)) (He.meth_ok (c1.fact 58 (f := .meth "Known" "teach") rfl)) bi cs cf m_lot m_told x_Impossible x_TooMany ms_Stretches___contains__) (by decide)
  have G0_Known___init__ := mi0_Known___init__ (P := P) (w := w) (kl := klOf K) (base := base) F_Known___init__ bi c_check_ends cf m_exists kb_Promise x0_Contradiction mu_Known_teach
  obtain ⟨mv_Known_promise_least_greatest_samples, kb_Known_promise_least_greatest_samples⟩ := bn_Known___init___promise_least_greatest_samples F_Known___init__
  have kn_Known_promise_least_greatest_samples : MakeOkN P w K mg base 11 "Known" ((klOf K)).Known (sd_Known___init__ (klOf K)) 2 ["promise", "least", "greatest", "samples"] (fun vs zs => vs ++ ((zs.drop 0).take 1 ++ ((zs.drop 1).take 1 ++ ((zs.drop 2).take 1 ++ ((zs.drop 3).take 1 ++ []))))) := MakeOkN.mono ⟨_, _, _, _, _, (He.mkr_ok (c1.fact 53 (f := .mkr "Known") rfl)), G0_Known___init__, (He.glo_ok X G (c1.fact 37 (f := .glo "Known") rfl)), kb_Known_promise_least_greatest_samples, fun _ vs zs _ h => match zs, h with | [_, _, _, _], _ => rfl⟩ (by decide)
  have c__law_tried : Fnk P w K mg base "_law_tried" 13 ["_law_facts_here", "_law_rows"] [] [] (sd__law_tried (klOf K)) := fk__law_tried (defAt_of X G c1 9 24 rfl rfl) bi c__law_promise cf kn_Known_promise_least_greatest_samples
  have c__law_spoilt_samples : Fnk P w K mg base "_law_spoilt_samples" 3 ["_law_draws_here", "_law_facts_here", "_law_rows"] [] [] sd__law_spoilt_samples := fk__law_spoilt_samples (defAt_of X G c1 34 75 rfl rfl) bi c__law_next c__law_amount c__law_ends
  have c__law_spoilt_ends : Fnk P w K mg base "_law_spoilt_ends" 2 ["_law_draws_here", "_law_ends_here"] [] [] sd__law_spoilt_ends := fk__law_spoilt_ends (defAt_of X G c1 35 76 rfl rfl) bi c__law_next
  have c__law_possible_value : Fnk P w K mg base "_law_possible_value" 2 ["_law_facts_here", "_law_rows", "_law_key", "_law_value"] [] [] sd__law_possible_value := fk__law_possible_value (defAt_of X G c1 37 78 rfl rfl) bi c__law_ends c__law_free
  have c__law_known_fault : Fnk P w K mg base "_law_known_fault" 3 ["_law_facts_here", "_law_rows"] [] [] sd__law_known_fault := fk__law_known_fault (defAt_of X G c1 36 77 rfl rfl) bi c__law_possible_value
  have pf__law_spoilt_facts : FnkP P w K mg base "_law_spoilt_facts" 2 ["_law_draws_here", "_law_facts_here"] (sd__law_spoilt_facts (klOf K)) := fkp__law_spoilt_facts (kl := klOf K) (P := P) (w := w) (base := base) (defAt_of X G c1 38 79 rfl rfl) bi c__law_next
  exact ok_law (kl := klOf K) F bi dk c__law_next c__law_facts c__law_sampled c__law_tried c__law_spoilt_samples c__law_spoilt_ends c__law_known_fault cf pf__law_spoilt_facts
end Lw
open PySem PySem.W PySem.Calls PyProof.Rows
theorem PySem.Challenge.cw_stretchesread_k20_refused_known_holds : PySem.Challenge.rw_stretchesread_k20_refused_known.Holds := by
  w_on; o_law
  refine HandSHeadRun.head_any (r := OpenLaw.row PySem.Challenge.rw_stretchesread_k20_refused_known) (q := view (OpenLaw.row PySem.Challenge.rw_stretchesread_k20_refused_known).prog [49]) (H := Lw.hk) (ob := Lw.ob) (M := 8000) (loose := Lw.loose) (d := HandSHeadRun.topDef (OpenLaw.row PySem.Challenge.rw_stretchesread_k20_refused_known).prog 49) (kwd := []) Lw.ob_eq
    (by kernel_rfl) (fun s => by kernel_rfl) Lw.run (by kernel_rfl) (by kernel_rfl) (by kernel_rfl) (by rfl) (by first | assumption | decide +kernel) (by decide +kernel) ⟨rfl, rfl, rfl, rfl, rfl, by decide +kernel⟩ ?hw ?hc
  case hw => w_witness2
  case hc =>
    refine DW.hook_ok (l := PySem.Challenge.rw_stretchesread_k20_refused_known) (n := 63) (k := 14) (x := "_law_script") rfl (by decide) (by kernel_rfl) ⟨rfl, by decide, by decide⟩ ?F
    intro w mg fa h Y G hmg0
    obtain ⟨K, KX, c⟩ := Y
    have hmg : mg ("law" : PySem.Str) = some (.ref fa) := by
      have e : (HandSHeadRun.topDef (OpenLaw.row PySem.Challenge.rw_stretchesread_k20_refused_known).prog 49).name = ("law" : PySem.Str) := by kernel_rfl
      rw [← e]
      exact hmg0
    obtain ⟨fd, hb, hF⟩ := Lw.facts (w := w) KX G hmg c
    exact ⟨K, fd, DW.spLaw K, KX, hb, fun H a ns hl _ hS => ⟨a, ns, rfl, hS, hl, fun _ => rfl⟩, hF⟩
#print axioms PySem.Challenge.cw_stretchesread_k20_refused_known_holds

