import PyProof.Rows.All
import Wide.All
import OpenK.AllK
import Wide.FinOn
import KE.KStateDown
import HandS.ForMost
import HandS.Exc
import HandS.WordsExc
import HandS.TryOnly
import HandS.Defaults
import HandS.Wide
import HandS.Flow
import HandS.NoneIn
import HandS.Slots
import KE.KDictKeyed
import HandS.CallSlots
import HandS.Evl
import HandS.Head0
import HandS.Head1
import HandS.Head2
import HandS.HeadEnd
import HandS.HeadHook1
import HandS.HeadHook2
import HandS.EndBits
import HandS.Steps
import HandS.IsInst
import HandS.New0
import KE.KSuper
import KE.KExcSuper
import HandS.Nested
import HandS.ClsMeth
import HandS.ExcInit
import HandS.ExcIs
import HandS.ExcField
import HandS.TryMany
import KE.KExcIs
import HandS.SortRule
import HandS.SlotsOwn
import KE.KOpsOwn
import HandS.FStr
import HandS.Text
import HandS.More
import KE.KCallOwn
import HandS.Star
import HandS.OwnIter
import HandS.IterNext
import HandS.DictSub
import PyProof.MeetsIn
import HandS.MakeKw
import HandS.MakeKwOnly
import KE.KStar
import HandS.RevRange
import HandS.Property
import HandS.Dict
import HandS.Style
import HandS.SetBool
import HandS.SetTxt0
import HandS.DictComp
import HandS.SortKw
import KE.KMinKey
import HandS.WordsDict
import HandS.SetFor
import HandS.SetIn
import HandS.Zip
import KE.KDictWalk
import KE.KRevIter
import KE.KDictList
import HandS.Rev
import HandS.TupAny
import HandS.StrMore
import HandS.ExcOwn
import KE.KxField
import HandS.ExcValue
import PySem.Challenge.RW_stretchesread_k03_refused_stretches
set_option Elab.async false
set_option linter.all false
set_option maxRecDepth 100000
namespace DW
open PySem L2

inductive Dt where
  | v (x : V)
  | lst (xs : List Dt)
  | tup (xs : List Dt)
  | obj (C : Addr) (fs : List (Str × Dt))
  | slt (C : Addr) (d : Dt)
  | exc (a : Addr) (dd : Option Addr) (C : Addr) (fs : List (Str × Dt))
  | dct (kvs : List (Key × Dt))
  | dcn (w : World) (kvs : List (Dt × Dt))
  | brw (xs : List Dt)
  | xv (C : Addr) (fs : List (Str × Dt))
  | drw
abbrev Dt.int (i : Int) : Dt := .v (.int i)
abbrev Dt.bl (b : Bool) : Dt := .v (.bl b)
abbrev Dt.str (x : Str) : Dt := .v (.str x)
abbrev Dt.non : Dt := .v .non

mutual
def nkOf : Dt → Option NestedKey
  | .v (.bl b) => some (.num (if b = true then 1 else 0))
  | .v (.int i) => some (.num i)
  | .v (.str x) => some (.text x)
  | .tup ds => (nkOfs ds).map NestedKey.tup
  | _ => none
def nkOfs : List Dt → Option (List NestedKey)
  | [] => some []
  | d :: r => match nkOf d, nkOfs r with
    | some k, some ks => some (k :: ks)
    | _, _ => none
end
structure NEnt where
  key : NestedKey
  ka : Addr
  va : Addr
def rawN (w : World) (a : Addr) (ep : Nat) (es : List NEnt) : Heap → Prop := fun h => ∃ o xs, h.get? a = some o ∧ o.ExactDict ∧ o.data = .dict xs ep ∧ xs.toList = es.map (fun e => (⟨e.key.hash w, .ref e.ka, .ref e.va⟩ : DictEntry)) ∧ (es.map (·.key)).Nodup ∧ es.length ≤ 100000 ∧ (a == sysModules) = false ∧ ∀ e ∈ es, e.key.depth ≤ 8
def SqL0 (K : PySem.W.Frag) (F : Hp) (a : Addr) (xs : List V) : Prop := F a = some (.lst xs) ∨
  ∃ (o : Obj) (its : Array Value) (n : Nat), K.lookup a = some o ∧ o.cls = .type "list" ∧ o.dict = none ∧ o.data = .seq its n ∧ its.size ≤ sizeLine ∧ Vals xs its.toList
theorem SqL0.sq {K : PySem.W.Frag} {F : Hp} {a : Addr} {xs : List V} (h : SqL0 K F a xs) : SqL K F a xs := h.imp .inl id
theorem SqL0.mono {K : PySem.W.Frag} {F F' : Hp} {a : Addr} {xs : List V} (e : Same F F') (h : SqL0 K F a xs) : SqL0 K F' a xs := h.imp (e _ _) id
def excAt (a C : Addr) (dd : Option Addr) : Heap → Prop := fun h => ∃ o vs, h.get? a = some o ∧ o.cls = .ref C ∧ o.dict = dd ∧ o.data = .fields vs
mutual
inductive Den (K : PySem.W.Frag) (l0 : Addr) (F : Hp) : V → Dt → Prop
  | v (x : V) : Den K l0 F x (.v x)
  | lst {a : Addr} {xs : List V} {ds : List Dt} (h : SqL0 K F a xs) (r : Dens K l0 F xs ds) : Den K l0 F (.ref a) (.lst ds)
  | tup {a : Addr} {xs : List V} {ds : List Dt} (h : SqT K F a xs) (r : Dens K l0 F xs ds) : Den K l0 F (.ref a) (.tup ds)
  | obj {a C dx : Addr} {fs : List (Str × V)} {gs : List (Str × Dt)} (h : F a = some (.ins C dx fs)) (r : DenF K l0 F fs gs) : Den K l0 F (.ref a) (.obj C gs)
  | slt {a C dx : Addr} {x : V} {d : Dt} (h : F a = some (SlX.SlO a C dx [some x])) (h2 : F dx = some (.xd [])) (ne : dx ≠ a) (r : Den K l0 F x d) : Den K l0 F (.ref a) (.slt C d)
  | exc {a dd C : Addr} {fs : List (Str × V)} {gs : List (Str × Dt)} (h : F dd = some (.xd fs)) (r : DenF K l0 F fs gs) : Den K l0 F (.ref a) (.exc a (some dd) C gs)
  | exc0 {a C : Addr} : Den K l0 F (.ref a) (.exc a none C [])
  | dct {a : Addr} {xs : List (Key × V)} {kvs : List (Key × Dt)} (h : F a = some (.dK xs)) (r : DenK K l0 F xs kvs) : Den K l0 F (.ref a) (.dct kvs)
  | dcn {a : Addr} {w : World} {ep : Nat} {es : List NEnt} {kvs : List (Dt × Dt)} (h : F a = some (.ext (rawN w a ep es))) (r : DenN K l0 F es kvs) : Den K l0 F (.ref a) (.dcn w kvs)
  | brw {a : Addr} {o : Obj} {xs : List V} {ds : List Dt} (h : F a = some (.frz o (.lst xs))) (r : Dens K l0 F xs ds) : Den K l0 F (.ref a) (.brw ds)
  | xv {a dd C : Addr} {fs : List (Str × V)} {gs : List (Str × Dt)} (h : F a = some (.ext (excAt a C (some dd)))) (h2 : F dd = some (.xd fs)) (r : DenF K l0 F fs gs) : Den K l0 F (.ref a) (.xv C gs)
  | xv0 {a C : Addr} (h : F a = some (.ext (excAt a C none))) : Den K l0 F (.ref a) (.xv C [])
  | drw : Den K l0 F (.ref l0) .drw
inductive Dens (K : PySem.W.Frag) (l0 : Addr) (F : Hp) : List V → List Dt → Prop
  | nil : Dens K l0 F [] []
  | cons {x : V} {d : Dt} {xs : List V} {ds : List Dt} (h : Den K l0 F x d) (t : Dens K l0 F xs ds) : Dens K l0 F (x :: xs) (d :: ds)
inductive DenF (K : PySem.W.Frag) (l0 : Addr) (F : Hp) : List (Str × V) → List (Str × Dt) → Prop
  | nil : DenF K l0 F [] []
  | cons {f : Str} {x : V} {d : Dt} {xs : List (Str × V)} {ds : List (Str × Dt)} (h : Den K l0 F x d) (t : DenF K l0 F xs ds) : DenF K l0 F ((f, x) :: xs) ((f, d) :: ds)
inductive DenK (K : PySem.W.Frag) (l0 : Addr) (F : Hp) : List (Key × V) → List (Key × Dt) → Prop
  | nil : DenK K l0 F [] []
  | cons {f : Key} {x : V} {d : Dt} {xs : List (Key × V)} {ds : List (Key × Dt)} (h : Den K l0 F x d) (t : DenK K l0 F xs ds) : DenK K l0 F ((f, x) :: xs) ((f, d) :: ds)
inductive DenN (K : PySem.W.Frag) (l0 : Addr) (F : Hp) : List NEnt → List (Dt × Dt) → Prop
  | nil : DenN K l0 F [] []
  | cons {e : NEnt} {k d : Dt} {es : List NEnt} {ds : List (Dt × Dt)} (hk : nkOf k = some e.key) (hd : Den K l0 F (.ref e.ka) k) (h : Den K l0 F (.ref e.va) d) (t : DenN K l0 F es ds) : DenN K l0 F (e :: es) ((k, d) :: ds)
end
theorem sameT {K : PySem.W.Frag} {H H' : Hp} {a : Addr} {xs : List V} (e : Same H H') (h : SqT K H a xs) : SqT K H' a xs := by
  rcases h with (h | ⟨o, h⟩) | h
  · exact .inl (.inl (e _ _ h))
  · exact .inl (.inr ⟨o, e _ _ h⟩)
  · exact .inr h
section
variable {K : PySem.W.Frag} {l0 : Addr} {F F' : Hp}
mutual
theorem Den.mono (e : Same F F') : ∀ {v : V} {d : Dt}, Den K l0 F v d → Den K l0 F' v d
  | _, _, .v x => .v x
  | _, _, .lst h r => .lst (h.mono e) (Dens.mono e r)
  | _, _, .tup h r => .tup (sameT e h) (Dens.mono e r)
  | _, _, .obj h r => .obj (e _ _ h) (DenF.mono e r)
  | _, _, .slt h h2 ne r => .slt (e _ _ h) (e _ _ h2) ne (Den.mono e r)
  | _, _, .exc h r => .exc (e _ _ h) (DenF.mono e r)
  | _, _, .exc0 => .exc0
  | _, _, .dct h r => .dct (e _ _ h) (DenK.mono e r)
  | _, _, .dcn h r => .dcn (e _ _ h) (DenN.mono e r)
  | _, _, .brw h r => .brw (e _ _ h) (Dens.mono e r)
  | _, _, .xv h h2 r => .xv (e _ _ h) (e _ _ h2) (DenF.mono e r)
  | _, _, .xv0 h => .xv0 (e _ _ h)
  | _, _, .drw => .drw
theorem Dens.mono (e : Same F F') : ∀ {v : List V} {d : List Dt}, Dens K l0 F v d → Dens K l0 F' v d
  | _, _, .nil => .nil
  | _, _, .cons h t => .cons (Den.mono e h) (Dens.mono e t)
theorem DenF.mono (e : Same F F') : ∀ {v : List (Str × V)} {d : List (Str × Dt)}, DenF K l0 F v d → DenF K l0 F' v d
  | _, _, .nil => .nil
  | _, _, .cons h t => .cons (Den.mono e h) (DenF.mono e t)
theorem DenK.mono (e : Same F F') : ∀ {v : List (Key × V)} {d : List (Key × Dt)}, DenK K l0 F v d → DenK K l0 F' v d
  | _, _, .nil => .nil
  | _, _, .cons h t => .cons (Den.mono e h) (DenK.mono e t)
theorem DenN.mono (e : Same F F') : ∀ {v : List NEnt} {d : List (Dt × Dt)}, DenN K l0 F v d → DenN K l0 F' v d
  | _, _, .nil => .nil
  | _, _, .cons hk hd h t => .cons hk (Den.mono e hd) (Den.mono e h) (DenN.mono e t)
end
theorem Dens.length : ∀ {xs : List V} {ds : List Dt}, Dens K l0 F xs ds → xs.length = ds.length
  | _, _, .nil => rfl
  | _, _, .cons _ t => congrArg (· + 1) (Dens.length t)
theorem Dens.get : ∀ {xs : List V} {ds : List Dt} {i : Nat} {d : Dt}, Dens K l0 F xs ds → ds[i]? = some d → ∃ x, xs[i]? = some x ∧ Den K l0 F x d
  | _, _, _, _, .nil, e => by simp at e
  | _, _, 0, _, .cons h _, e => by simp at e; subst e; exact ⟨_, rfl, h⟩
  | _, _, i + 1, d, .cons _ t, e => by
    obtain ⟨x, h1, h2⟩ := Dens.get (i := i) (d := d) t (by simpa using e)
    exact ⟨x, by simpa using h1, h2⟩
theorem Dens.getx : ∀ {xs : List V} {ds : List Dt} {i : Nat} {x : V}, Dens K l0 F xs ds → xs[i]? = some x → ∃ d, ds[i]? = some d ∧ Den K l0 F x d
  | _, _, _, _, .nil, e => by simp at e
  | _, _, 0, _, .cons h _, e => by simp at e; subst e; exact ⟨_, rfl, h⟩
  | _, _, i + 1, d, .cons _ t, e => by
    obtain ⟨x, h1, h2⟩ := Dens.getx (i := i) (x := d) t (by simpa using e)
    exact ⟨x, by simpa using h1, h2⟩
theorem Dens.append : ∀ {xs ys : List V} {ds es : List Dt}, Dens K l0 F xs ds → Dens K l0 F ys es → Dens K l0 F (xs ++ ys) (ds ++ es)
  | _, _, _, _, .nil, s => s
  | _, _, _, _, .cons h t, s => .cons h (Dens.append t s)
theorem Dens.one {x : V} {d : Dt} (h : Den K l0 F x d) : Dens K l0 F [x] [d] := .cons h .nil
theorem Dens.ints : ∀ {xs : List V} {ns : List Int}, Dens K l0 F xs (ns.map Dt.int) → xs = ns.map V.int
  | _, [], .nil => rfl
  | _, n :: ns, .cons (.v _) t => by rw [Dens.ints t]; rfl
theorem DenF.look : ∀ {xs : List (Str × V)} {ds : List (Str × Dt)} {f : Str} {d : Dt}, DenF K l0 F xs ds → ds.lookup f = some d → ∃ x, xs.lookup f = some x ∧ Den K l0 F x d
  | _, _, _, _, .nil, e => by simp at e
  | _, _, f, d, .cons (f := g) (x := y) (d := b) h t, e => by
    by_cases q : f = g
    · subst q
      simp at e
      subst e
      exact ⟨_, by simp, h⟩
    · have hb : (f == g) = false := beq_eq_false_iff_ne.mpr q
      rw [List.lookup_cons, hb] at e
      obtain ⟨x, h1, h2⟩ := DenF.look t e
      exact ⟨x, by rw [List.lookup_cons, hb]; exact h1, h2⟩
theorem DenF.none : ∀ {xs : List (Str × V)} {ds : List (Str × Dt)} {f : Str}, DenF K l0 F xs ds → ds.lookup f = Option.none → xs.lookup f = Option.none
  | _, _, _, .nil, _ => by simp
  | _, _, f, .cons (f := g) (x := y) (d := b) h t, e => by
    by_cases q : f = g
    · subst q
      simp at e
    · have hb : (f == g) = false := beq_eq_false_iff_ne.mpr q
      rw [List.lookup_cons, hb] at e ⊢
      exact DenF.none t e
end

structure Base (l0 : Addr) (F H : Hp) : Prop where
  sub : Same F H
  nf : F l0 = none
  dr : ∃ ns : List Int, H l0 = some (.lst (ns.map V.int)) ∧ (∀ n ∈ ns, 0 ≤ n) ∧ ns.length ≤ 100000
structure Go (l0 : Addr) (F H F' H' : Hp) : Prop where
  bs : Base l0 F' H'
  ex : Same F F'
  new : ∀ a, F a = none → F' a ≠ none → H a = none
  keep : ∀ a o, a ≠ l0 → H a = some o → H' a = some o
theorem Base.live {l0 : Addr} {F H : Hp} (b : Base l0 F H) : H l0 ≠ none := by
  obtain ⟨ns, h, _⟩ := b.dr
  rw [h]
  exact fun e => nomatch e
theorem Go.refl {l0 : Addr} {F H : Hp} (b : Base l0 F H) : Go l0 F H F H := ⟨b, fun _ _ h => h, fun _ h1 h2 => absurd h1 h2, fun _ _ _ h => h⟩
theorem Go.trans {l0 : Addr} {F H F1 H1 F2 H2 : Hp} (g : Go l0 F H F1 H1) (k : Go l0 F1 H1 F2 H2) : Go l0 F H F2 H2 where
  bs := k.bs
  ex := fun a o h => k.ex a o (g.ex a o h)
  new := fun a h1 h2 => by
    by_cases q : F1 a = none
    · have z := k.new a q h2
      cases e : H a with
      | none => rfl
      | some o =>
        by_cases w : a = l0
        · subst w
          exact absurd z g.bs.live
        · rw [g.keep a o w e] at z
          cases z
    · exact g.new a h1 q
  keep := fun a o n h => k.keep a o n (g.keep a o n h)
theorem Go.fresh {l0 : Addr} {F H : Hp} (b : Base l0 F H) {p : Addr} (o : HO) (h : H p = none) : Go l0 F H (upd F p o) (upd H p o) := by
  have n0 : p ≠ l0 := fun e => b.live (by rw [← e]; exact h)
  have nF : F p = none := by
    cases e : F p with
    | none => rfl
    | some u =>
      rw [b.sub p u e] at h
      cases h
  refine ⟨⟨fun a u e => ?_, by rw [upd_ne n0.symm]; exact b.nf, ?_⟩, fun a u e => ?_, fun a h1 h2 => ?_, fun a u _ e => ?_⟩
  · by_cases q : a = p
    · subst q
      rw [upd_same] at e ⊢
      exact e
    · rw [upd_ne q] at e ⊢
      exact b.sub a u e
  · obtain ⟨ns, h1, h2⟩ := b.dr
    exact ⟨ns, by rw [upd_ne n0.symm]; exact h1, h2⟩
  · rw [upd_ne (ne_of_none e nF)]
    exact e
  · by_cases q : a = p
    · subst q
      exact h
    · rw [upd_ne q] at h2
      exact absurd h1 h2
  · rw [upd_ne (ne_of_none e h)]
    exact e
theorem Go.loose {l0 : Addr} {F H : Hp} (b : Base l0 F H) {p : Addr} (o : HO) (h : H p = none) : Go l0 F H F (upd H p o) := by
  have n0 : p ≠ l0 := fun e => b.live (by rw [← e]; exact h)
  refine ⟨⟨fun a u e => ?_, b.nf, ?_⟩, fun a u e => e, fun a h1 h2 => absurd h1 h2, fun a u _ e => ?_⟩
  · rw [upd_ne (ne_of_none (b.sub a u e) h)]
    exact b.sub a u e
  · obtain ⟨ns, h1, h2⟩ := b.dr
    exact ⟨ns, by rw [upd_ne n0.symm]; exact h1, h2⟩
  · rw [upd_ne (ne_of_none e h)]
    exact e

inductive OT where
  | dat (d : Dt)
  | lst (a : Addr) (xs : List OT)
  | ins (a dx C : Addr) (fs : List (Str × OT))
  | dct (a : Addr) (w : World) (kvs : List (Dt × OT))
mutual
def OT.ads : OT → List Addr
  | .dat _ => []
  | .lst a xs => a :: adsL xs
  | .ins a dx _ fs => a :: dx :: adsF fs
  | .dct a _ kvs => a :: adsK kvs
def adsL : List OT → List Addr
  | [] => []
  | t :: r => t.ads ++ adsL r
def adsF : List (Str × OT) → List Addr
  | [] => []
  | (_, t) :: r => t.ads ++ adsF r
def adsK : List (Dt × OT) → List Addr
  | [] => []
  | (_, t) :: r => t.ads ++ adsK r
end
mutual
def OT.toD : OT → Dt
  | .dat d => d
  | .lst _ xs => .lst (toDL xs)
  | .ins _ _ C fs => .obj C (toDF fs)
  | .dct _ w kvs => .dcn w (toDK kvs)
def toDL : List OT → List Dt
  | [] => []
  | t :: r => t.toD :: toDL r
def toDF : List (Str × OT) → List (Str × Dt)
  | [] => []
  | (f, t) :: r => (f, t.toD) :: toDF r
def toDK : List (Dt × OT) → List (Dt × Dt)
  | [] => []
  | (k, t) :: r => (k, t.toD) :: toDK r
end
def OT.isDat : OT → Bool
  | .dat _ => true
  | _ => false
mutual
inductive TreV (K : PySem.W.Frag) (l0 : Addr) (F H : Hp) : V → OT → Prop
  | dat {v : V} {d : Dt} (r : Den K l0 F v d) : TreV K l0 F H v (.dat d)
  | lst {a : Addr} {vs : List V} {xs : List OT} (h1 : F a = none) (h2 : a ≠ l0) (h3 : H a = some (.lst vs)) (r : TreVs K l0 F H vs xs) : TreV K l0 F H (.ref a) (.lst a xs)
  | ins {a dx C : Addr} {gs : List (Str × V)} {fs : List (Str × OT)} (h1 : F a = none) (h2 : a ≠ l0) (h3 : H a = some (.ins C dx gs)) (k1 : F dx = none) (k2 : dx ≠ l0) (k3 : H dx = some (.own a)) (r : TreVf K l0 F H gs fs) : TreV K l0 F H (.ref a) (.ins a dx C fs)
  | dct {a : Addr} {w : World} {ep : Nat} {es : List NEnt} {kvs : List (Dt × OT)} (h1 : F a = none) (h2 : a ≠ l0) (h3 : H a = some (.ext (rawN w a ep es))) (r : TreVk K l0 F H es kvs) : TreV K l0 F H (.ref a) (.dct a w kvs)
inductive TreVs (K : PySem.W.Frag) (l0 : Addr) (F H : Hp) : List V → List OT → Prop
  | nil : TreVs K l0 F H [] []
  | cons {v : V} {t : OT} {vs : List V} {ts : List OT} (h : TreV K l0 F H v t) (r : TreVs K l0 F H vs ts) : TreVs K l0 F H (v :: vs) (t :: ts)
inductive TreVf (K : PySem.W.Frag) (l0 : Addr) (F H : Hp) : List (Str × V) → List (Str × OT) → Prop
  | nil : TreVf K l0 F H [] []
  | cons {f : Str} {v : V} {t : OT} {vs : List (Str × V)} {ts : List (Str × OT)} (h : TreV K l0 F H v t) (r : TreVf K l0 F H vs ts) : TreVf K l0 F H ((f, v) :: vs) ((f, t) :: ts)
inductive TreVk (K : PySem.W.Frag) (l0 : Addr) (F H : Hp) : List NEnt → List (Dt × OT) → Prop
  | nil : TreVk K l0 F H [] []
  | cons {e : NEnt} {d : Dt} {t : OT} {es : List NEnt} {ts : List (Dt × OT)} (hk : nkOf d = some e.key) (hd : Den K l0 F (.ref e.ka) d) (h : TreV K l0 F H (.ref e.va) t) (r : TreVk K l0 F H es ts) : TreVk K l0 F H (e :: es) ((d, t) :: ts)
end
inductive Sl where
  | emp
  | dat (d : Dt)
  | own (ds : List Dt)
  | oob (p : Addr × Addr) (C : Addr) (fs : List (Str × Dt))
  | odc (kvs : List (Key × Dt))
  | tre (t : OT)
abbrev Sl.int (i : Int) : Sl := .dat (.v (.int i))
abbrev Sl.bl (b : Bool) : Sl := .dat (.v (.bl b))
abbrev Sl.str (x : Str) : Sl := .dat (.v (.str x))
abbrev Sl.non : Sl := .dat (.v .non)
def Sl.isOwn : Sl → Bool
  | .own _ => true
  | .oob _ _ _ => true
  | .odc _ => true
  | .tre _ => true
  | _ => false
def Sl.inn : Sl → List Addr
  | .tre t => t.ads
  | _ => []
def Sl.owns (s : Sl) (x : Option (Option V)) (a : Addr) : Prop := s.isOwn = true ∧ (x = some (some (.ref a)) ∨ a ∈ s.inn)
def SlV (K : PySem.W.Frag) (l0 : Addr) (F H : Hp) (v : V) : Sl → Prop
  | .emp => False
  | .dat d => Den K l0 F v d
  | .own ds => ∃ l xs, v = .ref l ∧ F l = none ∧ l ≠ l0 ∧ H l = some (.lst xs) ∧ Dens K l0 F xs ds
  | .oob p0 C fs => ∃ a dx gs, v = .ref a ∧ F a = none ∧ a ≠ l0 ∧ H a = some (.ins C dx gs) ∧ DenF K l0 F gs fs ∧ a = p0.1 ∧ dx = p0.2 ∧ F dx = none ∧ dx ≠ l0 ∧ H dx = some (.own a)
  | .odc kvs => ∃ l xs, v = .ref l ∧ F l = none ∧ l ≠ l0 ∧ H l = some (.dK xs) ∧ DenK K l0 F xs kvs
  | .tre t => TreV K l0 F H v t ∧ t.ads.Nodup ∧ t.isDat = false
mutual
theorem TreV.liv {K : PySem.W.Frag} {l0 : Addr} {F H : Hp} : ∀ {v : V} {t : OT}, TreV K l0 F H v t → ∀ a ∈ t.ads, F a = none ∧ a ≠ l0 ∧ ∃ o, H a = some o
  | _, _, .dat _, a, m => nomatch m
  | _, _, .lst h1 h2 h3 r, a, m => (List.mem_cons.mp m).elim (fun e => by subst e; exact ⟨h1, h2, _, h3⟩) (TreVs.liv r a)
  | _, _, .ins h1 h2 h3 k1 k2 k3 r, a, m => (List.mem_cons.mp m).elim (fun e => by subst e; exact ⟨h1, h2, _, h3⟩) fun m => (List.mem_cons.mp m).elim (fun e => by subst e; exact ⟨k1, k2, _, k3⟩) (TreVf.liv r a)
  | _, _, .dct h1 h2 h3 r, a, m => (List.mem_cons.mp m).elim (fun e => by subst e; exact ⟨h1, h2, _, h3⟩) (TreVk.liv r a)
theorem TreVs.liv {K : PySem.W.Frag} {l0 : Addr} {F H : Hp} : ∀ {v : List V} {t : List OT}, TreVs K l0 F H v t → ∀ a ∈ adsL t, F a = none ∧ a ≠ l0 ∧ ∃ o, H a = some o
  | _, _, .nil, a, m => nomatch m
  | _, _, .cons h r, a, m => (List.mem_append.mp m).elim (TreV.liv h a) (TreVs.liv r a)
theorem TreVf.liv {K : PySem.W.Frag} {l0 : Addr} {F H : Hp} : ∀ {v : List (Str × V)} {t : List (Str × OT)}, TreVf K l0 F H v t → ∀ a ∈ adsF t, F a = none ∧ a ≠ l0 ∧ ∃ o, H a = some o
  | _, _, .nil, a, m => nomatch m
  | _, _, .cons h r, a, m => (List.mem_append.mp m).elim (TreV.liv h a) (TreVf.liv r a)
theorem TreVk.liv {K : PySem.W.Frag} {l0 : Addr} {F H : Hp} : ∀ {v : List NEnt} {t : List (Dt × OT)}, TreVk K l0 F H v t → ∀ a ∈ adsK t, F a = none ∧ a ≠ l0 ∧ ∃ o, H a = some o
  | _, _, .nil, a, m => nomatch m
  | _, _, .cons _ _ h r, a, m => (List.mem_append.mp m).elim (TreV.liv h a) (TreVk.liv r a)
end
mutual
theorem TreV.frm {K : PySem.W.Frag} {l0 : Addr} {F H F' H' : Hp} (e : Same F F') : ∀ {v : V} {t : OT}, TreV K l0 F H v t → (∀ a ∈ t.ads, F' a = none) → (∀ a ∈ t.ads, ∀ o, H a = some o → H' a = some o) → TreV K l0 F' H' v t
  | _, _, .dat r, _, _ => .dat (Den.mono e r)
  | _, _, .lst h1 h2 h3 r, q1, q2 => .lst (q1 _ List.mem_cons_self) h2 (q2 _ List.mem_cons_self _ h3) (TreVs.frm e r (fun a m => q1 a (List.mem_cons_of_mem _ m)) fun a m => q2 a (List.mem_cons_of_mem _ m))
  | _, _, .ins h1 h2 h3 k1 k2 k3 r, q1, q2 => .ins (q1 _ List.mem_cons_self) h2 (q2 _ List.mem_cons_self _ h3) (q1 _ (List.mem_cons_of_mem _ List.mem_cons_self)) k2 (q2 _ (List.mem_cons_of_mem _ List.mem_cons_self) _ k3) (TreVf.frm e r (fun a m => q1 a (List.mem_cons_of_mem _ (List.mem_cons_of_mem _ m))) fun a m => q2 a (List.mem_cons_of_mem _ (List.mem_cons_of_mem _ m)))
  | _, _, .dct h1 h2 h3 r, q1, q2 => .dct (q1 _ List.mem_cons_self) h2 (q2 _ List.mem_cons_self _ h3) (TreVk.frm e r (fun a m => q1 a (List.mem_cons_of_mem _ m)) fun a m => q2 a (List.mem_cons_of_mem _ m))
theorem TreVs.frm {K : PySem.W.Frag} {l0 : Addr} {F H F' H' : Hp} (e : Same F F') : ∀ {v : List V} {t : List OT}, TreVs K l0 F H v t → (∀ a ∈ adsL t, F' a = none) → (∀ a ∈ adsL t, ∀ o, H a = some o → H' a = some o) → TreVs K l0 F' H' v t
  | _, _, .nil, _, _ => .nil
  | _, _, .cons h r, q1, q2 => .cons (TreV.frm e h (fun a m => q1 a (List.mem_append_left _ m)) fun a m => q2 a (List.mem_append_left _ m)) (TreVs.frm e r (fun a m => q1 a (List.mem_append_right _ m)) fun a m => q2 a (List.mem_append_right _ m))
theorem TreVf.frm {K : PySem.W.Frag} {l0 : Addr} {F H F' H' : Hp} (e : Same F F') : ∀ {v : List (Str × V)} {t : List (Str × OT)}, TreVf K l0 F H v t → (∀ a ∈ adsF t, F' a = none) → (∀ a ∈ adsF t, ∀ o, H a = some o → H' a = some o) → TreVf K l0 F' H' v t
  | _, _, .nil, _, _ => .nil
  | _, _, .cons h r, q1, q2 => .cons (TreV.frm e h (fun a m => q1 a (List.mem_append_left _ m)) fun a m => q2 a (List.mem_append_left _ m)) (TreVf.frm e r (fun a m => q1 a (List.mem_append_right _ m)) fun a m => q2 a (List.mem_append_right _ m))
theorem TreVk.frm {K : PySem.W.Frag} {l0 : Addr} {F H F' H' : Hp} (e : Same F F') : ∀ {v : List NEnt} {t : List (Dt × OT)}, TreVk K l0 F H v t → (∀ a ∈ adsK t, F' a = none) → (∀ a ∈ adsK t, ∀ o, H a = some o → H' a = some o) → TreVk K l0 F' H' v t
  | _, _, .nil, _, _ => .nil
  | _, _, .cons hk hd h r, q1, q2 => .cons hk (Den.mono e hd) (TreV.frm e h (fun a m => q1 a (List.mem_append_left _ m)) fun a m => q2 a (List.mem_append_left _ m)) (TreVk.frm e r (fun a m => q1 a (List.mem_append_right _ m)) fun a m => q2 a (List.mem_append_right _ m))
end
mutual
theorem TreV.den {K : PySem.W.Frag} {l0 : Addr} {F H F' : Hp} (e : Same F F') : ∀ {v : V} {t : OT}, TreV K l0 F H v t → (∀ a ∈ t.ads, F' a = H a) → Den K l0 F' v t.toD
  | _, _, .dat r, _ => Den.mono e r
  | _, _, .lst h1 h2 h3 r, q => .lst (.inl ((q _ List.mem_cons_self).trans h3)) (TreVs.den e r fun a m => q a (List.mem_cons_of_mem _ m))
  | _, _, .ins h1 h2 h3 k1 k2 k3 r, q => .obj ((q _ List.mem_cons_self).trans h3) (TreVf.den e r fun a m => q a (List.mem_cons_of_mem _ (List.mem_cons_of_mem _ m)))
  | _, _, .dct h1 h2 h3 r, q => .dcn ((q _ List.mem_cons_self).trans h3) (TreVk.den e r fun a m => q a (List.mem_cons_of_mem _ m))
theorem TreVs.den {K : PySem.W.Frag} {l0 : Addr} {F H F' : Hp} (e : Same F F') : ∀ {v : List V} {t : List OT}, TreVs K l0 F H v t → (∀ a ∈ adsL t, F' a = H a) → Dens K l0 F' v (toDL t)
  | _, _, .nil, _ => .nil
  | _, _, .cons h r, q => .cons (TreV.den e h fun a m => q a (List.mem_append_left _ m)) (TreVs.den e r fun a m => q a (List.mem_append_right _ m))
theorem TreVf.den {K : PySem.W.Frag} {l0 : Addr} {F H F' : Hp} (e : Same F F') : ∀ {v : List (Str × V)} {t : List (Str × OT)}, TreVf K l0 F H v t → (∀ a ∈ adsF t, F' a = H a) → DenF K l0 F' v (toDF t)
  | _, _, .nil, _ => .nil
  | _, _, .cons h r, q => .cons (TreV.den e h fun a m => q a (List.mem_append_left _ m)) (TreVf.den e r fun a m => q a (List.mem_append_right _ m))
theorem TreVk.den {K : PySem.W.Frag} {l0 : Addr} {F H F' : Hp} (e : Same F F') : ∀ {v : List NEnt} {t : List (Dt × OT)}, TreVk K l0 F H v t → (∀ a ∈ adsK t, F' a = H a) → DenN K l0 F' v (toDK t)
  | _, _, .nil, _ => .nil
  | _, _, .cons hk hd h r, q => .cons hk (Den.mono e hd) (TreV.den e h fun a m => q a (List.mem_append_left _ m)) (TreVk.den e r fun a m => q a (List.mem_append_right _ m))
end
theorem TreV.root {K : PySem.W.Frag} {l0 : Addr} {F H : Hp} {v : V} {t : OT} (h : TreV K l0 F H v t) (n : t.isDat = false) : ∃ a, v = .ref a ∧ a ∈ t.ads := by
  cases h with
  | dat r => cases n
  | lst h1 h2 h3 r => exact ⟨_, rfl, List.mem_cons_self⟩
  | ins h1 h2 h3 k1 k2 k3 r => exact ⟨_, rfl, List.mem_cons_self⟩
  | dct h1 h2 h3 r => exact ⟨_, rfl, List.mem_cons_self⟩
theorem SlV.liv {K : PySem.W.Frag} {l0 : Addr} {F H : Hp} {v : V} {s : Sl} {a : Addr} (h : SlV K l0 F H v s) (w : s.owns (some (some v)) a) : F a = none ∧ a ≠ l0 ∧ ∃ o, H a = some o := by
  obtain ⟨o, w⟩ := w
  cases s with
  | emp => cases o
  | dat d => cases o
  | own ds =>
    obtain ⟨l, xs, e, h1, h2, h3, _⟩ := h
    rcases w with w | w
    · subst e; cases w; exact ⟨h1, h2, _, h3⟩
    · exact nomatch w
  | oob p0 C fs =>
    obtain ⟨l, dx, gs, e, h1, h2, h3, _⟩ := h
    rcases w with w | w
    · subst e; cases w; exact ⟨h1, h2, _, h3⟩
    · exact nomatch w
  | odc kvs =>
    obtain ⟨l, xs, e, h1, h2, h3, _⟩ := h
    rcases w with w | w
    · subst e; cases w; exact ⟨h1, h2, _, h3⟩
    · exact nomatch w
  | tre t =>
    obtain ⟨r, _, n⟩ := h
    rcases w with w | w
    · obtain ⟨b, e, m⟩ := r.root n
      subst e; cases w
      exact r.liv _ m
    · exact r.liv a w
theorem SlV.go {K : PySem.W.Frag} {l0 : Addr} {F H F' H' : Hp} {v : V} {s : Sl} (g : Go l0 F H F' H') (h : SlV K l0 F H v s) : SlV K l0 F' H' v s := by
  have stay : ∀ {l : Addr} {o : HO}, F l = none → H l = some o → F' l = none := fun {l o} h1 h2 => by
    cases e : F' l with
    | none => rfl
    | some u =>
      have z := g.new l h1 (by rw [e]; exact fun z => nomatch z)
      rw [h2] at z
      cases z
  cases s with
  | emp => exact h
  | dat d => exact Den.mono g.ex h
  | own ds =>
    obtain ⟨l, xs, e, h1, h2, h3, h4⟩ := h
    exact ⟨l, xs, e, stay h1 h3, h2, g.keep _ _ h2 h3, Dens.mono g.ex h4⟩
  | oob p0 C fs =>
    obtain ⟨a, dx, gs, e, h1, h2, h3, h4⟩ := h
    obtain ⟨h4, e1, e2, z1, z2, z3⟩ := h4
    exact ⟨a, dx, gs, e, stay h1 h3, h2, g.keep _ _ h2 h3, DenF.mono g.ex h4, e1, e2, stay z1 z3, z2, g.keep _ _ z2 z3⟩
  | odc kvs =>
    obtain ⟨l, xs, e, h1, h2, h3, h4⟩ := h
    exact ⟨l, xs, e, stay h1 h3, h2, g.keep _ _ h2 h3, DenK.mono g.ex h4⟩
  | tre t =>
    obtain ⟨r, nd, n⟩ := h
    exact ⟨r.frm g.ex (fun a m => by obtain ⟨h1, _, o, h3⟩ := r.liv a m; exact stay h1 h3) fun a m o e => g.keep a o (r.liv a m).2.1 e, nd, n⟩
abbrev En := List Sl
structure Stt (K : PySem.W.Frag) (l0 : Addr) (F H : Hp) (σ : L2.St) (ρ : En) : Prop where
  bs : Base l0 F H
  len : ρ.length = σ.length
  sl : ∀ (i : Nat) (s : Sl), ρ[i]? = some s → s = .emp ∨ ∃ v, σ[i]? = some (some v) ∧ SlV K l0 F H v s
  ap2 : ∀ (i j : Nat) (s t : Sl) (a : Addr), ρ[i]? = some s → ρ[j]? = some t → s.owns σ[i]? a → t.owns σ[j]? a → i = j
theorem Stt.ap {K : PySem.W.Frag} {l0 : Addr} {F H : Hp} {σ : L2.St} {ρ : En} (S : Stt K l0 F H σ ρ) (i j : Nat) (s t : Sl) (a : Addr) (h1 : ρ[i]? = some s) (h2 : ρ[j]? = some t) (o1 : s.isOwn = true) (o2 : t.isOwn = true) (e1 : σ[i]? = some (some (.ref a))) (e2 : σ[j]? = some (some (.ref a))) : i = j := S.ap2 i j s t a h1 h2 ⟨o1, .inl e1⟩ ⟨o2, .inl e2⟩
theorem Stt.go {K : PySem.W.Frag} {l0 : Addr} {F H F' H' : Hp} {σ : L2.St} {ρ : En} (S : Stt K l0 F H σ ρ) (g : Go l0 F H F' H') : Stt K l0 F' H' σ ρ :=
  ⟨g.bs, S.len, fun i s h => (S.sl i s h).imp id fun ⟨v, h1, h2⟩ => ⟨v, h1, h2.go g⟩, S.ap2⟩
def Ow (σ : L2.St) (ρ : En) (a : Addr) : Prop := ∃ (i : Nat) (s : Sl), ρ[i]? = some s ∧ s.owns σ[i]? a
structure GoS (l0 : Addr) (F H : Hp) (σ : L2.St) (ρ : En) (F' H' : Hp) : Prop where
  bs : Base l0 F' H'
  ex : Same F F'
  new : ∀ a, F a = none → F' a ≠ none → H a = none ∨ Ow σ ρ a
  keep : ∀ a o, a ≠ l0 → ¬ Ow σ ρ a → H a = some o → H' a = some o
def OwS (H : Hp) (σ : L2.St) (ρ : En) (σ' : L2.St) (ρ' : En) : Prop := ∀ a, Ow σ' ρ' a → Ow σ ρ a ∨ H a = none
theorem GoS.of {l0 : Addr} {F H F' H' : Hp} {σ : L2.St} {ρ : En} (g : Go l0 F H F' H') : GoS l0 F H σ ρ F' H' := ⟨g.bs, g.ex, fun a h1 h2 => .inl (g.new a h1 h2), fun a o h _ e => g.keep a o h e⟩
theorem OwS.refl {H : Hp} {σ : L2.St} {ρ : En} : OwS H σ ρ σ ρ := fun _ h => .inl h
theorem GoS.back {l0 : Addr} {F H F1 H1 : Hp} {σ : L2.St} {ρ : En} (g : GoS l0 F H σ ρ F1 H1) (b : Base l0 F H) {a : Addr} (h : H1 a = none) : H a = none ∨ Ow σ ρ a := by
  cases e : H a with
  | none => exact .inl rfl
  | some o =>
    by_cases w : a = l0
    · subst w
      exact absurd h g.bs.live
    · by_cases q : Ow σ ρ a
      · exact .inr q
      · rw [g.keep a o w q e] at h
        cases h
theorem GoS.trans {l0 : Addr} {F H F1 H1 F2 H2 : Hp} {σ σ1 : L2.St} {ρ ρ1 : En} (b : Base l0 F H) (g : GoS l0 F H σ ρ F1 H1) (w : OwS H σ ρ σ1 ρ1) (k : GoS l0 F1 H1 σ1 ρ1 F2 H2) : GoS l0 F H σ ρ F2 H2 where
  bs := k.bs
  ex := fun a o h => k.ex a o (g.ex a o h)
  new := fun a h1 h2 => by
    by_cases q : F1 a = none
    · rcases k.new a q h2 with z | z
      · exact g.back b z
      · exact (w a z).symm
    · exact g.new a h1 q
  keep := fun a o n h e => by
    refine k.keep a o n (fun z => ?_) (g.keep a o n h e)
    rcases w a z with z | z
    · exact h z
    · rw [e] at z
      cases z
theorem OwS.trans {l0 : Addr} {F H F1 H1 : Hp} {σ σ1 σ2 : L2.St} {ρ ρ1 ρ2 : En} (b : Base l0 F H) (g : GoS l0 F H σ ρ F1 H1) (w : OwS H σ ρ σ1 ρ1) (k : OwS H1 σ1 ρ1 σ2 ρ2) : OwS H σ ρ σ2 ρ2 := fun a h => by
  rcases k a h with z | z
  · exact w a z
  · exact (g.back b z).symm

structure Xn where
  cls : Addr
  fs : List (Str × Dt)
def XDen (K : PySem.W.Frag) (l0 : Addr) (F H : Hp) (cls : Value) (d : Option Addr) (x : Xn) : Prop :=
  cls = .ref x.cls ∧ ((d = none ∧ x.fs = []) ∨ ∃ dd gs, d = some dd ∧ F dd = some (.xd gs) ∧ DenF K l0 F gs x.fs)

abbrev DE := En → (Sl → Prop) → (Xn → Prop) → Prop
abbrev DA := En → (List Sl → Prop) → (Xn → Prop) → Prop
abbrev DTt := En → (Bool → Prop) → (Xn → Prop) → Prop
structure DEnds where
  nx : En → Prop
  rt : Dt → Prop
  bk : En → Prop := fun _ => False
  ct : En → Prop := fun _ => False
  ex : Xn → En → Prop := fun _ _ => False
  rs : Dt → En → Prop := fun _ _ => False
abbrev DS := DEnds → En → Prop
abbrev DG := Sl → En → (En → Prop) → Prop
abbrev D2 := Sl → Sl → (Sl → Prop) → Prop
abbrev D1 := Sl → (Sl → Prop) → Prop
abbrev DCl := List Sl → (Sl → Prop) → Prop

def KV1 (K : PySem.W.Frag) (l0 : Addr) (F H : Hp) (Q : Sl → Prop) (Qc : VK) : Prop := ∀ v s F' H', Go l0 F H F' H' → SlV K l0 F' H' v s → Q s → Qc v H'
def KX (K : PySem.W.Frag) (W : WX) (l0 : Addr) (F H : Hp) (σ : L2.St) (E : Xn → Prop) : Prop := ∀ cls d x F' H', Go l0 F H F' H' → XDen K l0 F' H' cls d x → E x → W cls d σ H'
def SndE (K : PySem.W.Frag) (W : WX) (te : TE) (de : DE) : Prop := ∀ ρ Q E, de ρ Q E → ∀ l0 F H σ, Stt K l0 F H σ ρ → ∀ Qc : VK, KV1 K l0 F H Q Qc → KX K W l0 F H σ E → te σ H Qc
def SndT (K : PySem.W.Frag) (W : WX) (tt : TT) (dt : DTt) : Prop := ∀ ρ Q E, dt ρ Q E → ∀ l0 F H σ, Stt K l0 F H σ ρ → ∀ Qc : Bool → Hp → Prop, (∀ b F' H', Go l0 F H F' H' → Q b → Qc b H') → KX K W l0 F H σ E → tt σ H Qc
def SndA (K : PySem.W.Frag) (W : WX) (ta : TA) (da : DA) : Prop := ∀ ρ Q E, da ρ Q E → ∀ l0 F H σ, Stt K l0 F H σ ρ → ∀ Qc : List V → Hp → Prop,
  (∀ vs ss F' H', Go l0 F H F' H' → Paired (SlV K l0 F' H') vs ss → Q ss → Qc vs H') → KX K W l0 F H σ E → ta σ H Qc
structure Lnk (K : PySem.W.Frag) (W : WX) (l0 : Addr) (F H : Hp) (σ : L2.St) (ρ : En) (D : DEnds) (C : Ends) : Prop where
  nx : ∀ F' H' σ' ρ', GoS l0 F H σ ρ F' H' → OwS H σ ρ σ' ρ' → Stt K l0 F' H' σ' ρ' → D.nx ρ' → C.nx σ' H'
  rt : ∀ F' H' v d, GoS l0 F H σ ρ F' H' → Den K l0 F' v d → D.rt d → C.rt v H'
  bk : ∀ F' H' σ' ρ', GoS l0 F H σ ρ F' H' → OwS H σ ρ σ' ρ' → Stt K l0 F' H' σ' ρ' → D.bk ρ' → C.bk σ' H'
  ct : ∀ F' H' σ' ρ', GoS l0 F H σ ρ F' H' → OwS H σ ρ σ' ρ' → Stt K l0 F' H' σ' ρ' → D.ct ρ' → C.ct σ' H'
  ex : ∀ cls d x F' H' σ' ρ', GoS l0 F H σ ρ F' H' → OwS H σ ρ σ' ρ' → Stt K l0 F' H' σ' ρ' → XDen K l0 F' H' cls d x → D.ex x ρ' → W cls d σ' H'
  rs : ∀ F' H' σ' ρ' v d, GoS l0 F H σ ρ F' H' → OwS H σ ρ σ' ρ' → Stt K l0 F' H' σ' ρ' → Den K l0 F' v d → D.rs d ρ' → C.rt v H'
theorem Lnk.trans {K : PySem.W.Frag} {W : WX} {l0 : Addr} {F H F1 H1 : Hp} {σ σ1 : L2.St} {ρ ρ1 : En} {D : DEnds} {C : Ends} (L : Lnk K W l0 F H σ ρ D C) (b : Base l0 F H) (g : GoS l0 F H σ ρ F1 H1) (w : OwS H σ ρ σ1 ρ1) : Lnk K W l0 F1 H1 σ1 ρ1 D C where
  nx := fun F' H' σ' ρ' g' w' S q => L.nx F' H' σ' ρ' (g.trans b w g') (OwS.trans b g w w') S q
  rt := fun F' H' v d g' r q => L.rt F' H' v d (g.trans b w g') r q
  bk := fun F' H' σ' ρ' g' w' S q => L.bk F' H' σ' ρ' (g.trans b w g') (OwS.trans b g w w') S q
  ct := fun F' H' σ' ρ' g' w' S q => L.ct F' H' σ' ρ' (g.trans b w g') (OwS.trans b g w w') S q
  ex := fun cls d x F' H' σ' ρ' g' w' S r q => L.ex cls d x F' H' σ' ρ' (g.trans b w g') (OwS.trans b g w w') S r q
  rs := fun F' H' σ' ρ' v d g' w' S r q => L.rs F' H' σ' ρ' v d (g.trans b w g') (OwS.trans b g w w') S r q
theorem Lnk.kx {K : PySem.W.Frag} {W : WX} {l0 : Addr} {F H : Hp} {σ : L2.St} {ρ : En} {D : DEnds} {C : Ends} (L : Lnk K W l0 F H σ ρ D C) (S : Stt K l0 F H σ ρ) : KX K W l0 F H σ (fun x => D.ex x ρ) :=
  fun cls d x F' H' g r q => L.ex cls d x F' H' σ ρ (.of g) .refl (S.go g) r q
def SndS (K : PySem.W.Frag) (W : WX) (ts : TS) (ds : DS) : Prop := ∀ D ρ, ds D ρ → ∀ l0 F H σ, Stt K l0 F H σ ρ → ∀ C, Lnk K W l0 F H σ ρ D C → ts C σ H
def SndG (K : PySem.W.Frag) (ts : List Nat) (g : TG) (dg : DG) : Prop := ∀ s ρ R, dg s ρ R → ∀ l0 F H σ v, Stt K l0 F H σ ρ → SlV K l0 F H v s → ∀ Rc : L2.St → Hp → Prop,
  (∀ F' H' σ' ρ', Go l0 F H F' H' → OwS H σ ρ σ' ρ' → Stt K l0 F' H' σ' ρ' → (∀ vs : List Nat, (∀ j ∈ ts, j ∈ vs) → wipe σ' vs = wipe σ vs) → R ρ' → Rc σ' H') → g v σ H Rc
def SndR (K : PySem.W.Frag) (r : R2) (rd : D2) : Prop := ∀ x y s t Q, rd s t Q → ∀ l0 F H, Base l0 F H → SlV K l0 F H x s → SlV K l0 F H y t → ∀ Qc : VK, KV1 K l0 F H Q Qc → r x y H Qc
def SndU (K : PySem.W.Frag) (r : V → Hp → VK → Prop) (rd : D1) : Prop := ∀ x s Q, rd s Q → ∀ l0 F H, Base l0 F H → SlV K l0 F H x s → ∀ Qc : VK, KV1 K l0 F H Q Qc → r x H Qc
def SndC (K : PySem.W.Frag) (r : List V → Hp → VK → Prop) (rd : DCl) : Prop := ∀ vs ss Q, rd ss Q → ∀ l0 F H, Base l0 F H → Paired (SlV K l0 F H) vs ss → ∀ Qc : VK, KV1 K l0 F H Q Qc → r vs H Qc

def DEX (X : Cx) (W : WX) (e : Expr) (te : TE) (de : DE) : Prop := PE X e te ∧ SndE X.K W te de
def DTX (X : Cx) (W : WX) (e : Expr) (tt : TT) (dt : DTt) : Prop := PT X e tt ∧ SndT X.K W tt dt
def DWX (X : Cx) (W : WX) (e : Expr) (tt : TT) (dt : DTt) : Prop := PW X e tt ∧ SndT X.K W tt dt
def DAX (X : Cx) (W : WX) (es : List Expr) (ta : TA) (da : DA) : Prop := PA X es ta ∧ SndA X.K W ta da
def DSX (X : Cx) (W : WX) (st : Stmt) (ts : TS) (ds : DS) : Prop := PS X st ts ∧ SndS X.K W ts ds
def DSSX (X : Cx) (W : WX) (st : List Stmt) (ts : TS) (ds : DS) : Prop := PSs X st ts ∧ SndS X.K W ts ds
def DGX (X : Cx) (tg : Expr) (ts : List Nat) (g : TG) (dg : DG) : Prop := PG X tg g ∧ SndG X.K ts g dg
end DW

set_option Elab.async false
set_option linter.all false
set_option maxRecDepth 100000
namespace DW
open PySem L2
def useS : Sl → (Sl → Prop) → Prop
  | .emp, _ => False
  | s, Q => Q s
def dVar (i : Nat) : DE := fun ρ Q _ => useS (ρ.getD i .emp) Q
def dC (x : V) : DE := fun _ Q _ => Q (.dat (.v x))
def dOp (rd : D2) (da db : DE) : DE := fun ρ Q E => da ρ (fun x => db ρ (fun y => rd x y Q) E) E
def dUn (rd : D1) (da : DE) : DE := fun ρ Q E => da ρ (fun x => rd x Q) E
def blS : Sl → (Bool → Prop) → Prop
  | .dat (.v (.bl b)), Q => Q b
  | _, _ => False
def dTest (de : DE) : DTt := fun ρ Q E => de ρ (fun s => blS s Q) E
def dChain (r r' : D2) (da db dc : DE) : DE := fun ρ Q E => da ρ (fun x => db ρ (fun y => r x y fun z => blS z fun b => if b = true then dc ρ (fun w => r' y w Q) E else Q (.dat (.v (.bl false)))) E) E
def dAnd (a b : DTt) : DTt := fun ρ Q E => a ρ (fun c => if c = true then b ρ Q E else Q false) E
def dOr (a b : DTt) : DTt := fun ρ Q E => a ρ (fun c => if c = true then Q true else b ρ Q E) E
def dNot (a : DTt) : DTt := fun ρ Q E => a ρ (fun c => Q (!c)) E
def dAndV (a b : DE) : DE := fun ρ Q E => a ρ (fun s => blS s fun c => if c = true then b ρ Q E else Q (.dat (.v (.bl false)))) E
def dOrV (a b : DE) : DE := fun ρ Q E => a ρ (fun s => blS s fun c => if c = true then Q (.dat (.v (.bl true))) else b ρ Q E) E
def dNil : DA := fun _ Q _ => Q []
def dCons (a : DE) (r : DA) : DA := fun ρ Q E => a ρ (fun x => r ρ (fun xs => Q (x :: xs)) E) E
def plain : List Sl → (List Dt → Prop) → Prop
  | [], Q => Q []
  | .dat d :: r, Q => plain r fun ds => Q (d :: ds)
  | _ :: _, _ => False
def dTup (a : DA) : DE := fun ρ Q E => a ρ (fun ss => ss.length ≤ 100000 ∧ plain ss fun ds => Q (.dat (.tup ds))) E
def dLst (a : DA) : DE := fun ρ Q E => a ρ (fun ss => ss.length ≤ 100000 ∧ plain ss fun ds => Q (.dat (.lst ds))) E
def dCB (r : DCl) (a : DA) : DE := fun ρ Q E => a ρ (fun ss => r ss Q) E
def truS : Sl → (Bool → Prop) → Prop
  | .dat (.v .non), Q => Q false
  | .dat (.v (.bl b)), Q => Q b
  | .dat (.v (.int i)), Q => Q (i != 0)
  | .dat (.v (.str x)), Q => x.length ≤ 100000 ∧ Q ((x.length : Int) != 0)
  | .dat (.lst ds), Q => Q (!ds.isEmpty)
  | .dat (.tup ds), Q => Q (!ds.isEmpty)
  | .own ds, Q => Q (!ds.isEmpty)
  | _, _ => False
def dTru (a : DE) : DTt := fun ρ Q E => a ρ (fun s => truS s Q) E
def d2I (C : Int → Int → Prop) (g : Int → Int → V) : D2
  | .dat (.v (.int i)), .dat (.v (.int j)), Q => C i j ∧ Q (.dat (.v (g i j)))
  | _, _, _ => False
def d2I0 (g : Int → Int → V) : D2
  | .dat (.v (.int i)), .dat (.v (.int j)), Q => Q (.dat (.v (g i j)))
  | _, _, _ => False
def d1I (g : Int → V) : D1
  | .dat (.v (.int i)), Q => Q (.dat (.v (g i)))
  | _, _ => False
def dSub : D2 := d2I0 fun i j => .int (i - j)
def dMul : D2 := d2I (fun i j => (-(2 ^ 64) < i ∧ i < 2 ^ 64) ∨ (-(2 ^ 64) < j ∧ j < 2 ^ 64) ∨ (i.natAbs < 2 ^ 250 ∧ j.natAbs < 2 ^ 250)) fun i j => .int (i * j)
def dFdiv : D2 := d2I (fun _ j => 0 < j ∧ j < 2 ^ 250) fun i j => .int (i / j)
def dMod : D2 := d2I (fun _ j => 0 < j) fun i j => .int (i % j)
def dPow : D2 := d2I CPow fun i j => .int (i ^ j.toNat)
def dLt : D2 := d2I0 fun i j => .bl (decide (i < j))
def dLe : D2 := d2I0 fun i j => .bl (decide (i ≤ j))
def dGt : D2 := d2I0 fun i j => .bl (decide (j < i))
def dNeg : D1 := d1I fun i => .int (-i)
def dIx : D2
  | .dat (.lst ds), .dat (.v (.int i)), Q => ∃ d, atI ds i = some d ∧ Q (.dat d)
  | .dat (.tup ds), .dat (.v (.int i)), Q => ∃ d, atI ds i = some d ∧ Q (.dat d)
  | .own ds, .dat (.v (.int i)), Q => ∃ d, atI ds i = some d ∧ Q (.dat d)
  | .dat (.brw ds), .dat (.v (.int i)), Q => ∃ d, atI ds i = some d ∧ Q (.dat d)
  | _, _, _ => False
def dAbs : DCl
  | [.dat (.v (.int i))], Q => Q (.dat (.v (.int (if i < 0 then -i else i))))
  | _, _ => False
def dMax2 : DCl
  | [.dat (.v (.int i)), .dat (.v (.int j))], Q => Q (.dat (.v (.int (if j > i then j else i))))
  | _, _ => False
def dMin2 : DCl
  | [.dat (.v (.int i)), .dat (.v (.int j))], Q => Q (.dat (.v (.int (if j < i then j else i))))
  | _, _ => False
def dLen : DCl
  | [.dat (.lst ds)], Q => Q (.dat (.v (.int ds.length)))
  | [.dat (.tup ds)], Q => Q (.dat (.v (.int ds.length)))
  | [.own ds], Q => Q (.dat (.v (.int ds.length)))
  | [.dat (.v (.str x))], Q => x.length ≤ 100000 ∧ Q (.dat (.v (.int x.length)))
  | [.dat (.brw ds)], Q => Q (.dat (.v (.int ds.length)))
  | _, _ => False
def dInt1 : DCl
  | [.dat (.v (.int i))], Q => Q (.dat (.v (.int i)))
  | [.dat (.v (.bl b))], Q => Q (.dat (.v (.int (if b then 1 else 0))))
  | _, _ => False
section
variable {K : PySem.W.Frag} {W : WX} {l0 : Addr} {F H F' H' : Hp} {σ : L2.St} {ρ : En} {v : V} {s : Sl}
theorem KX.go {E : Xn → Prop} (k : KX K W l0 F H σ E) (g : Go l0 F H F' H') : KX K W l0 F' H' σ E := fun cls d x F2 H2 g2 r q => k cls d x F2 H2 (g.trans g2) r q
theorem KV1.go {Q : Sl → Prop} {Qc : VK} (k : KV1 K l0 F H Q Qc) (g : Go l0 F H F' H') : KV1 K l0 F' H' Q Qc := fun v s F2 H2 g2 r q => k v s F2 H2 (g.trans g2) r q
theorem KV1.here {Q : Sl → Prop} {Qc : VK} (k : KV1 K l0 F H Q Qc) (b : Base l0 F H) {x : V} (q : Q (.dat (.v x))) : Qc x H := k x (.dat (.v x)) F H (.refl b) (.v x) q
theorem KV1.dat {Q : Sl → Prop} {Qc : VK} (k : KV1 K l0 F H Q Qc) (b : Base l0 F H) {x : V} {d : Dt} (r : Den K l0 F x d) (q : Q (.dat d)) : Qc x H := k x (.dat d) F H (.refl b) r q
theorem SlV.int {i : Int} (h : SlV K l0 F H v (.dat (.v (.int i)))) : v = .int i := by cases h; rfl
theorem SlV.val {x : V} (h : SlV K l0 F H v (.dat (.v x))) : v = x := by cases h; rfl
theorem SlV.lst {ds : List Dt} (h : SlV K l0 F H v (.dat (.lst ds))) : ∃ a xs, v = .ref a ∧ SqL K F a xs ∧ Dens K l0 F xs ds := by
  cases h with
  | lst h r => exact ⟨_, _, rfl, h.sq, r⟩
theorem SlV.tup {ds : List Dt} (h : SlV K l0 F H v (.dat (.tup ds))) : ∃ a xs, v = .ref a ∧ SqT K F a xs ∧ Dens K l0 F xs ds := by
  cases h with
  | tup h r => exact ⟨_, _, rfl, h, r⟩
theorem SlV.brw {ds : List Dt} (h : SlV K l0 F H v (.dat (.brw ds))) : ∃ a xs, v = .ref a ∧ SqL K F a xs ∧ Dens K l0 F xs ds := by
  cases h with
  | brw h r => exact ⟨_, _, rfl, .inl (.inr ⟨_, h⟩), r⟩
def IsL (s : Sl) (ds : List Dt) : Prop := s = .dat (.lst ds) ∨ s = .own ds
theorem SlV.list {ds : List Dt} (b : Base l0 F H) (h : SlV K l0 F H v s) (e : IsL s ds) : ∃ a xs, v = .ref a ∧ SqL K H a xs ∧ Dens K l0 F xs ds := by
  rcases e with e | e
  · subst e
    obtain ⟨a, xs, e, h1, h2⟩ := h.lst
    exact ⟨a, xs, e, b.sub.seq h1, h2⟩
  · subst e
    obtain ⟨l, xs, e, _, _, h1, h2⟩ := h
    exact ⟨l, xs, e, SqL.of h1, h2⟩
theorem SlV.tuple {ds : List Dt} (b : Base l0 F H) (h : SlV K l0 F H v (.dat (.tup ds))) : ∃ a xs, v = .ref a ∧ SqT K H a xs ∧ Dens K l0 F xs ds := by
  obtain ⟨a, xs, e, h1, h2⟩ := h.tup
  exact ⟨a, xs, e, sameT b.sub h1, h2⟩
theorem Stt.use {i : Nat} {Q : Sl → Prop} (S : Stt K l0 F H σ ρ) (h : useS (ρ.getD i .emp) Q) : ∃ s v, ρ[i]? = some s ∧ σ[i]? = some (some v) ∧ SlV K l0 F H v s ∧ Q s := by
  cases e : ρ[i]? with
  | none =>
    rw [List.getD_eq_getElem?_getD, e] at h
    exact h.elim
  | some s =>
    rw [List.getD_eq_getElem?_getD, e] at h
    have h : useS s Q := h
    rcases S.sl i s e with q | ⟨v, h1, h2⟩
    · subst q
      exact h.elim
    · refine ⟨s, v, rfl, h1, h2, ?_⟩
      cases s with
      | emp => exact h.elim
      | _ => exact h
theorem blS_of {Q : Bool → Prop} (h : blS s Q) : ∃ b, s = .dat (.v (.bl b)) ∧ Q b := by
  unfold blS at h
  split at h
  · exact ⟨_, rfl, h⟩
  · exact h.elim
theorem d2I_of {C : Int → Int → Prop} {g : Int → Int → V} {x y : Sl} {Q : Sl → Prop} (h : d2I C g x y Q) : ∃ i j, x = .dat (.v (.int i)) ∧ y = .dat (.v (.int j)) ∧ C i j ∧ Q (.dat (.v (g i j))) := by
  unfold d2I at h
  split at h
  · exact ⟨_, _, rfl, rfl, h⟩
  · exact h.elim
theorem d2I0_of {g : Int → Int → V} {x y : Sl} {Q : Sl → Prop} (h : d2I0 g x y Q) : ∃ i j, x = .dat (.v (.int i)) ∧ y = .dat (.v (.int j)) ∧ Q (.dat (.v (g i j))) := by
  unfold d2I0 at h
  split at h
  · exact ⟨_, _, rfl, rfl, h⟩
  · exact h.elim
theorem d1I_of {g : Int → V} {x : Sl} {Q : Sl → Prop} (h : d1I g x Q) : ∃ i, x = .dat (.v (.int i)) ∧ Q (.dat (.v (g i))) := by
  unfold d1I at h
  split at h
  · exact ⟨_, rfl, h⟩
  · exact h.elim
theorem plain_of : ∀ {ss : List Sl} {Q : List Dt → Prop}, plain ss Q → ∃ ds, ss = ds.map Sl.dat ∧ Q ds
  | [], _, h => ⟨[], rfl, h⟩
  | .dat d :: r, _, h => by
    obtain ⟨ds, e, q⟩ := plain_of (ss := r) h
    exact ⟨d :: ds, by rw [e]; rfl, q⟩
  | .emp :: _, _, h => h.elim
  | .own _ :: _, _, h => h.elim
  | .oob _ _ _ :: _, _, h => h.elim
  | .odc _ :: _, _, h => h.elim
theorem dens_of : ∀ {vs : List V} {ds : List Dt}, Paired (SlV K l0 F H) vs (ds.map Sl.dat) → Dens K l0 F vs ds
  | [], [], .nil => .nil
  | _ :: _, _ :: _, .cons h t => .cons h (dens_of t)
theorem of_dens : ∀ {vs : List V} {ds : List Dt}, Dens K l0 F vs ds → Paired (SlV K l0 F H) vs (ds.map Sl.dat)
  | [], [], .nil => .nil
  | _ :: _, _ :: _, .cons h t => .cons h (of_dens t)
theorem pairs_len : ∀ {vs : List V} {ss : List Sl}, Paired (SlV K l0 F H) vs ss → vs.length = ss.length
  | [], [], .nil => rfl
  | _ :: _, _ :: _, .cons _ t => congrArg (· + 1) (pairs_len t)
theorem truS_of {Q : Bool → Prop} (b : Base l0 F H) (h : truS s Q) (r : SlV K l0 F H v s) : ∃ k, TruV K v H k ∧ Q k := by
  unfold truS at h
  split at h
  · cases r; exact ⟨_, rfl, h⟩
  · cases r; exact ⟨_, rfl, h⟩
  · cases r; exact ⟨_, rfl, h⟩
  · cases r; exact ⟨_, ⟨Evl.sz_of h.1, rfl⟩, h.2⟩
  · obtain ⟨a, xs, e, h1, h2⟩ := r.list b (.inl rfl)
    subst e
    refine ⟨_, .inl ⟨xs, h1, rfl⟩, ?_⟩
    cases h2 <;> exact h
  · obtain ⟨a, xs, e, h1, h2⟩ := r.tuple b
    subst e
    refine ⟨_, .inr (.inl ⟨xs, h1, rfl⟩), ?_⟩
    cases h2 <;> exact h
  · obtain ⟨a, xs, e, h1, h2⟩ := r.list b (.inr rfl)
    subst e
    refine ⟨_, .inl ⟨xs, h1, rfl⟩, ?_⟩
    cases h2 <;> exact h
  · exact h.elim
end

section
variable {X : Cx} {W : WX} {a b c e : Expr} {xa xb xc xe : TE} {ya yb : TT} {da db dc de : DE} {pos : Pos} {ta tb : DTt}
theorem de_var (i : Nat) {x : Str} {pos : Pos} (hN : X.N[i]? = some x := by rfl) (hv : Vis X.env.scope x := by first | exact Or.inl rfl | exact Or.inr (Or.inl rfl) | exact Or.inr (Or.inr rfl)) (hd : (x == ("__debug__" : Str)) = false := by decide)
    (hcd : (x == ("__classdict__" : Str)) = false := by decide) : DEX X W (.Name x pos) (tVar i) (dVar i) :=
  ⟨pe_var hN hv hd hcd, fun ρ Q E h l0 F H σ S Qc k _ => by
    obtain ⟨s, v, _, h1, h2, q⟩ := S.use h
    exact ⟨v, h1, k v s F H (.refl S.bs) h2 q⟩⟩
theorem de_pe {v : V} (h : PE X e (tC v)) : DEX X W e (tC v) (dC v) := ⟨h, fun ρ Q E h l0 F H σ S Qc k _ => k.here S.bs h⟩
theorem de_int {i j pos} : DEX X W (.Constant (.int i) j pos) (tC (.int i)) (dC (.int i)) := de_pe pe_int
theorem de_bl {b j pos} : DEX X W (.Constant (.bool b) j pos) (tC (.bl b)) (dC (.bl b)) := de_pe pe_bl
theorem de_non {j pos} : DEX X W (.Constant .none j pos) (tC .non) (dC .non) := de_pe pe_non
theorem de_str {x j pos} : DEX X W (.Constant (.str x) j pos) (tC (.str x)) (dC (.str x)) := de_pe pe_str
theorem de_glob {x : Str} {v : V} {u : Value} (hg : Gl X x) (hm : X.mg x = some u) (r : RelV v u) (hd : (x == ("__debug__" : Str)) = false := by decide) : DEX X W (.Name x pos) (tC v) (dC v) := de_pe (pe_glob hg hm r hd)
theorem de_op {op : Operator} {r : R2} {rd : D2} (ho : OpR X (binaryOp op) r) (hs : SndR X.K r rd) (ha : DEX X W a xa da) (hb : DEX X W b xb db) : DEX X W (.BinOp a op b pos) (tOp r xa xb) (dOp rd da db) := by
  obtain ⟨pa, sa⟩ := ha
  obtain ⟨pb, sb⟩ := hb
  refine ⟨pe_op ho pa pb, fun ρ Q E h l0 F H σ S Qc k kx => ?_⟩
  refine sa ρ _ E h l0 F H σ S _ (fun x s F1 H1 g1 r1 q1 => ?_) kx
  refine sb ρ _ E q1 l0 F1 H1 σ (S.go g1) _ (fun y t F2 H2 g2 r2 q2 => ?_) (kx.go g1)
  exact hs x y s t Q q2 l0 F2 H2 g2.bs (r1.go g2) r2 Qc (k.go (g1.trans g2))
theorem snd_op {r : R2} {rd : D2} {ta tb : TE} (hs : SndR X.K r rd) (sa : SndE X.K W ta da) (sb : SndE X.K W tb db) : SndE X.K W (tOp r ta tb) (dOp rd da db) := fun ρ Q E h l0 F H σ S Qc k kx => by
  refine sa ρ _ E h l0 F H σ S _ (fun x s F1 H1 g1 r1 q1 => ?_) kx
  refine sb ρ _ E q1 l0 F1 H1 σ (S.go g1) _ (fun y t F2 H2 g2 r2 q2 => ?_) (kx.go g1)
  exact hs x y s t Q q2 l0 F2 H2 g2.bs (r1.go g2) r2 Qc (k.go (g1.trans g2))
theorem de_cmp {op : CmpOp} {r : R2} {rd : D2} (ho : OpR X (compareOp op) r) (hs : SndR X.K r rd) (ha : DEX X W a xa da) (hb : DEX X W b xb db) (hm : behindInMarks op b = false) : DEX X W (.Compare a [op] [b] pos) (tOp r xa xb) (dOp rd da db) := by
  obtain ⟨pa, sa⟩ := ha
  obtain ⟨pb, sb⟩ := hb
  exact ⟨pe_cmpR ho pa pb hm, snd_op hs sa sb⟩
theorem de_ix {r : R2} {rd : D2} (ho : IxR X r) (hs : SndR X.K r rd) (ha : DEX X W a xa da) (hb : DEX X W b xb db) (hp : PlainIx b) : DEX X W (.Subscript a b pos) (tOp r xa xb) (dOp rd da db) := by
  obtain ⟨pa, sa⟩ := ha
  obtain ⟨pb, sb⟩ := hb
  exact ⟨pe_ix ho pa pb hp, snd_op hs sa sb⟩
theorem de_un {op : UnaryOp} {r : V → Hp → VK → Prop} {rd : D1} (ho : UnR X (unaryOp op) r) (hs : SndU X.K r rd) (ha : DEX X W a xa da) : DEX X W (.UnaryOp op a pos) (tUn r xa) (dUn rd da) := by
  obtain ⟨pa, sa⟩ := ha
  refine ⟨pe_un ho pa, fun ρ Q E h l0 F H σ S Qc k kx => ?_⟩
  refine sa ρ _ E h l0 F H σ S _ (fun x s F1 H1 g1 r1 q1 => ?_) kx
  exact hs x s Q q1 l0 F1 H1 g1.bs r1 Qc (k.go g1)
theorem snd_test {te : TE} (sa : SndE X.K W te de) : SndT X.K W (tTest te) (dTest de) := fun ρ Q E h l0 F H σ S Qc k kx => by
  refine sa ρ _ E h l0 F H σ S _ (fun x s F1 H1 g1 r1 q1 => ?_) kx
  obtain ⟨b, e, q⟩ := blS_of q1
  subst e
  cases r1
  exact ⟨b, rfl, k b F1 H1 g1 q⟩
theorem dt_cmp {op : CmpOp} {r : R2} {rd : D2} (ho : OpR X (compareOp op) r) (hs : SndR X.K r rd) (ha : DEX X W a xa da) (hb : DEX X W b xb db) (hm : behindInMarks op b = false) : DTX X W (.Compare a [op] [b] pos) (tTest (tOp r xa xb)) (dTest (dOp rd da db)) := by
  obtain ⟨pa, sa⟩ := ha
  obtain ⟨pb, sb⟩ := hb
  exact ⟨pt_cmpR ho pa pb hm, snd_test (snd_op hs sa sb)⟩
theorem snd_chain {r r' : R2} {rd rd' : D2} {ta tb tc : TE} (hs : SndR X.K r rd) (hs' : SndR X.K r' rd') (sa : SndE X.K W ta da) (sb : SndE X.K W tb db) (sc : SndE X.K W tc dc) : SndE X.K W (tChain r r' ta tb tc) (dChain rd rd' da db dc) := fun ρ Q E h l0 F H σ S Qc k kx => by
  refine sa ρ _ E h l0 F H σ S _ (fun x s F1 H1 g1 r1 q1 => ?_) kx
  refine sb ρ _ E q1 l0 F1 H1 σ (S.go g1) _ (fun y t F2 H2 g2 r2 q2 => ?_) (kx.go g1)
  refine hs x y s t _ q2 l0 F2 H2 g2.bs (r1.go g2) r2 _ fun z u F3 H3 g3 r3 q3 => ?_
  obtain ⟨b, e, q⟩ := blS_of q3
  subst e
  cases r3
  refine ⟨b, rfl, ?_⟩
  have g : Go l0 F H F3 H3 := (g1.trans g2).trans g3
  cases b with
  | true =>
    rw [if_pos rfl] at q ⊢
    refine sc ρ _ E q l0 F3 H3 σ (S.go g) _ (fun w' u F4 H4 g4 r4 q4 => ?_) (kx.go g)
    exact hs' y w' t u Q q4 l0 F4 H4 g4.bs ((r2.go g3).go g4) r4 Qc (k.go (g.trans g4))
  | false =>
    rw [if_neg Bool.false_ne_true] at q ⊢
    exact (k.go g).here g.bs q
theorem dt_chain {op op' : CmpOp} {r r' : R2} {rd rd' : D2} (ho : OpR X (compareOp op) r) (ho' : OpR X (compareOp op') r') (hs : SndR X.K r rd) (hs' : SndR X.K r' rd') (ha : DEX X W a xa da) (hb : DEX X W b xb db) (hc : DEX X W c xc dc)
    (hm : lastMarks [op, op'] [b, c] = false := by with_unfolding_all rfl) : DTX X W (.Compare a [op, op'] [b, c] pos) (tTest (tChain r r' xa xb xc)) (dTest (dChain rd rd' da db dc)) := by
  obtain ⟨pa, sa⟩ := ha
  obtain ⟨pb, sb⟩ := hb
  obtain ⟨pc, sc⟩ := hc
  exact ⟨pt_chain ho ho' pa pb pc hm, snd_test (snd_chain hs hs' sa sb sc)⟩
theorem dt_tru (ha : DEX X W a xa da) (he : ∀ whole, isTrue a X.env whole = (do let v ← whole; standAt a.pos; holding [v] (truthy v)) := by intro _; rfl) : DTX X W a (fun σ H Q => xa σ H fun x H' => ∃ k, TruV X.K x H' k ∧ Q k H') (dTru da) := by
  obtain ⟨pa, sa⟩ := ha
  refine ⟨pt_truth pa he, fun ρ Q E h l0 F H σ S Qc k kx => ?_⟩
  refine sa ρ _ E h l0 F H σ S _ (fun x s F1 H1 g1 r1 q1 => ?_) kx
  obtain ⟨b, t, q⟩ := truS_of g1.bs q1 r1
  exact ⟨b, t, k b F1 H1 g1 q⟩
theorem dt_w (h : DWX X W e ya ta) : DTX X W e ya ta := by
  obtain ⟨p, s⟩ := h
  exact ⟨p.pt, s⟩
theorem snd_and {t u : TT} (sa : SndT X.K W t ta) (sb : SndT X.K W u tb) : SndT X.K W (tAnd t u) (dAnd ta tb) := fun ρ Q E h l0 F H σ S Qc k kx => by
  refine sa ρ _ E h l0 F H σ S _ (fun c F1 H1 g1 q1 => ?_) kx
  cases c with
  | true =>
    rw [if_pos rfl] at q1 ⊢
    exact sb ρ Q E q1 l0 F1 H1 σ (S.go g1) Qc (fun b F2 H2 g2 q2 => k b F2 H2 (g1.trans g2) q2) (kx.go g1)
  | false =>
    rw [if_neg Bool.false_ne_true] at q1 ⊢
    exact k false F1 H1 g1 q1
theorem snd_or {t u : TT} (sa : SndT X.K W t ta) (sb : SndT X.K W u tb) : SndT X.K W (tOr t u) (dOr ta tb) := fun ρ Q E h l0 F H σ S Qc k kx => by
  refine sa ρ _ E h l0 F H σ S _ (fun c F1 H1 g1 q1 => ?_) kx
  cases c with
  | true =>
    rw [if_pos rfl] at q1 ⊢
    exact k true F1 H1 g1 q1
  | false =>
    rw [if_neg Bool.false_ne_true] at q1 ⊢
    exact sb ρ Q E q1 l0 F1 H1 σ (S.go g1) Qc (fun b F2 H2 g2 q2 => k b F2 H2 (g1.trans g2) q2) (kx.go g1)
theorem dt_not (h : DTX X W a ya ta) : DTX X W (.UnaryOp .Not a pos) (tNot ya) (dNot ta) := by
  obtain ⟨p, sa⟩ := h
  refine ⟨pt_not p, fun ρ Q E h l0 F H σ S Qc k kx => ?_⟩
  exact sa ρ _ E h l0 F H σ S _ (fun c F1 H1 g1 q1 => k (!c) F1 H1 g1 q1) kx
theorem da_nil : DAX X W [] tNil dNil := ⟨pa_nil, fun ρ Q E h l0 F H σ S Qc k _ => k [] [] F H (.refl S.bs) .nil h⟩
theorem da_cons {es : List Expr} {zr : TA} {dr : DA} (ha : DEX X W a xa da) (hr : DAX X W es zr dr) (hs : starEach (a :: es) X.env = (false, eval a X.env) :: starEach es X.env := by rfl) : DAX X W (a :: es) (tCons xa zr) (dCons da dr) := by
  obtain ⟨pa, sa⟩ := ha
  obtain ⟨pr, sr⟩ := hr
  refine ⟨pa_cons pa pr hs, fun ρ Q E h l0 F H σ S Qc k kx => ?_⟩
  refine sa ρ _ E h l0 F H σ S _ (fun x s F1 H1 g1 r1 q1 => ?_) kx
  refine sr ρ _ E q1 l0 F1 H1 σ (S.go g1) _ (fun xs ss F2 H2 g2 r2 q2 => ?_) (kx.go g1)
  exact k (x :: xs) (s :: ss) F2 H2 (g1.trans g2) (.cons (r1.go g2) r2) q2
theorem de_tup {es : List Expr} {zr : TA} {dr : DA} {x1} (h : DAX X W es zr dr) : DEX X W (.Tuple es x1 pos) (tTup zr) (dTup dr) := by
  obtain ⟨p, st⟩ := h
  refine ⟨pe_tup p, fun ρ Q E h l0 F H σ S Qc k kx => ?_⟩
  refine st ρ _ E h l0 F H σ S _ (fun xs ss F1 H1 g1 r1 q1 => ?_) kx
  obtain ⟨z, q1⟩ := q1
  obtain ⟨ds, e, q⟩ := plain_of q1
  subst e
  have r := dens_of r1
  refine ⟨by rw [pairs_len r1]; exact Evl.sz_of z, fun p hp => ?_⟩
  have g := Go.fresh (p := p) g1.bs (.tup xs) hp
  exact k (.ref p) (.dat (.tup ds)) _ _ (g1.trans g) (Den.tup (SqT.of upd_same) (Dens.mono g.ex r)) q
theorem de_lst {es : List Expr} {zr : TA} {dr : DA} (h : DAX X W es zr dr) : DEX X W (.List es pos) (tLst zr) (dLst dr) := by
  obtain ⟨p, st⟩ := h
  refine ⟨pe_lst p, fun ρ Q E h l0 F H σ S Qc k kx => ?_⟩
  refine st ρ _ E h l0 F H σ S _ (fun xs ss F1 H1 g1 r1 q1 => ?_) kx
  obtain ⟨z, q1⟩ := q1
  obtain ⟨ds, e, q⟩ := plain_of q1
  subst e
  have r := dens_of r1
  refine ⟨by rw [pairs_len r1]; exact Evl.sz_of z, fun p hp => ?_⟩
  have g := Go.fresh (p := p) g1.bs (.lst xs) hp
  exact k (.ref p) (.dat (.lst ds)) _ _ (g1.trans g) (Den.lst (.inl upd_same) (Dens.mono g.ex r)) q
theorem de_cb {id : String} {x : Str} {p : Pos} {es : List Expr} {zr : TA} {dr : DA} {r : List V → Hp → VK → Prop} {rd : DCl} (hc : CallR X (.builtin id) r) (hs : SndC X.K r rd) (hg : Gl X x) (hm : X.mg x = none) (hv : bootBuiltins x = some (.builtin id)) (ha : DAX X W (e :: es) zr dr) (hn : x ≠ "__name__" := by decide)
    (hdb : (x == ("__debug__" : Str)) = false := by decide) (he : starEach (e :: es) X.env = (false, eval e X.env) :: starEach es X.env := by rfl) (hpl : (backTo pos (starEach es X.env)).any (·.1) = false := by rfl) : DEX X W (.Call (.Name x p) (e :: es) [] pos) (tCB r zr) (dCB rd dr) := by
  obtain ⟨pa, st⟩ := ha
  refine ⟨pe_callB hc hg hm hv pa hn hdb he hpl, fun ρ Q E h l0 F H σ S Qc k kx => ?_⟩
  refine st ρ _ E h l0 F H σ S _ (fun xs ss F1 H1 g1 r1 q1 => ?_) kx
  exact hs xs ss Q q1 l0 F1 H1 g1.bs r1 Qc (k.go g1)
theorem de_ct {T : String} {x : Str} {p : Pos} {es : List Expr} {zr : TA} {dr : DA} {r : List V → Hp → VK → Prop} {rd : DCl} (hc : CallR X (.type T) r) (hs : SndC X.K r rd) (hg : Gl X x) (hm : X.mg x = none) (hv : bootBuiltins x = some (.type T)) (ha : DAX X W (e :: es) zr dr) (hn : x ≠ "__name__" := by decide)
    (hdb : (x == ("__debug__" : Str)) = false := by decide) (he : starEach (e :: es) X.env = (false, eval e X.env) :: starEach es X.env := by rfl) (hpl : (backTo pos (starEach es X.env)).any (·.1) = false := by rfl) : DEX X W (.Call (.Name x p) (e :: es) [] pos) (tCB r zr) (dCB rd dr) := by
  obtain ⟨pa, st⟩ := ha
  refine ⟨pe_callTy hc hg hm hv pa hn hdb he hpl, fun ρ Q E h l0 F H σ S Qc k kx => ?_⟩
  refine st ρ _ E h l0 F H σ S _ (fun xs ss F1 H1 g1 r1 q1 => ?_) kx
  exact hs xs ss Q q1 l0 F1 H1 g1.bs r1 Qc (k.go g1)
end

section
variable {K : PySem.W.Frag} {X : Cx}
theorem sr_I0 {g : Int → Int → V} : SndR K (rI0 g) (d2I0 g) := fun x y s t Q h l0 F H b r1 r2 Qc k => by
  obtain ⟨i, j, e1, e2, q⟩ := d2I0_of h
  subst e1 e2
  cases r1
  cases r2
  exact ⟨i, j, rfl, rfl, k.here b q⟩
theorem sr_I {C C' : Int → Int → Prop} {g : Int → Int → V} (hc : ∀ i j, C' i j → C i j) : SndR K (rI C g) (d2I C' g) := fun x y s t Q h l0 F H b r1 r2 Qc k => by
  obtain ⟨i, j, e1, e2, c, q⟩ := d2I_of h
  subst e1 e2
  cases r1
  cases r2
  exact ⟨i, j, rfl, rfl, hc i j c, k.here b q⟩
theorem su_I {g : Int → V} : SndU K (rU g) (d1I g) := fun x s Q h l0 F H b r1 Qc k => by
  obtain ⟨i, e1, q⟩ := d1I_of h
  subst e1
  cases r1
  exact ⟨i, rfl, k.here b q⟩
theorem OpR.or {f : Value → Value → Sem Value} {r r' : R2} (h : OpR X f r) (h' : OpR X f r') : OpR X f (fun x y H Q => r x y H Q ∨ r' x y H Q) := fun pins s σ H x y v u Q I rx ry q => by
  rcases q with q | q
  · exact h pins s σ H x y v u Q I rx ry q
  · exact h' pins s σ H x y v u Q I rx ry q
def CMulX (i j : Int) : Prop := CMul i j ∨ CMulW i j
theorem op_mulX : OpR X (binaryOp .Mult) (rI CMulX fun i j => .int (i * j)) := opI fun _ _ _ _ _ _ _ hc q => PyProof.Rows.mul_int q (hc.elim CMul.ok CMulW.ok)
theorem sr_mul : SndR K (rI CMulX fun i j => .int (i * j)) dMul := sr_I fun i j h => by
  rcases h with h | h | ⟨h1, h2⟩
  · exact .inl (.inl h)
  · exact .inl (.inr h)
  · exact .inr (wide_mul h1 h2 (by decide) (by decide) (by decide))
theorem sr_fdiv : SndR K (rI CDivW fun i j => .int (i / j)) dFdiv := sr_I fun i j h => wide_div (b := 250) h.1 (by
  obtain ⟨h1, h2⟩ := h
  have e : ((j.natAbs : Nat) : Int) < ((2 ^ 250 : Nat) : Int) := by
    rw [Int.natAbs_of_nonneg (Int.le_of_lt h1)]
    exact_mod_cast h2
  exact_mod_cast e) (by decide) (by decide)
theorem sr_mod : SndR K (rI (fun _ j => 0 < j) fun i j => .int (i % j)) dMod := sr_I fun _ _ h => h
theorem sr_pow : SndR K (rI CPow fun i j => .int (i ^ j.toNat)) dPow := sr_I fun _ _ h => h
theorem de_sub {W : WX} {a b : Expr} {xa xb : TE} {da db : DE} {pos : Pos} (ha : DEX X W a xa da) (hb : DEX X W b xb db) : DEX X W (.BinOp a .Sub b pos) (tOp (rI0 fun i j => .int (i - j)) xa xb) (dOp dSub da db) := de_op op_sub sr_I0 ha hb
theorem de_mul {W : WX} {a b : Expr} {xa xb : TE} {da db : DE} {pos : Pos} (ha : DEX X W a xa da) (hb : DEX X W b xb db) : DEX X W (.BinOp a .Mult b pos) (tOp (rI CMulX fun i j => .int (i * j)) xa xb) (dOp dMul da db) := de_op op_mulX sr_mul ha hb
theorem de_fdiv {W : WX} {a b : Expr} {xa xb : TE} {da db : DE} {pos : Pos} (ha : DEX X W a xa da) (hb : DEX X W b xb db) : DEX X W (.BinOp a .FloorDiv b pos) (tOp (rI CDivW fun i j => .int (i / j)) xa xb) (dOp dFdiv da db) := de_op op_fdivW sr_fdiv ha hb
theorem de_mod {W : WX} {a b : Expr} {xa xb : TE} {da db : DE} {pos : Pos} (ha : DEX X W a xa da) (hb : DEX X W b xb db) : DEX X W (.BinOp a .Mod b pos) (tOp (rI (fun _ j => 0 < j) fun i j => .int (i % j)) xa xb) (dOp dMod da db) := de_op op_mod sr_mod ha hb
theorem de_pow {W : WX} {a b : Expr} {xa xb : TE} {da db : DE} {pos : Pos} (ha : DEX X W a xa da) (hb : DEX X W b xb db) : DEX X W (.BinOp a .Pow b pos) (tOp (rI CPow fun i j => .int (i ^ j.toNat)) xa xb) (dOp dPow da db) := de_op op_pow sr_pow ha hb
theorem de_neg {W : WX} {a : Expr} {xa : TE} {da : DE} {pos : Pos} (ha : DEX X W a xa da) : DEX X W (.UnaryOp .USub a pos) (tUn (rU fun i => .int (-i)) xa) (dUn dNeg da) := de_un un_neg su_I ha
def rIxS2 (K : PySem.W.Frag) : R2 := fun x y H Q => rIxL K x y H Q ∨ rIxT K x y H Q
theorem ix_S : IxR X (rIxS2 X.K) := ix_list.or ix_tup
theorem atI_len {α β : Type} {xs : List α} {ys : List β} {i : Int} {v : α} (e : xs.length = ys.length) (h : atI xs i = some v) : ∃ j : Nat, xs[j]? = some v ∧ ∀ w, ys[j]? = some w → atI ys i = some w := by
  unfold atI at h ⊢
  rw [e] at h
  cases q : ixN ys.length i with
  | none =>
    rw [q] at h
    cases h
  | some j =>
    rw [q] at h
    exact ⟨j, h, fun w hw => hw⟩
theorem Dens.atI {l0 : Addr} {F : Hp} {xs : List V} {ds : List Dt} {i : Int} {d : Dt} (r : Dens K l0 F xs ds) (h : L2.atI ds i = some d) : ∃ x, L2.atI xs i = some x ∧ Den K l0 F x d := by
  obtain ⟨j, h1, h2⟩ := atI_len r.length.symm h
  obtain ⟨x, h3, h4⟩ := r.get h1
  exact ⟨x, h2 x h3, h4⟩
theorem sr_ix : SndR K (rIxS2 K) dIx := fun x y s t Q h l0 F H b r1 r2 Qc k => by
  unfold dIx at h
  split at h
  · obtain ⟨d, h1, q⟩ := h
    obtain ⟨a, xs, e, z1, z2⟩ := r1.list b (.inl rfl)
    subst e
    cases r2
    obtain ⟨u, w1, w2⟩ := z2.atI h1
    exact .inl ⟨a, xs, _, u, rfl, rfl, z1, w1, k.dat b w2 q⟩
  · obtain ⟨d, h1, q⟩ := h
    obtain ⟨a, xs, e, z1, z2⟩ := r1.tuple b
    subst e
    cases r2
    obtain ⟨u, w1, w2⟩ := z2.atI h1
    exact .inr ⟨a, xs, _, u, rfl, rfl, z1, w1, k.dat b w2 q⟩
  · obtain ⟨d, h1, q⟩ := h
    obtain ⟨a, xs, e, z1, z2⟩ := r1.list b (.inr rfl)
    subst e
    cases r2
    obtain ⟨u, w1, w2⟩ := z2.atI h1
    exact .inl ⟨a, xs, _, u, rfl, rfl, z1, w1, k.dat b w2 q⟩
  · obtain ⟨d, h1, q⟩ := h
    obtain ⟨a, xs, e, z1, z2⟩ := r1.brw
    subst e
    cases r2
    obtain ⟨u, w1, w2⟩ := z2.atI h1
    exact .inl ⟨a, xs, _, u, rfl, rfl, b.sub.seq z1, w1, k.dat b w2 q⟩
  · exact h.elim
theorem sc_abs : SndC K (fun xs H Q => ∃ i, xs = [.int i] ∧ Q (.int (if i < 0 then -i else i)) H) dAbs := fun vs ss Q h l0 F H b r Qc k => by
  unfold dAbs at h
  split at h
  · obtain ⟨⟩ | ⟨r1, ⟨⟩⟩ := r
    cases r1
    exact ⟨_, rfl, k.here b h⟩
  · exact h.elim
theorem sc_max2 : SndC K (fun xs H Q => ∃ i j, xs = [.int i, .int j] ∧ Q (.int (if j > i then j else i)) H) dMax2 := fun vs ss Q h l0 F H b r Qc k => by
  unfold dMax2 at h
  split at h
  · obtain ⟨⟩ | ⟨r1, ⟨⟩ | ⟨r2, ⟨⟩⟩⟩ := r
    cases r1
    cases r2
    exact ⟨_, _, rfl, k.here b h⟩
  · exact h.elim
theorem sc_min2 : SndC K (fun xs H Q => ∃ i j, xs = [.int i, .int j] ∧ Q (.int (if j < i then j else i)) H) dMin2 := fun vs ss Q h l0 F H b r Qc k => by
  unfold dMin2 at h
  split at h
  · obtain ⟨⟩ | ⟨r1, ⟨⟩ | ⟨r2, ⟨⟩⟩⟩ := r
    cases r1
    cases r2
    exact ⟨_, _, rfl, k.here b h⟩
  · exact h.elim
theorem sc_int1 : SndC K (fun xs H Q => (∃ i, xs = [.int i] ∧ Q (.int i) H) ∨ ∃ k, xs = [.bl k] ∧ Q (.int (if k then 1 else 0)) H) dInt1 := fun vs ss Q h l0 F H b r Qc k => by
  unfold dInt1 at h
  split at h
  · obtain ⟨⟩ | ⟨r1, ⟨⟩⟩ := r
    cases r1
    exact .inl ⟨_, rfl, k.here b h⟩
  · obtain ⟨⟩ | ⟨r1, ⟨⟩⟩ := r
    cases r1
    exact .inr ⟨_, rfl, k.here b h⟩
  · exact h.elim
def rLenA (K : PySem.W.Frag) : List V → Hp → VK → Prop := fun xs H Q => (∃ p ys, xs = [.ref p] ∧ (SqL K H p ys ∨ SqT K H p ys) ∧ Q (.int ys.length) H) ∨ ∃ z, xs = [.str z] ∧ z.length ≤ sizeLine ∧ Q (.int z.length) H
theorem call_lenA : CallR X (.builtin "len") (rLenA X.K) := call_len_seq.or call_len_str
theorem sc_len : SndC K (rLenA K) dLen := fun vs ss Q h l0 F H b r Qc k => by
  unfold dLen at h
  split at h
  · obtain ⟨⟩ | ⟨r1, ⟨⟩⟩ := r
    obtain ⟨a, xs, e, z1, z2⟩ := r1.list b (.inl rfl)
    subst e
    refine .inl ⟨a, xs, rfl, .inl z1, ?_⟩
    rw [z2.length]
    exact k.here b h
  · obtain ⟨⟩ | ⟨r1, ⟨⟩⟩ := r
    obtain ⟨a, xs, e, z1, z2⟩ := r1.tuple b
    subst e
    refine .inl ⟨a, xs, rfl, .inr z1, ?_⟩
    rw [z2.length]
    exact k.here b h
  · obtain ⟨⟩ | ⟨r1, ⟨⟩⟩ := r
    obtain ⟨a, xs, e, z1, z2⟩ := r1.list b (.inr rfl)
    subst e
    refine .inl ⟨a, xs, rfl, .inl z1, ?_⟩
    rw [z2.length]
    exact k.here b h
  · obtain ⟨⟩ | ⟨r1, ⟨⟩⟩ := r
    cases r1
    exact .inr ⟨_, rfl, Evl.sz_of h.1, k.here b h.2⟩
  · obtain ⟨⟩ | ⟨r1, ⟨⟩⟩ := r
    obtain ⟨a, xs, e, z1, z2⟩ := r1.brw
    subst e
    refine .inl ⟨a, xs, rfl, .inl (b.sub.seq z1), ?_⟩
    rw [z2.length]
    exact k.here b h
  · exact h.elim
end
end DW

set_option Elab.async false
set_option linter.all false
set_option maxRecDepth 100000
namespace DW
open PySem L2
section
variable {K : PySem.W.Frag} {W : WX} {l0 : Addr} {F H F' H' : Hp} {σ : L2.St} {ρ : En} {v : V} {s : Sl} {i : Nat}
theorem wipe_at {i : Nat} : ∀ {vs : List Nat} {σ : L2.St}, i ∈ vs → (wipe σ vs)[i]? = if i < σ.length then some none else none
  | v :: vs, σ, h => by
    unfold wipe
    by_cases q : v = i
    · subst q
      by_cases z : v < σ.length
      · rw [List.getElem?_set_self (by rw [wipe_length]; exact z), if_pos z]
      · rw [List.getElem?_eq_none (by rw [List.length_set, wipe_length]; omega), if_neg z]
    · rw [List.getElem?_set_ne q]
      rcases List.mem_cons.mp h with e | h
      · exact absurd e.symm q
      · exact wipe_at h
theorem wipe_set {σ : L2.St} {i : Nat} {x : Option V} {vs : List Nat} (h : i ∈ vs) : wipe (σ.set i x) vs = wipe σ vs := by
  apply List.ext_getElem?
  intro j
  by_cases q : j ∈ vs
  · rw [wipe_at q, wipe_at q, List.length_set]
  · rw [wipe_out q, wipe_out q, List.getElem?_set_ne (fun e => q (by rw [← e]; exact h))]
theorem wipe_twice {σ : L2.St} {vs : List Nat} : wipe (wipe σ vs) vs = wipe σ vs := by
  apply List.ext_getElem?
  intro j
  by_cases q : j ∈ vs
  · rw [wipe_at q, wipe_at q, wipe_length]
  · rw [wipe_out q]
theorem lt_of_get {ρ : En} {i : Nat} {s : Sl} (h : ρ[i]? = some s) : i < ρ.length := (List.getElem?_eq_some_iff.mp h).1
theorem Stt.ownL {s : Sl} {j : Nat} {a : Addr} (S : Stt K l0 F H σ ρ) (h : ρ[j]? = some s) (w : s.owns σ[j]? a) : F a = none ∧ a ≠ l0 ∧ ∃ o, H a = some o := by
  rcases S.sl j s h with z | ⟨v, h1, h2⟩
  · subst z
    cases w.1
  · rw [h1] at w
    exact h2.liv w
theorem Stt.put {d : Dt} (S : Stt K l0 F H σ ρ) (i : Nat) (r : Den K l0 F v d) : Stt K l0 F H (σ.set i (some v)) (ρ.set i (.dat d)) := by
  refine ⟨S.bs, by rw [List.length_set, List.length_set]; exact S.len, fun j s h => ?_, fun j k s t a h1 h2 ⟨o1, e1⟩ ⟨o2, e2⟩ => ?_⟩
  · by_cases q : i = j
    · subst q
      have hl : i < ρ.length := by
        have := lt_of_get h
        rwa [List.length_set] at this
      rw [List.getElem?_set_self hl] at h
      cases h
      exact .inr ⟨v, by rw [List.getElem?_set_self (by rw [← S.len]; exact hl)], r⟩
    · rw [List.getElem?_set_ne q] at h
      rw [List.getElem?_set_ne q]
      exact S.sl j s h
  · have nj : i ≠ j := fun q => by
      subst q
      have hl : i < ρ.length := by
        have := lt_of_get h1
        rwa [List.length_set] at this
      rw [List.getElem?_set_self hl] at h1
      cases h1
      cases o1
    have nk : i ≠ k := fun q => by
      subst q
      have hl : i < ρ.length := by
        have := lt_of_get h2
        rwa [List.length_set] at this
      rw [List.getElem?_set_self hl] at h2
      cases h2
      cases o2
    rw [List.getElem?_set_ne nj] at h1 e1
    rw [List.getElem?_set_ne nk] at h2 e2
    exact S.ap2 j k s t a h1 h2 ⟨o1, e1⟩ ⟨o2, e2⟩
theorem OwS.put {d : Dt} {x : Option V} (i : Nat) : OwS H σ ρ (σ.set i x) (ρ.set i (.dat d)) := fun a ⟨j, s, h1, h2, h3⟩ => by
  by_cases q : i = j
  · subst q
    have hl : i < ρ.length := by
      have := lt_of_get h1
      rwa [List.length_set] at this
    rw [List.getElem?_set_self hl] at h1
    cases h1
    cases h2
  · rw [List.getElem?_set_ne q] at h1 h3
    exact .inl ⟨j, s, h1, h2, h3⟩
theorem Stt.putOwn {l : Addr} {xs : List V} {ds : List Dt} (S : Stt K l0 F H σ ρ) (i : Nat) (hl : H l = none) (r : Dens K l0 F xs ds) : Stt K l0 F (upd H l (.lst xs)) (σ.set i (some (.ref l))) (ρ.set i (.own ds)) := by
  have g := Go.loose S.bs (.lst xs) hl
  have n0 : l ≠ l0 := fun e => S.bs.live (by rw [← e]; exact hl)
  have nF : F l = none := by
    cases e : F l with
    | none => rfl
    | some u =>
      rw [S.bs.sub l u e] at hl
      cases hl
  have S1 := S.go g
  -- no owned slot stands at l
  have far : ∀ (j : Nat) (s : Sl), ρ[j]? = some s → ¬ s.owns σ[j]? l := fun j s h w => by
    obtain ⟨_, _, o, ho⟩ := S.ownL h w
    rw [hl] at ho
    cases ho
  refine ⟨g.bs, by rw [List.length_set, List.length_set]; exact S.len, fun j s h => ?_, fun j k s t a h1 h2 ⟨o1, e1⟩ ⟨o2, e2⟩ => ?_⟩
  · by_cases q : i = j
    · subst q
      have hl : i < ρ.length := by
        have := lt_of_get h
        rwa [List.length_set] at this
      rw [List.getElem?_set_self hl] at h
      cases h
      exact .inr ⟨.ref l, by rw [List.getElem?_set_self (by rw [← S.len]; exact hl)], l, xs, rfl, nF, n0, upd_same, r⟩
    · rw [List.getElem?_set_ne q] at h
      rw [List.getElem?_set_ne q]
      exact S1.sl j s h
  · by_cases qj : i = j
    · by_cases qk : i = k
      · exact qj.symm.trans qk
      · subst qj
        have hl : i < σ.length := by
          have := lt_of_get h1
          rw [List.length_set] at this
          rwa [← S.len]
        rw [List.getElem?_set_self (by rw [S.len]; exact hl)] at h1
        rw [List.getElem?_set_self hl] at e1
        cases h1
        rcases e1 with e1 | e1
        · cases e1
          rw [List.getElem?_set_ne qk] at h2 e2
          exact absurd ⟨o2, e2⟩ (far k t h2)
        · exact nomatch e1
    · by_cases qk : i = k
      · subst qk
        have hl : i < σ.length := by
          have := lt_of_get h2
          rw [List.length_set] at this
          rwa [← S.len]
        rw [List.getElem?_set_self (by rw [S.len]; exact hl)] at h2
        rw [List.getElem?_set_self hl] at e2
        cases h2
        rcases e2 with e2 | e2
        · cases e2
          rw [List.getElem?_set_ne qj] at h1 e1
          exact absurd ⟨o1, e1⟩ (far j s h1)
        · exact nomatch e2
      · rw [List.getElem?_set_ne qj] at h1 e1
        rw [List.getElem?_set_ne qk] at h2 e2
        exact S.ap2 j k s t a h1 h2 ⟨o1, e1⟩ ⟨o2, e2⟩
theorem OwS.putOwn {l : Addr} {ds : List Dt} (i : Nat) (hl : H l = none) : OwS H σ ρ (σ.set i (some (.ref l))) (ρ.set i (.own ds)) := fun a ⟨j, s, h1, h2, h3⟩ => by
  by_cases q : i = j
  · subst q
    rw [List.getElem?_set_self (by have := lt_of_get h1; rwa [List.length_set] at this)] at h1
    cases h1
    rcases h3 with h3 | h3
    · by_cases hz : i < σ.length
      · rw [List.getElem?_set_self hz] at h3
        cases h3
        exact .inr hl
      · rw [List.getElem?_eq_none (by rw [List.length_set]; omega)] at h3
        cases h3
    · exact nomatch h3
  · rw [List.getElem?_set_ne q] at h1 h3
    exact .inl ⟨j, s, h1, h2, h3⟩
theorem Stt.own {ds : List Dt} (S : Stt K l0 F H σ ρ) (h : ρ[i]? = some (.own ds)) : ∃ l xs, σ[i]? = some (some (.ref l)) ∧ F l = none ∧ l ≠ l0 ∧ H l = some (.lst xs) ∧ Dens K l0 F xs ds := by
  rcases S.sl i _ h with z | ⟨v, h1, l, xs, e, h2, h3, h4, h5⟩
  · cases z
  · subst e
    exact ⟨l, xs, h1, h2, h3, h4, h5⟩
theorem Stt.mut {l : Addr} {xs ys : List V} {ds es : List Dt} (S : Stt K l0 F H σ ρ) (hρ : ρ[i]? = some (.own ds)) (hσ : σ[i]? = some (some (.ref l))) (hF : F l = none) (n0 : l ≠ l0) (r : Dens K l0 F ys es) :
    Stt K l0 F (upd H l (.lst ys)) σ (ρ.set i (.own es)) ∧ GoS l0 F H σ ρ F (upd H l (.lst ys)) ∧ OwS H σ ρ σ (ρ.set i (.own es)) := by
  have ow : Ow σ ρ l := ⟨i, _, hρ, rfl, .inl hσ⟩
  have nF : ∀ a o, F a = some o → a ≠ l := fun a o h e => by
    rw [e, hF] at h
    cases h
  have bs : Base l0 F (upd H l (.lst ys)) := by
    refine ⟨fun a o h => ?_, S.bs.nf, ?_⟩
    · rw [upd_ne (nF a o h)]
      exact S.bs.sub a o h
    · obtain ⟨ns, h1, h2⟩ := S.bs.dr
      exact ⟨ns, by rw [upd_ne n0.symm]; exact h1, h2⟩
  refine ⟨⟨bs, by rw [List.length_set]; exact S.len, fun j s h => ?_, fun j k s t a h1 h2 ⟨o1, e1⟩ ⟨o2, e2⟩ => ?_⟩, ⟨bs, fun _ _ h => h, fun a h1 h2 => absurd h1 h2, fun a o _ h e => ?_⟩, fun a ⟨j, s, h1, h2, h3⟩ => ?_⟩
  · by_cases q : i = j
    · subst q
      rw [List.getElem?_set_self (lt_of_get hρ)] at h
      cases h
      exact .inr ⟨.ref l, hσ, l, ys, rfl, hF, n0, upd_same, r⟩
    · rw [List.getElem?_set_ne q] at h
      rcases S.sl j s h with z | ⟨v, h1, h2⟩
      · exact .inl z
      · refine .inr ⟨v, h1, ?_⟩
        cases s with
        | emp => exact h2
        | dat d => exact h2
        | own ds' =>
          obtain ⟨l', xs', e', a1, a2, h3, a3⟩ := h2
          subst e'
          have ne : l' ≠ l := fun e => q (S.ap i j _ _ l hρ h rfl rfl hσ (by rw [h1, e]))
          exact ⟨l', xs', rfl, a1, a2, by rw [upd_ne ne]; exact h3, a3⟩
        | oob p0 C fs =>
          obtain ⟨l', dx, gs, e', a1, a2, h3, a3⟩ := h2
          subst e'
          have ne : l' ≠ l := fun e => q (S.ap i j _ _ l hρ h rfl rfl hσ (by rw [h1, e]))
          obtain ⟨l2, xs2, y1, _, _, y2, _⟩ := S.own hρ
          rw [hσ] at y1
          cases y1
          obtain ⟨a3, e1, e2, z1, z2, z3⟩ := a3
          have nd : dx ≠ l := fun z => by rw [z, y2] at z3; cases z3
          exact ⟨l', dx, gs, rfl, a1, a2, by rw [upd_ne ne]; exact h3, a3, e1, e2, z1, z2, by rw [upd_ne nd]; exact z3⟩
        | odc kvs =>
          obtain ⟨l', xs', e', a1, a2, h3, a3⟩ := h2
          subst e'
          have ne : l' ≠ l := fun e => q (S.ap i j _ _ l hρ h rfl rfl hσ (by rw [h1, e]))
          exact ⟨l', xs', rfl, a1, a2, by rw [upd_ne ne]; exact h3, a3⟩
        | tre t =>
          obtain ⟨r, nd, n⟩ := h2
          have ne : ∀ a ∈ t.ads, a ≠ l := fun a m e => q (S.ap2 i j _ _ l hρ h ⟨rfl, .inl hσ⟩ ⟨rfl, .inr (by rw [← e]; exact m)⟩)
          exact ⟨r.frm (fun _ _ e => e) (fun a m => (r.liv a m).1) fun a m o e => by rw [upd_ne (ne a m)]; exact e, nd, n⟩
  · have back : ∀ {j : Nat} {s : Sl}, (ρ.set i (.own es))[j]? = some s → s.owns σ[j]? a → ∃ s', ρ[j]? = some s' ∧ s'.owns σ[j]? a := fun {j s} h o => by
      by_cases q : i = j
      · subst q
        rw [List.getElem?_set_self (lt_of_get hρ)] at h
        cases h
        exact ⟨_, hρ, rfl, o.2⟩
      · rw [List.getElem?_set_ne q] at h
        exact ⟨s, h, o⟩
    obtain ⟨s', z1, z2⟩ := back h1 ⟨o1, e1⟩
    obtain ⟨t', z3, z4⟩ := back h2 ⟨o2, e2⟩
    exact S.ap2 j k s' t' a z1 z3 z2 z4
  · rw [upd_ne (fun z => h (by rw [z]; exact ow))]
    exact e
  · by_cases q : i = j
    · subst q
      rw [List.getElem?_set_self (lt_of_get hρ)] at h1
      cases h1
      exact .inl ⟨i, _, hρ, rfl, h3⟩
    · rw [List.getElem?_set_ne q] at h1
      exact .inl ⟨j, s, h1, h2, h3⟩
theorem Stt.freeze {ds : List Dt} (S : Stt K l0 F H σ ρ) (h : ρ[i]? = some (.own ds)) : ∃ F', Stt K l0 F' H σ (ρ.set i (.dat (.lst ds))) ∧ GoS l0 F H σ ρ F' H ∧ OwS H σ ρ σ (ρ.set i (.dat (.lst ds))) := by
  obtain ⟨l, xs, hσ, hF, n0, hl, r⟩ := S.own h
  have ow : Ow σ ρ l := ⟨i, _, h, rfl, .inl hσ⟩
  have ex : Same F (upd F l (.lst xs)) := fun a o e => by
    rw [upd_ne (ne_of_none e hF)]
    exact e
  have bs : Base l0 (upd F l (.lst xs)) H := by
    refine ⟨fun a o e => ?_, by rw [upd_ne n0.symm]; exact S.bs.nf, S.bs.dr⟩
    by_cases q : a = l
    · subst q
      rw [upd_same] at e
      cases e
      exact hl
    · rw [upd_ne q] at e
      exact S.bs.sub a o e
  refine ⟨upd F l (.lst xs), ⟨bs, by rw [List.length_set]; exact S.len, fun j s e => ?_, fun j k s t a h1 h2 ⟨o1, e1⟩ ⟨o2, e2⟩ => ?_⟩, ⟨bs, ex, fun a h1 h2 => ?_, fun a o _ _ e => e⟩, fun a ⟨j, s, h1, h2, h3⟩ => ?_⟩
  · by_cases q : i = j
    · subst q
      rw [List.getElem?_set_self (lt_of_get h)] at e
      cases e
      exact .inr ⟨.ref l, hσ, Den.lst (.inl upd_same) (Dens.mono ex r)⟩
    · rw [List.getElem?_set_ne q] at e
      rcases S.sl j s e with z | ⟨v, h1, h2⟩
      · exact .inl z
      · refine .inr ⟨v, h1, ?_⟩
        cases s with
        | emp => exact h2
        | dat d => exact Den.mono ex h2
        | own ds' =>
          obtain ⟨l', xs', e', a1, a2, h3, a3⟩ := h2
          subst e'
          have ne : l' ≠ l := fun z => q (S.ap i j _ _ l h e rfl rfl hσ (by rw [h1, z]))
          exact ⟨l', xs', rfl, by rw [upd_ne ne]; exact a1, a2, h3, Dens.mono ex a3⟩
        | oob p0 C fs =>
          obtain ⟨l', dx, gs, e', a1, a2, h3, a3⟩ := h2
          subst e'
          have ne : l' ≠ l := fun z => q (S.ap i j _ _ l h e rfl rfl hσ (by rw [h1, z]))
          obtain ⟨a3, e1, e2, z1, z2, z3⟩ := a3
          have nd : dx ≠ l := fun z => by rw [z, hl] at z3; cases z3
          exact ⟨l', dx, gs, rfl, by rw [upd_ne ne]; exact a1, a2, h3, DenF.mono ex a3, e1, e2, by rw [upd_ne nd]; exact z1, z2, z3⟩
        | odc kvs =>
          obtain ⟨l', xs', e', a1, a2, h3, a3⟩ := h2
          subst e'
          have ne : l' ≠ l := fun z => q (S.ap i j _ _ l h e rfl rfl hσ (by rw [h1, z]))
          exact ⟨l', xs', rfl, by rw [upd_ne ne]; exact a1, a2, h3, DenK.mono ex a3⟩
        | tre t =>
          obtain ⟨r, nd, n⟩ := h2
          have ne : ∀ a ∈ t.ads, a ≠ l := fun a m z => q (S.ap2 i j _ _ l h e ⟨rfl, .inl hσ⟩ ⟨rfl, .inr (by rw [← z]; exact m)⟩)
          exact ⟨r.frm ex (fun a m => by rw [upd_ne (ne a m)]; exact (r.liv a m).1) fun a m o e => e, nd, n⟩
  · have back : ∀ {j : Nat} {s : Sl}, (ρ.set i (.dat (.lst ds)))[j]? = some s → s.isOwn = true → ρ[j]? = some s := fun {j s} e o => by
      by_cases q : i = j
      · subst q
        rw [List.getElem?_set_self (lt_of_get h)] at e
        cases e
        cases o
      · rw [List.getElem?_set_ne q] at e
        exact e
    exact S.ap2 j k s t a (back h1 o1) (back h2 o2) ⟨o1, e1⟩ ⟨o2, e2⟩
  · by_cases q : a = l
    · subst q
      exact .inr ow
    · rw [upd_ne q] at h2
      exact absurd h1 h2
  · by_cases q : i = j
    · subst q
      rw [List.getElem?_set_self (lt_of_get h)] at h1
      cases h1
      cases h2
    · rw [List.getElem?_set_ne q] at h1
      exact .inl ⟨j, s, h1, h2, h3⟩
end

def dNext : DS := fun D ρ => D.nx ρ
def dSeq (t u : DS) : DS := fun D ρ => t { D with nx := u D } ρ
def retS (D : DEnds) : Sl → Prop
  | .dat d => D.rt d
  | .own ds => D.rt (.lst ds)
  | _ => False
def dRet (de : DE) : DS := fun D ρ => de ρ (retS D) fun x => D.ex x ρ
def dIfS (c : DTt) (t u : DS) : DS := fun D ρ => c ρ (fun b => if b = true then t D ρ else u D ρ) fun x => D.ex x ρ
def dDrop (de : DE) : DS := fun D ρ => de ρ (fun _ => D.nx ρ) fun x => D.ex x ρ
def datS (R : Dt → Prop) : Sl → Prop
  | .dat d => R d
  | _ => False
theorem datS_of {R : Dt → Prop} {s : Sl} (h : datS R s) : ∃ d, s = .dat d ∧ R d := by
  cases s with
  | dat d => exact ⟨d, rfl, h⟩
  | _ => exact h.elim
def dAsg (de : DE) (g : DG) : DS := fun D ρ => de ρ (fun s => g s ρ D.nx) fun x => D.ex x ρ
def gdName (i : Nat) : DG
  | .dat d, ρ, R => R (ρ.set i (.dat d))
  | _, _, _ => False
abbrev DGs := List Dt → En → (En → Prop) → Prop
def gdNil : DGs := fun ds ρ R => ds = [] ∧ R ρ
def gdCons (t : DG) (u : DGs) : DGs
  | d :: r, ρ, R => t (.dat d) ρ fun ρ' => u r ρ' R
  | [], _, _ => False
def dOwn (i : Nat) (a : DA) : DS := fun D ρ => a ρ (fun ss => ss.length ≤ 100000 ∧ plain ss fun ds => D.nx (ρ.set i (.own ds))) fun x => D.ex x ρ
def dApp (i : Nat) (de : DE) : DS := fun D ρ => match ρ.getD i .emp with
  | .own ds => de ρ (datS fun d => ds.length ≤ 100000 ∧ D.nx (ρ.set i (.own (ds ++ [d])))) fun x => D.ex x ρ
  | _ => False
def dPop (i j : Nat) : DS := fun D ρ => match ρ.getD i .emp with
  | .own ds => ∃ es d, ds = es ++ [d] ∧ D.nx ((ρ.set i (.own es)).set j (.dat d))
  | _ => False
def dFrz (i : Nat) (t : DS) : DS := fun D ρ => match ρ.getD i .emp with
  | .own ds => t D (ρ.set i (.dat (.lst ds)))
  | _ => False
abbrev DI := En → (List Dt → Prop) → (Xn → Prop) → Prop
def ForI (g : DG) (b : DS) (D : DEnds) (ds : List Dt) (ρ : En) : Prop := ∃ P : Nat → En → Prop, P 0 ρ ∧ (∀ (i : Nat) (x : Dt) (ρ' : En), ds[i]? = some x → P i ρ' → g (.dat x) ρ' fun ρ2 => b { D with nx := P (i + 1), ct := P (i + 1), bk := D.nx } ρ2) ∧ ∀ ρ', P ds.length ρ' → D.nx ρ'
def dFor (it : DI) (g : DG) (b : DS) : DS := fun D ρ => it ρ (fun ds => ForI g b D ds ρ) fun x => D.ex x ρ
def intsR (lo : Int) (n : Nat) : List Dt := (List.range n).map fun i => .v (.int (lo + (i : Nat)))
def iR1 (a : DA) : DI := fun ρ Q E => a ρ (fun ss => match ss with
  | [.dat (.v (.int j))] => -(2 ^ 62) ≤ j ∧ j < 2 ^ 62 ∧ Q (intsR 0 j.toNat)
  | _ => False) E
def iSeq (a : DE) : DI := fun ρ Q E => a ρ (fun s => match s with
  | .dat (.lst ds) => Q ds
  | .dat (.tup ds) => Q ds
  | .dat (.brw ds) => Q ds
  | _ => False) E
def wipeD (ρ : En) : List Nat → En
  | [] => ρ
  | v :: vs => (wipeD ρ vs).set v .emp
def LcI (g : DG) (t : DTt) (e : DE) (ρ : En) (ds : List Dt) (Q : List Dt → Prop) : Prop := ∃ P : Nat → List Dt → Prop, P 0 [] ∧ (∀ (i : Nat) (x : Dt) (acc : List Dt), ds[i]? = some x → P i acc → g (.dat x) ρ fun ρ2 => t ρ2 (fun b => if b = true then e ρ2 (datS fun d => acc.length ≤ 100000 ∧ P (i + 1) (acc ++ [d])) fun _ => False else P (i + 1) acc) fun _ => False) ∧ ∀ acc, P ds.length acc → Q acc
def dLc (it : DI) (g : DG) (t : DTt) (e : DE) (vs : List Nat) : DE := fun ρ Q E => it ρ (fun ds => LcI g t e (wipeD ρ vs) ds fun rs => Q (.dat (.lst rs))) E
def dYes : DTt := fun _ Q _ => Q true

structure Wlk (K : PySem.W.Frag) (l0 : Addr) (J : It) (F : Hp) (ds : List Dt) : Prop where
  go : ∀ i F' H', Same F F' → Base l0 F' H' → i < ds.length → J.go i H'
  yld : ∀ i F' H' x H2, Same F F' → Base l0 F' H' → i < ds.length → J.yld i H' x H2 → ∃ F2 d, Go l0 F' H' F2 H2 ∧ ds[i]? = some d ∧ Den K l0 F2 x d
  stop : ∀ F' H', Same F F' → Base l0 F' H' → J.stop ds.length H'
theorem Wlk.list {K : PySem.W.Frag} {l0 a : Addr} {F : Hp} {xs : List V} {ds : List Dt} (h : SqL K F a xs) (r : Dens K l0 F xs ds) : Wlk K l0 (Itl K a) F ds where
  go := fun i F' H' e b hi => by
    have hx : i < xs.length := by rw [r.length]; exact hi
    exact ⟨xs, xs[i], b.sub.seq (e.seq h), by simp [hx]⟩
  yld := fun i F' H' x H2 e b hi y => by
    obtain ⟨e2, y⟩ := y
    subst e2
    obtain ⟨d, h1, h2⟩ := r.getx (y xs (b.sub.seq (e.seq h)))
    exact ⟨F', d, .refl b, h1, Den.mono e h2⟩
  stop := fun F' H' e b => ⟨xs, b.sub.seq (e.seq h), by rw [r.length]; exact Nat.le_refl _⟩
theorem Wlk.tuple {K : PySem.W.Frag} {l0 a : Addr} {F : Hp} {xs : List V} {ds : List Dt} (h : SqT K F a xs) (r : Dens K l0 F xs ds) : Wlk K l0 (Itt K a) F ds where
  go := fun i F' H' e b hi => by
    have hx : i < xs.length := by rw [r.length]; exact hi
    exact ⟨xs, xs[i], sameT b.sub (sameT e h), by simp [hx]⟩
  yld := fun i F' H' x H2 e b hi y => by
    obtain ⟨e2, y⟩ := y
    subst e2
    obtain ⟨d, h1, h2⟩ := r.getx (y xs (sameT b.sub (sameT e h)))
    exact ⟨F', d, .refl b, h1, Den.mono e h2⟩
  stop := fun F' H' e b => ⟨xs, sameT b.sub (sameT e h), by rw [r.length]; exact Nat.le_refl _⟩
theorem intsR_len (lo : Int) (n : Nat) : (intsR lo n).length = n := by unfold intsR; rw [List.length_map, List.length_range]
theorem intsR_get {lo : Int} {n i : Nat} (h : i < n) : (intsR lo n)[i]? = some (.v (.int (lo + (i : Nat)))) := by
  unfold intsR
  rw [List.getElem?_map, List.getElem?_range h]
  rfl
theorem Wlk.range {K : PySem.W.Frag} {l0 : Addr} {F : Hp} {lo : Int} {n : Nat} : Wlk K l0 (Itr lo n) F (intsR lo n) where
  go := fun i F' H' e b hi => by
    rw [intsR_len] at hi
    exact hi
  yld := fun i F' H' x H2 e b hi y => by
    rw [intsR_len] at hi
    obtain ⟨e1, e2⟩ := y
    subst e1 e2
    exact ⟨F', _, .refl b, intsR_get hi, .v _⟩
  stop := fun F' H' e b => by
    show n ≤ (intsR lo n).length
    rw [intsR_len]
    exact Nat.le_refl _
def SndI (K : PySem.W.Frag) (W : WX) (wi : TI) (di : DI) : Prop := ∀ ρ Q E, di ρ Q E → ∀ l0 F H σ, Stt K l0 F H σ ρ → ∀ R : It → Hp → Prop, (∀ J ds F' H', Go l0 F H F' H' → Wlk K l0 J F' ds → Q ds → R J H') → KX K W l0 F H σ E → wi σ H R
def DIX (X : Cx) (W : WX) (tg it : Expr) (wi : TI) (di : DI) : Prop := PI X tg it wi ∧ SndI X.K W wi di

section
variable {X : Cx} {W : WX} {a b c e tg : Expr} {xa xb xc xe : TE} {ya yb : TT} {va vb : TS} {da db dc de : DE} {pos : Pos} {ta tb : DTt} {st : Stmt} {rest : List Stmt} {t u : DS}
theorem di_range1 {p : Pos} {zr : TA} {dr : DA} (hg : Gl X "range") (hm : X.mg "range" = none) (ha : DAX X W [a] zr dr) (hs : starEach [a] X.env = [(false, eval a X.env)] := by rfl) : DIX X W tg (.Call (.Name "range" p) [a] [] pos) (iRng1 zr) (iR1 dr) := by
  obtain ⟨pa, st⟩ := ha
  refine ⟨pi_range1 hg hm pa hs, fun ρ Q E h l0 F H σ S R k kx => ?_⟩
  have h : dr ρ _ E := h
  refine st ρ _ E h l0 F H σ S _ (fun xs ss F1 H1 g1 r1 q1 => ?_) kx
  split at q1
  · obtain ⟨h1, h2, q⟩ := q1
    obtain ⟨⟩ | ⟨r1, ⟨⟩⟩ := r1
    cases r1
    exact ⟨_, rfl, h1, h2, k _ _ F1 H1 g1 .range q⟩
  · exact q1.elim
def iBoth (K : PySem.W.Frag) (tl : TE) : TI := fun σ H R => tl σ H fun x H1 => ∃ a, x = .ref a ∧ (((∃ xs, SqL K H1 a xs) ∧ R (Itl K a) H1) ∨ ((∃ xs, SqT K H1 a xs) ∧ R (Itt K a) H1))
theorem pi_both {l : Expr} {tl : TE} (hl : PE X l tl) : PI X tg l (iBoth X.K tl) := by
  refine ⟨fun pins s σ H R I h => ?_⟩
  refine thn (hl.run pins s σ H _ I h) fun v s1 ⟨x, H1, I1, r1, q1⟩ => ?_
  obtain ⟨a, e, q1⟩ := q1
  subst e
  cases r1
  rcases q1 with ⟨⟨xs, hq⟩, q⟩ | ⟨⟨xs, hq⟩, q⟩
  · obtain ⟨its, rv, p, hz⟩ := I1.list hq
    refine wpAny_pyIter_list p.isList ?_
    refine ⟨s1.heap.objs.size, [s1.heap.objs.size], _, _, H1, rfl, I1.kept (t' := s1.toks) fun b o e => Heap.get?_push_of_some _ e, turn_list a _, ⟨_, Heap.get?_push_size _ rfl, rfl, rfl⟩, fun b hb => ?_, q⟩
    have e : b = s1.heap.objs.size := by simpa using hb
    subst e
    exact I1.fpOk (Nat.le_refl _) (I1.hok.fresh (Nat.le_refl _))
  · obtain ⟨its, rv, p, hz⟩ := I1.tuple hq
    refine wpAny_pyIter_tuple (show s1.heap.IsTuple a its.toArray from p) ?_
    refine ⟨s1.heap.objs.size, [s1.heap.objs.size], _, _, H1, rfl, I1.kept (t' := s1.toks) fun b o e => Heap.get?_push_of_some _ e, turn_tuple a _, ⟨_, Heap.get?_push_size _ rfl, rfl, rfl⟩, fun b hb => ?_, q⟩
    have e : b = s1.heap.objs.size := by simpa using hb
    subst e
    exact I1.fpOk (Nat.le_refl _) (I1.hok.fresh (Nat.le_refl _))
theorem di_seq (ha : DEX X W a xa da) : DIX X W tg a (iBoth X.K xa) (iSeq da) := by
  obtain ⟨pa, st⟩ := ha
  refine ⟨pi_both pa, fun ρ Q E h l0 F H σ S R k kx => ?_⟩
  have h : da ρ _ E := h
  refine st ρ _ E h l0 F H σ S _ (fun x s F1 H1 g1 r1 q1 => ?_) kx
  dsimp only at q1
  split at q1
  · obtain ⟨a, xs, e, h1, h2⟩ := SlV.lst r1
    exact ⟨a, e, .inl ⟨⟨xs, g1.bs.sub.seq h1⟩, k _ _ F1 H1 g1 (.list h1 h2) q1⟩⟩
  · obtain ⟨a, xs, e, h1, h2⟩ := SlV.tup r1
    exact ⟨a, e, .inr ⟨⟨xs, sameT g1.bs.sub h1⟩, k _ _ F1 H1 g1 (.tuple h1 h2) q1⟩⟩
  · obtain ⟨a, xs, e, h1, h2⟩ := SlV.brw r1
    exact ⟨a, e, .inl ⟨⟨xs, g1.bs.sub.seq h1⟩, k _ _ F1 H1 g1 (.list h1 h2) q1⟩⟩
  · exact q1.elim

theorem dg_name (i : Nat) {x : Str} (hN : X.N.Nodup) (hi : X.N[i]? = some x := by rfl) (hx : Loc X.env.scope x := by first | exact .inl rfl | exact .inr rfl) (hf : X.fn x = true ∨ X.env.scope.names.lookup x = some .local := by first | exact .inl rfl | exact .inr rfl | assumption) :
    DGX X (.Name x pos) [i] (gName i) (gdName i) := by
  refine ⟨pg_name hN hi hx hf, fun s ρ R h l0 F H σ v S r Rc k => ?_⟩
  unfold gdName at h
  split at h
  · exact k F H _ _ (.refl S.bs) (.put i) (S.put i r) (fun vs hv => wipe_set (hv i (List.mem_singleton.mpr rfl))) h
  · exact h.elim
def SndGs (K : PySem.W.Frag) (ts : List Nat) (g : TGs) (dg : DGs) : Prop := ∀ ds ρ R, dg ds ρ R → ∀ l0 F H σ vs, Stt K l0 F H σ ρ → Dens K l0 F vs ds → ∀ Rc : L2.St → Hp → Prop,
  (∀ F' H' σ' ρ', Go l0 F H F' H' → OwS H σ ρ σ' ρ' → Stt K l0 F' H' σ' ρ' → (∀ vs : List Nat, (∀ j ∈ ts, j ∈ vs) → wipe σ' vs = wipe σ vs) → R ρ' → Rc σ' H') → g vs σ H Rc
def DGsX (X : Cx) (es : List Expr) (ts : List Nat) (g : TGs) (dg : DGs) : Prop := PGs X es g ∧ SndGs X.K ts g dg
theorem dgs_nil : DGsX X [] [] gNil gdNil := by
  refine ⟨pgs_nil, fun ds ρ R h l0 F H σ vs S r Rc k => ?_⟩
  obtain ⟨e, q⟩ := h
  subst e
  cases r
  exact ⟨rfl, k F H σ ρ (.refl S.bs) .refl S (fun _ _ => rfl) q⟩
theorem dgs_cons {es : List Expr} {g : TG} {gs : TGs} {t : DG} {u : DGs} {n1 n2 : List Nat} (h1 : DGX X e n1 g t) (h2 : DGsX X es n2 gs u) (hs : (assignEach (e :: es) X.env).map (·.2) = assign e X.env :: (assignEach es X.env).map (·.2) := by rfl) : DGsX X (e :: es) (n1 ++ n2) (gCons g gs) (gdCons t u) := by
  obtain ⟨p, sg⟩ := h1
  obtain ⟨ps, sgs⟩ := h2
  refine ⟨pgs_cons p ps hs, fun ds ρ R h l0 F H σ vs S r Rc k => ?_⟩
  cases ds with
  | nil => exact h.elim
  | cons d r' =>
    cases r with
    | cons r1 r2 =>
      refine ⟨_, _, rfl, sg _ ρ _ h l0 F H σ _ S r1 _ fun F1 H1 σ1 ρ1 g1 w1 S1 z1 q1 => ?_⟩
      exact sgs _ ρ1 R q1 l0 F1 H1 σ1 _ S1 (Dens.mono g1.ex r2) _ fun F2 H2 σ2 ρ2 g2 w2 S2 z2 q2 => k F2 H2 σ2 ρ2 (g1.trans g2) (OwS.trans S.bs (.of g1) w1 w2) S2 (fun vs hv => (z2 vs fun j hj => hv j (List.mem_append_right _ hj)).trans (z1 vs fun j hj => hv j (List.mem_append_left _ hj))) q2
theorem dss_nil : DSSX X W [] tNext dNext := ⟨pss_nil, fun D ρ h l0 F H σ S C L => L.nx F H σ ρ (.of (.refl S.bs)) .refl S h⟩
theorem dss_cons (h1 : DSX X W st va t) (h2 : DSSX X W rest vb u) : DSSX X W (st :: rest) (tSeq va vb) (dSeq t u) := by
  obtain ⟨p1, s1⟩ := h1
  obtain ⟨p2, s2⟩ := h2
  refine ⟨pss_cons p1 p2, fun D ρ h l0 F H σ S C L => ?_⟩
  refine s1 { D with nx := u D } ρ h l0 F H σ S { C with nx := vb C } ⟨fun F' H' σ' ρ' g w S' q => ?_, L.rt, L.bk, L.ct, L.ex, L.rs⟩
  exact s2 D ρ' q l0 F' H' σ' S' C (L.trans S.bs g w)
theorem dss_one (h1 : DSX X W st va t) : DSSX X W [st] va t := by
  obtain ⟨p1, s1⟩ := h1
  exact ⟨pss_one p1, s1⟩
theorem dss_frz (i : Nat) (h : DSSX X W rest va t) : DSSX X W rest va (dFrz i t) := by
  obtain ⟨p1, s1⟩ := h
  refine ⟨p1, fun D ρ h l0 F H σ S C L => ?_⟩
  unfold dFrz at h
  split at h
  · rename_i ds e
    have e2 : ρ[i]? = some (.own ds) := by
      rw [List.getD_eq_getElem?_getD] at e
      cases q : ρ[i]? with
      | none => rw [q] at e; cases e
      | some s => rw [q] at e; exact congrArg some e
    obtain ⟨F', S', g, w⟩ := S.freeze e2
    exact s1 D _ h l0 F' H σ S' C (L.trans S.bs g w)
  · exact h.elim
theorem getD_own {ρ : En} {i : Nat} {ds : List Dt} (e : ρ.getD i .emp = .own ds) : ρ[i]? = some (.own ds) := by
  rw [List.getD_eq_getElem?_getD] at e
  cases q : ρ[i]? with
  | none => rw [q] at e; cases e
  | some s => rw [q] at e; exact congrArg some e
theorem hand {K : PySem.W.Frag} {l0 : Addr} {F H F1 H1 : Hp} {σ : L2.St} {ρ : En} {D : DEnds} {C : Ends} {v : V} {s : Sl} (L : Lnk K W l0 F H σ ρ D C) (S : Stt K l0 F H σ ρ) (g : Go l0 F H F1 H1) (r : SlV K l0 F1 H1 v s) (ow : ∀ ds, s = .own ds → ∃ a : Addr, v = .ref a ∧ (Ow σ ρ a ∨ H a = none)) (q : retS D s) : C.rt v H1 := by
  unfold retS at q
  split at q
  · exact L.rt F1 H1 v _ (.of g) r q
  · rename_i ds
    obtain ⟨l, xs, e, hF, n0, hl, hd⟩ := r
    subst e
    obtain ⟨a, e, ha⟩ := ow ds rfl
    cases e
    have ex : Same F1 (upd F1 l (.lst xs)) := fun a o e => by
      rw [upd_ne (ne_of_none e hF)]
      exact e
    refine L.rt (upd F1 l (.lst xs)) H1 (.ref l) (.lst ds) ⟨⟨fun a o e => ?_, by rw [upd_ne n0.symm]; exact g.bs.nf, g.bs.dr⟩, fun a o e => ex a o (g.ex a o e), fun a h1 h2 => ?_, fun a o n _ e => g.keep a o n e⟩ (Den.lst (.inl upd_same) (Dens.mono ex hd)) q
    · by_cases z : a = l
      · subst z
        rw [upd_same] at e
        cases e
        exact hl
      · rw [upd_ne z] at e
        exact g.bs.sub a o e
    · by_cases z : a = l
      · subst z
        exact ha.symm
      · rw [upd_ne z] at h2
        exact .inl (g.new a h1 h2)
  · exact q.elim
theorem ds_retv (i : Nat) {x : Str} {p : Pos} (hN : X.N[i]? = some x := by rfl) (hv : Vis X.env.scope x := by first | exact Or.inl rfl | exact Or.inr (Or.inl rfl) | exact Or.inr (Or.inr rfl)) (hd : (x == ("__debug__" : Str)) = false := by decide)
    (hcd : (x == ("__classdict__" : Str)) = false := by decide) : DSX X W (.Return (some (.Name x p)) pos) (tRet (tVar i)) (dRet (dVar i)) := by
  refine ⟨ps_ret (pe_var hN hv hd hcd), fun D ρ h l0 F H σ S C L => ?_⟩
  obtain ⟨s, v, h0, h1, h2, q⟩ := S.use h
  refine ⟨v, h1, hand L S (.refl S.bs) h2 (fun ds e => ?_) q⟩
  subst e
  obtain ⟨l, xs, e, _⟩ := h2
  subst e
  exact ⟨l, rfl, .inl ⟨i, _, h0, rfl, .inl h1⟩⟩
def dRetE (de : DE) : DS := fun D ρ => de ρ (datS D.rt) fun x => D.ex x ρ
theorem ds_ret (ha : DEX X W e xe de) : DSX X W (.Return (some e) pos) (tRet xe) (dRetE de) := by
  obtain ⟨p, se⟩ := ha
  refine ⟨ps_ret p, fun D ρ h l0 F H σ S C L => ?_⟩
  refine se ρ _ _ h l0 F H σ S _ (fun v s F1 H1 g1 r1 q1 => ?_) (L.kx S)
  obtain ⟨d, e, q1⟩ := datS_of q1
  subst e
  exact L.rt F1 H1 v _ (.of g1) r1 q1
theorem ds_if {p q : List Stmt} (hc : DTX X W c ya ta) (ha : DSSX X W p va t) (hb : DSSX X W q vb u) : DSX X W (.If c p q pos) (tIfS ya va vb) (dIfS ta t u) := by
  obtain ⟨pc, sc⟩ := hc
  obtain ⟨p1, s1⟩ := ha
  obtain ⟨p2, s2⟩ := hb
  refine ⟨ps_if pc p1 p2, fun D ρ h l0 F H σ S C L => ?_⟩
  refine sc ρ _ _ h l0 F H σ S _ (fun b F1 H1 g1 q1 => ?_) (L.kx S)
  have L1 := L.trans S.bs (.of g1) .refl
  cases b with
  | true =>
    rw [if_pos rfl] at q1 ⊢
    exact s1 D ρ q1 l0 F1 H1 σ (S.go g1) C L1
  | false =>
    rw [if_neg Bool.false_ne_true] at q1 ⊢
    exact s2 D ρ q1 l0 F1 H1 σ (S.go g1) C L1
theorem ds_expr (ha : DEX X W e xe de) (hs : swapsWith e none pos.line X.env = pure false := by rfl) : DSX X W (.Expr e pos) (tDrop xe) (dDrop de) := by
  obtain ⟨p, se⟩ := ha
  refine ⟨ps_expr p hs, fun D ρ h l0 F H σ S C L => ?_⟩
  exact se ρ _ _ h l0 F H σ S _ (fun v s F1 H1 g1 r1 q1 => L.nx F1 H1 σ ρ (.of g1) .refl (S.go g1) q1) (L.kx S)
theorem ds_asg {g' : TG} {g : DG} {ns : List Nat} (ha : DEX X W e xe de) (hg : DGX X tg ns g' g) (hs : swapsWithSole [tg] e pos.line X.env = pure false := by rfl) (hw : swappedStores [tg] e X.env = pure none := by rfl) (h1 : (assignEach [tg] X.env).map (·.2) = [assign tg X.env] := by rfl) : DSX X W (.Assign [tg] e pos) (tAsg xe g') (dAsg de g) := by
  obtain ⟨p, se⟩ := ha
  obtain ⟨pg, sg⟩ := hg
  refine ⟨ps_asg p pg hs hw h1, fun D ρ h l0 F H σ S C L => ?_⟩
  refine se ρ _ _ h l0 F H σ S _ (fun v s F1 H1 g1 r1 q1 => ?_) (L.kx S)
  exact sg s ρ _ q1 l0 F1 H1 σ v (S.go g1) r1 _ fun F2 H2 σ2 ρ2 g2 w2 S2 _ q2 => (L.trans S.bs (.of g1) .refl).nx F2 H2 σ2 ρ2 (.of g2) w2 S2 q2
theorem ds_own (i : Nat) {x : Str} {p : Pos} {es : List Expr} {pl : Pos} {zr : TA} {dr : DA} (hN : X.N.Nodup) (ha : DAX X W es zr dr) (hi : X.N[i]? = some x := by rfl) (hx : Loc X.env.scope x := by first | exact .inl rfl | exact .inr rfl)
    (hf : X.fn x = true ∨ X.env.scope.names.lookup x = some .local := by first | exact .inl rfl | exact .inr rfl | assumption) (hs : swapsWithSole [.Name x p] (.List es pl) pos.line X.env = pure false := by rfl) (hw : swappedStores [.Name x p] (.List es pl) X.env = pure none := by rfl) :
    DSX X W (.Assign [.Name x p] (.List es pl) pos) (tAsg (tLst zr) (gName i)) (dOwn i dr) := by
  obtain ⟨pa, sa⟩ := ha
  refine ⟨ps_asg (pe_lst pa) (pg_name hN hi hx hf) hs hw, fun D ρ h l0 F H σ S C L => ?_⟩
  refine sa ρ _ _ h l0 F H σ S _ (fun xs ss F1 H1 g1 r1 q1 => ?_) (L.kx S)
  obtain ⟨z, q1⟩ := q1
  obtain ⟨ds, e, q⟩ := plain_of q1
  subst e
  refine ⟨by rw [pairs_len r1]; exact Evl.sz_of z, fun l hl => ?_⟩
  have S1 := S.go g1
  exact (L.trans S.bs (.of g1) .refl).nx F1 _ _ _ (.of (Go.loose g1.bs (.lst xs) hl)) (.putOwn i hl) (S1.putOwn i hl (dens_of r1)) q
theorem ds_app (i : Nat) {x : Str} {p pa pc : Pos} (he : DEX X W e xe de) (hN : X.N[i]? = some x := by rfl) (hv : Vis X.env.scope x := by first | exact Or.inl rfl | exact Or.inr (Or.inl rfl) | exact Or.inr (Or.inr rfl)) (hd : (x == ("__debug__" : Str)) = false := by decide)
    (hcd : (x == ("__classdict__" : Str)) = false := by decide) (hst : starEach (e :: []) X.env = (false, eval e X.env) :: starEach [] X.env := by rfl) (hpl : (backTo pc (starEach [] X.env)).any (·.1) = false := by rfl)
    (hbase : attributeBase (.Name x p) "append" X.env (eval (.Name x p) X.env) = eval (.Name x p) X.env := by rfl)
    (hfew : ((backTo pc (starEach (e :: []) X.env)).all (fun x => !x.1) && (backToKw pc (keywordEach [] X.env)).all (fun x => x.1.isSome)
      && decide ((e :: []).length + ([] : List Keyword).length + (if ([] : List Keyword).isEmpty then 0 else 1) < 30)) = true := by rfl) (hline : (pa.endLine == pc.line) = true := by rfl)
    (hs : swapsWith (.Call (.Attribute (.Name x p) "append" pa) [e] [] pc) none pos.line X.env = pure false := by rfl) : DSX X W (.Expr (.Call (.Attribute (.Name x p) "append" pa) [e] [] pc) pos) (tDrop (tBM X.K "list" rAppend (tVar i) (tCons xe tNil))) (dApp i de) := by
  obtain ⟨pe, se⟩ := he
  refine ⟨ps_expr (pe_bm PySem.F.plainAttrs_list PySem.F.slot_list_append PySem.F.type_list_append mt_append (pe_var hN hv hd hcd) (pa_cons pe pa_nil hst) hbase hfew hline hst hpl) hs, fun D ρ h l0 F H σ S C L => ?_⟩
  unfold dApp at h
  split at h
  · rename_i ds e0
    have e1 := getD_own e0
    obtain ⟨l, xs, hσ, hF, n0, hl, r⟩ := S.own e1
    refine ⟨_, hσ, .inl ⟨rfl, xs, SqL.of hl⟩, ?_⟩
    refine se ρ _ _ h l0 F H σ S _ (fun v s F1 H1 g1 r1 q1 => ?_) (L.kx S)
    obtain ⟨d, e, z, q⟩ := datS_of q1
    subst e
    have S1 := S.go g1
    obtain ⟨l1, xs1, hσ1, hF1, n1, hl1, rr⟩ := S1.own e1
    rw [hσ] at hσ1
    cases hσ1
    obtain ⟨S2, g2, w2⟩ := S1.mut (xs := xs1) e1 hσ hF1 n1 (rr.append (Dens.one r1))
    exact ⟨l, xs1, v, rfl, rfl, hl1, by rw [rr.length]; exact Nat.lt_of_le_of_lt z (by decide), (L.trans S.bs (.of g1) .refl).nx F1 _ σ _ g2 w2 S2 q⟩
  · exact h.elim
theorem ds_for {it : Expr} {body : List Stmt} {wi : TI} {g' : TG} {di : DI} {g : DG} {ns : List Nat} (hp : PassesOwn (model X.prog X.w) X.A X.env X.xe) (hc : X.calm = true) (hi : DIX X W tg it wi di) (hg : DGX X tg ns g' g) (hb : DSSX X W body va t) (hs : ∀ x, foldedSetIterable it X.env x = pure x := by intro _; rfl) :
    DSX X W (.For tg it body [] pos) (tFor wi g' va) (dFor di g t) := by
  obtain ⟨pi, si⟩ := hi
  obtain ⟨pg, sg⟩ := hg
  obtain ⟨p1, s1⟩ := hb
  refine ⟨ps_for hp hc pi pg p1 hs, fun D ρ h l0 F H σ S C L => ?_⟩
  refine si ρ _ _ h l0 F H σ S _ (fun J ds F1 H1 g1 wl q1 => ?_) (L.kx S)
  obtain ⟨P, q0, qt, qe⟩ := q1
  refine ⟨fun i m σ' H' => m = ds.length - i ∧ i ≤ ds.length ∧ ∃ F' ρ', Same F1 F' ∧ P i ρ' ∧ Stt X.K l0 F' H' σ' ρ' ∧ GoS l0 F H σ ρ F' H' ∧ OwS H σ ρ σ' ρ', ⟨ds.length, by simp, Nat.zero_le _, F1, ρ, fun _ _ h => h, q0, S.go g1, .of g1, .refl⟩, ?_⟩
  rintro i m σ2 H2 ⟨rfl, hi, F2, ρ2, ex2, q2, S2, g2, w2⟩
  by_cases hlt : i < ds.length
  · refine .inr ⟨wl.go i F2 H2 ex2 S2.bs hlt, fun σ' H' => ∃ F' ρ', Same F1 F' ∧ P (i + 1) ρ' ∧ Stt X.K l0 F' H' σ' ρ' ∧ GoS l0 F H σ ρ F' H' ∧ OwS H σ ρ σ' ρ', fun σ' H' z => ⟨ds.length - (i + 1), by omega, rfl, hlt, z⟩, fun x H3 y => ?_⟩
    obtain ⟨F3, d, g3, hd, r3⟩ := wl.yld i F2 H2 x H3 ex2 S2.bs hlt y
    have q2 := qt i d ρ2 hd q2
    have g23 := g2.trans S.bs w2 (.of g3)
    have L3 := L.trans S.bs g23 w2
    refine sg (.dat d) ρ2 _ q2 l0 F3 H3 σ2 x (S2.go g3) r3 _ fun F4 H4 σ4 ρ4 g4 w4 S4 _ q4 => ?_
    have g24 := g23.trans S.bs w2 (.of g4)
    have w24 := OwS.trans S.bs g23 w2 w4
    have L4 := L.trans S.bs g24 w24
    have nx : ∀ F' H' σ' ρ', GoS l0 F4 H4 σ4 ρ4 F' H' → OwS H4 σ4 ρ4 σ' ρ' → Stt X.K l0 F' H' σ' ρ' → P (i + 1) ρ' → ∃ F' ρ', Same F1 F' ∧ P (i + 1) ρ' ∧ Stt X.K l0 F' H' σ' ρ' ∧ GoS l0 F H σ ρ F' H' ∧ OwS H σ ρ σ' ρ' := fun F' H' σ' ρ' g' w' S' q' =>
      ⟨F', ρ', fun a o z => g'.ex a o (g4.ex a o (g3.ex a o (ex2 a o z))), q', S', g24.trans S.bs w24 g', OwS.trans S.bs g24 w24 w'⟩
    exact s1 _ ρ4 q4 l0 F4 H4 σ4 S4 _ ⟨nx, L4.rt, L4.nx, nx, L4.ex, L4.rs⟩
  · have e : i = ds.length := by omega
    subst e
    have q2 := qe ρ2 q2
    exact .inl ⟨wl.stop F2 H2 ex2 S2.bs, (L.trans S.bs g2 w2).nx F2 H2 σ2 ρ2 (.of (.refl S2.bs)) .refl S2 q2⟩
end
end DW

set_option Elab.async false
set_option linter.all false
set_option maxRecDepth 100000
namespace DW
open PySem PySem.Spec PyProof.Rows L2
abbrev W0 : WX := fun _ _ _ _ => False
abbrev Sd := List Dt → (Dt → Prop) → (Xn → Prop) → Prop
def spOf (K : PySem.W.Frag) (sd : Sd) : Sp := fun vs H Q E => ∃ l0 F ds Qd Ed, Base l0 F H ∧ Dens K l0 F vs ds ∧ sd ds Qd Ed ∧
  (∀ v d F' H', Go l0 F H F' H' → Den K l0 F' v d → Qd d → Q v H') ∧ (∀ cls dct x F' H', Go l0 F H F' H' → XDen K l0 F' H' cls dct x → Ed x → E cls dct H')
def viewS : List Sl → Option (List Dt)
  | [] => some []
  | .dat d :: r => (viewS r).map (d :: ·)
  | .own ds :: r => (viewS r).map (.lst ds :: ·)
  | _ :: _ => none
def anyOwn : List Sl → Bool
  | [] => false
  | .dat _ :: r => anyOwn r
  | _ :: _ => true
def callD (sd : Sd) (ss : List Sl) (Q : Sl → Prop) (E : Xn → Prop) : Prop := match viewS ss, anyOwn ss with
  | some ds, false => sd ds (fun d => Q (.dat d)) E
  | some ds, true => sd ds (fun d => ∃ x, d = .v x ∧ Q (.dat d)) (fun _ => False)
  | none, _ => False
def dCall (sd : Sd) (dd : List Dt) (da : DA) : DE := fun ρ Q E => da ρ (fun ss => callD sd (ss ++ dd.map Sl.dat) Q E) E
def viewEn (ρ : En) : En := ρ.map fun s => match s with
  | .own ds => .dat (.lst ds)
  | .oob p0 C fs => .emp
  | .odc kvs => .emp
  | .tre t => .emp
  | s => s
section
variable {K : PySem.W.Frag} {W : WX} {l0 : Addr} {F H F' H' : Hp} {σ : L2.St} {ρ : En}
theorem pairs_app {α β : Type} {R : α → β → Prop} : ∀ {xs ys : List α} {us ws : List β}, Paired R xs us → Paired R ys ws → Paired R (xs ++ ys) (us ++ ws)
  | [], _, [], _, .nil, s => s
  | _ :: _, _, _ :: _, _, .cons r t, s => .cons r (pairs_app t s)
def allOf (l0 : Addr) (H : Hp) : Hp := fun a => if a = l0 then none else H a
theorem allOf_same (b : Base l0 F H) : Same F (allOf l0 H) := fun a o e => by
  unfold allOf
  by_cases q : a = l0
  · subst q
    rw [b.nf] at e
    cases e
  · rw [if_neg q]
    exact b.sub a o e
theorem allOf_base (b : Base l0 F H) : Base l0 (allOf l0 H) H := by
  refine ⟨fun a o e => ?_, if_pos rfl, b.dr⟩
  unfold allOf at e
  by_cases q : a = l0
  · rw [if_pos q] at e
    cases e
  · rw [if_neg q] at e
    exact e
theorem Go.back (b : Base l0 F H) (g : Go l0 (allOf l0 H) H F' H') : Go l0 F H F H' := by
  refine ⟨⟨fun a o e => ?_, b.nf, g.bs.dr⟩, fun _ _ h => h, fun a h1 h2 => absurd h1 h2, g.keep⟩
  exact g.bs.sub a o (g.ex a o (allOf_same b a o e))
theorem view_dens (b : Base l0 F H) : ∀ {vs : List V} {ss : List Sl} {ds : List Dt}, Paired (SlV K l0 F H) vs ss → viewS ss = some ds → Dens K l0 (allOf l0 H) vs ds
  | [], [], _, .nil, e => by cases e; exact .nil
  | v :: vs, .dat d :: ss, ds, .cons r t, e => by
    have e : (viewS ss).map (d :: ·) = some ds := e
    cases q : viewS ss with
    | none => rw [q] at e; cases e
    | some es =>
      rw [q] at e
      cases e
      exact .cons (Den.mono (allOf_same b) r) (view_dens b t q)
  | v :: vs, .own xs :: ss, ds, .cons r t, e => by
    have e : (viewS ss).map (.lst xs :: ·) = some ds := e
    cases q : viewS ss with
    | none => rw [q] at e; cases e
    | some es =>
      rw [q] at e
      cases e
      obtain ⟨l, ys, e1, _, n0, hl, r2⟩ := r
      subst e1
      refine .cons (.lst (.inl ?_) (Dens.mono (allOf_same b) r2)) (view_dens b t q)
      unfold allOf
      rw [if_neg n0]
      exact hl
  | v :: vs, .emp :: ss, ds, .cons r t, e => r.elim
  | v :: vs, .oob _ _ _ :: ss, ds, .cons r t, e => by cases e
  | v :: vs, .odc _ :: ss, ds, .cons r t, e => by cases e
theorem no_own : ∀ {vs : List V} {ss : List Sl} {ds : List Dt}, Paired (SlV K l0 F H) vs ss → anyOwn ss = false → viewS ss = some ds → Dens K l0 F vs ds
  | [], [], _, .nil, _, e => by cases e; exact .nil
  | v :: vs, .dat d :: ss, ds, .cons r t, n, e => by
    have e : (viewS ss).map (d :: ·) = some ds := e
    cases q : viewS ss with
    | none => rw [q] at e; cases e
    | some es =>
      rw [q] at e
      cases e
      exact .cons r (no_own t n q)
  | v :: vs, .own xs :: ss, ds, .cons r t, n, e => by cases n
  | v :: vs, .emp :: ss, ds, .cons r t, n, e => by cases n
  | v :: vs, .oob _ _ _ :: ss, ds, .cons r t, n, e => by cases n
  | v :: vs, .odc _ :: ss, ds, .cons r t, n, e => by cases n
theorem snd_call {sd : Sd} {dvs : List V} {dd : List Dt} {ta : TA} {da : DA} (hd : ∀ l0 F, Dens K l0 F dvs dd) (sa : SndA K W ta da) : SndE K W (tCallSD (spOf K sd) dvs (WE W) ta) (dCall sd dd da) := fun ρ Q E h l0 F H σ S Qc k kx => by
  refine sa ρ _ E h l0 F H σ S _ (fun vs ss F1 H1 g1 r1 q1 => ?_) kx
  have r2 : Paired (SlV K l0 F1 H1) (vs ++ dvs) (ss ++ dd.map Sl.dat) := pairs_app r1 (of_dens (hd l0 F1))
  unfold callD at q1
  split at q1
  · rename_i ds e1 e2
    refine ⟨l0, F1, ds, _, E, g1.bs, no_own r2 e2 e1, q1, fun v d F' H' g r q => ?_, fun cls dct x F' H' g r q => ?_⟩
    · exact k v (.dat d) F' H' (g1.trans g) r q
    · exact kx cls dct x F' H' (g1.trans g) r q
  · rename_i ds e1 e2
    refine ⟨l0, allOf l0 H1, ds, _, _, allOf_base g1.bs, view_dens g1.bs r2 e1, q1, fun v d F' H' g r q => ?_, fun cls dct x F' H' g r q => q.elim⟩
    obtain ⟨x, e, q⟩ := q
    subst e
    exact k v (.dat (.v x)) F1 H' (g1.trans (g.back g1.bs)) (by cases r; exact Den.v _) q
  · exact q1.elim
theorem Stt.view (S : Stt K l0 F H σ ρ) : Stt K l0 (allOf l0 H) H σ (viewEn ρ) := by
  refine ⟨allOf_base S.bs, by unfold viewEn; rw [List.length_map]; exact S.len, fun i s e => ?_, fun i j s t a h1 h2 ⟨o1, e1⟩ ⟨o2, e2⟩ => ?_⟩
  · unfold viewEn at e
    rw [List.getElem?_map] at e
    cases q : ρ[i]? with
    | none => rw [q] at e; cases e
    | some u =>
      rw [q] at e
      have e := Option.some.inj e
      rcases S.sl i u q with z | ⟨v, h1, h2⟩
      · subst z
        subst e
        exact .inl rfl
      · cases u with
        | emp => exact h2.elim
        | dat d =>
          subst e
          exact .inr ⟨v, h1, Den.mono (allOf_same S.bs) h2⟩
        | oob p0 C fs =>
          subst e
          exact .inl rfl
        | odc kvs =>
          subst e
          exact .inl rfl
        | tre t =>
          subst e
          exact .inl rfl
        | own ds =>
          subst e
          obtain ⟨l, xs, e1, _, n0, hl, r⟩ := h2
          subst e1
          refine .inr ⟨.ref l, h1, Den.lst (.inl ?_) (Dens.mono (allOf_same S.bs) r)⟩
          unfold allOf
          rw [if_neg n0]
          exact hl
  · unfold viewEn at h1
    rw [List.getElem?_map] at h1
    cases q : ρ[i]? with
    | none => rw [q] at h1; cases h1
    | some u =>
      rw [q] at h1
      have h1 := Option.some.inj h1
      cases u <;> subst h1 <;> cases o1
end

section
variable {X : Cx} {W : WX} {a b c e tg : Expr} {xa xb xc xe : TE} {ya yb : TT} {va vb : TS} {da db dc de : DE} {pos : Pos} {ta tb : DTt} {st : Stmt} {rest : List Stmt} {t u : DS}
theorem de_call {k : Nat} {f : Addr} {fd : FuncData} {ps : List Str} {sd : Sd} {dvs : List V} {ds : List Value} {dd : List Dt} {x : Str} {p : Pos} {es : List Expr} {zr : TA} {dr : DA} (F : FnOk X.prog X.w X.K X.mg X.base (L2.CX X.prog X.w) k f fd ps (spOf X.K sd)) (tk : Takes X W) (hr : Room k X.A) (hg : Gl X x) (hm : X.mg x = some (.ref f))
    (hk : PySem.W.keepIn X.K (.ref f) = true) (hb : Binds X.K fd ps ds) (hd : Vals dvs ds) (hdd : ∀ l0 F, Dens X.K l0 F dvs dd) (ha : DAX X W (e :: es) zr dr) (hdb : (x == ("__debug__" : Str)) = false := by decide)
    (he : starEach (e :: es) X.env = (false, eval e X.env) :: starEach es X.env := by rfl) (hpl : (backTo pos (starEach es X.env)).any (·.1) = false := by rfl) :
    DEX X W (.Call (.Name x p) (e :: es) [] pos) (tCallSD (spOf X.K sd) dvs (WE W) zr) (dCall sd dd dr) :=
  ⟨pe_callSD F hr hg hm hk hb hd (fun σ => passAt tk σ) ha.1 hdb he hpl, snd_call hdd ha.2⟩
theorem dd_nil {K : PySem.W.Frag} : ∀ l0 F, Dens K l0 F [] [] := fun _ _ => .nil
def DTsX (X : Cx) (W : WX) (ifs : List Expr) (tt : TT) (dt : DTt) : Prop := PTs X ifs tt ∧ SndT X.K W tt dt
theorem dts_nil : DTsX X W [] tYes dYes := ⟨pts_nil, fun ρ Q E h l0 F H σ S Qc k _ => k true F H (.refl S.bs) h⟩
theorem Stt.forget {K : PySem.W.Frag} {l0 : Addr} {F H : Hp} {σ : L2.St} {ρ : En} (S : Stt K l0 F H σ ρ) (i : Nat) : Stt K l0 F H (σ.set i none) (ρ.set i .emp) := by
  have back : ∀ {j : Nat} {s : Sl}, (ρ.set i .emp)[j]? = some s → s.isOwn = true → ρ[j]? = some s ∧ i ≠ j := fun {j s} h o => by
    by_cases q : i = j
    · subst q
      by_cases z : i < ρ.length
      · rw [List.getElem?_set_self z] at h
        cases h
        cases o
      · rw [List.getElem?_eq_none (by rw [List.length_set]; omega)] at h
        cases h
    · rw [List.getElem?_set_ne q] at h
      exact ⟨h, q⟩
  refine ⟨S.bs, by rw [List.length_set, List.length_set]; exact S.len, fun j s h => ?_, fun j k s t a h1 h2 ⟨o1, e1⟩ ⟨o2, e2⟩ => ?_⟩
  · by_cases q : i = j
    · subst q
      by_cases z : i < ρ.length
      · rw [List.getElem?_set_self z] at h
        cases h
        exact .inl rfl
      · rw [List.getElem?_eq_none (by rw [List.length_set]; omega)] at h
        cases h
    · rw [List.getElem?_set_ne q] at h
      rw [List.getElem?_set_ne q]
      exact S.sl j s h
  · obtain ⟨z1, n1⟩ := back h1 o1
    obtain ⟨z2, n2⟩ := back h2 o2
    rw [List.getElem?_set_ne n1] at e1
    rw [List.getElem?_set_ne n2] at e2
    exact S.ap2 j k s t a z1 z2 ⟨o1, e1⟩ ⟨o2, e2⟩
theorem Stt.wipe {K : PySem.W.Frag} {l0 : Addr} {F H : Hp} {σ : L2.St} {ρ : En} (S : Stt K l0 F H σ ρ) : ∀ vs : List Nat, Stt K l0 F H (L2.wipe σ vs) (wipeD ρ vs)
  | [] => S
  | v :: vs => (S.wipe vs).forget v
theorem Go.modNew {l0 D : Addr} {F1 H1 F H : Hp} {o : HO} (g : Go l0 F1 H1 F H) (hD : H1 D = none) (hF : F D = none) (n0 : D ≠ l0) : Go l0 F1 H1 F (upd H D o) := by
  refine ⟨⟨fun a u e => ?_, g.bs.nf, ?_⟩, g.ex, g.new, fun a u n e => ?_⟩
  · rw [upd_ne (ne_of_none e hF)]
    exact g.bs.sub a u e
  · obtain ⟨ns, h1, h2⟩ := g.bs.dr
    exact ⟨ns, by rw [upd_ne n0.symm]; exact h1, h2⟩
  · rw [upd_ne (ne_of_none e hD)]
    exact g.keep a u n e
theorem Go.frzNew {l0 D : Addr} {F1 H1 F H : Hp} {o : HO} (g : Go l0 F1 H1 F H) (hD : H1 D = none) (hF : F D = none) (n0 : D ≠ l0) (ho : H D = some o) : Go l0 F1 H1 (upd F D o) H := by
  refine ⟨⟨fun a u e => ?_, by rw [upd_ne n0.symm]; exact g.bs.nf, g.bs.dr⟩, fun a u e => ?_, fun a h1 h2 => ?_, g.keep⟩
  · by_cases q : a = D
    · subst q
      rw [upd_same] at e
      cases e
      exact ho
    · rw [upd_ne q] at e
      exact g.bs.sub a u e
  · rw [upd_ne (ne_of_none (g.ex a u e) hF)]
    exact g.ex a u e
  · by_cases q : a = D
    · subst q
      exact hD
    · rw [upd_ne q] at h2
      exact g.new a h1 h2
theorem Go.stays {l0 D : Addr} {F H F' H' : Hp} {o : HO} (g : Go l0 F H F' H') (hF : F D = none) (hH : H D = some o) : F' D = none := by
  cases e : F' D with
  | none => rfl
  | some u =>
    have z := g.new D hF (by rw [e]; exact fun z => nomatch z)
    rw [hH] at z
    cases z
theorem snd_lc {K : PySem.W.Frag} {wi : TI} {g : TG} {tt : TT} {te : TE} {di : DI} {dg : DG} {dt : DTt} {de : DE} {ts vs : List Nat} (hv : ∀ j ∈ ts, j ∈ vs) (si : SndI K W wi di) (sg : SndG K ts g dg) (st : SndT K W0 tt dt) (se : SndE K W0 te de) :
    SndE K W (tLc wi g tt te vs) (dLc di dg dt de vs) := fun ρ Q E h l0 F H σ S Qc k kx => by
  refine si ρ _ _ h l0 F H σ S _ (fun J ds F1 H1 g1 wl q1 => ?_) kx
  intro D hD
  have n0 : D ≠ l0 := fun e => g1.bs.live (by rw [← e]; exact hD)
  have FD : F1 D = none := by
    cases e : F1 D with
    | none => rfl
    | some u =>
      rw [g1.bs.sub D u e] at hD
      cases hD
  have S1 := S.go g1
  have noX : ∀ {F H σ}, KX K W0 l0 F H σ fun _ => False := fun _ _ _ _ _ _ _ z => z.elim
  obtain ⟨P, q0, qt, qe⟩ := q1
  refine ⟨fun i m H' => m = ds.length - i ∧ i ≤ ds.length ∧ ∃ F' acc xs, Go l0 F1 H1 F' H' ∧ F' D = none ∧ H' D = some (.lst xs) ∧ Dens K l0 F' xs acc ∧ P i acc, ⟨ds.length, by simp, Nat.zero_le _, F1, [], [], Go.loose g1.bs (.lst []) hD, FD, upd_same, .nil, q0⟩, ?_⟩
  rintro i m H2 ⟨rfl, hi, F2, acc, xs, g2, hF2, hD2, r2, q2⟩
  by_cases hlt : i < ds.length
  · refine .inr ⟨wl.go i F2 H2 g2.ex g2.bs hlt, fun H' => ∃ F' acc xs, Go l0 F1 H1 F' H' ∧ F' D = none ∧ H' D = some (.lst xs) ∧ Dens K l0 F' xs acc ∧ P (i + 1) acc, fun H' z => ⟨ds.length - (i + 1), by omega, rfl, hlt, z⟩, fun x H3 y => ?_⟩
    obtain ⟨F3, d, g3, hd, r3⟩ := wl.yld i F2 H2 x H3 g2.ex g2.bs hlt y
    have q2 := qt i d acc hd q2
    have g13 := g2.trans g3
    refine sg (.dat d) _ _ q2 l0 F3 H3 _ x ((S1.go g13).wipe vs) r3 _ fun F4 H4 σ4 ρ4 g4 w4 S4 z4 q4 => ?_
    refine ⟨(z4 vs hv).trans wipe_twice, ?_⟩
    refine st ρ4 _ _ q4 l0 F4 H4 σ4 S4 _ (fun b F5 H5 g5 q5 => ?_) noX
    have g25 := (g3.trans g4).trans g5
    have g15 := g2.trans g25
    have hF5 := g25.stays hF2 hD2
    have hD5 := g25.keep D _ n0 hD2
    have r5 := Dens.mono g25.ex r2
    cases b with
    | true =>
      rw [if_pos rfl] at q5 ⊢
      refine se ρ4 _ _ q5 l0 F5 H5 σ4 (S4.go g5) _ (fun v s F6 H6 g6 r6 q6 => ?_) noX
      obtain ⟨d6, e, z, q⟩ := datS_of q6
      subst e
      have hF6 := g6.stays hF5 hD5
      have hD6 := g6.keep D _ n0 hD5
      refine ⟨xs, hD6, by rw [r5.length]; exact Nat.lt_of_le_of_lt z (by decide), F6, _, _, (g15.trans g6).modNew hD hF6 n0, hF6, upd_same, (Dens.mono g6.ex r5).append (Dens.one r6), q⟩
    | false =>
      rw [if_neg Bool.false_ne_true] at q5 ⊢
      exact ⟨F5, acc, xs, g15, hF5, hD5, r5, q5⟩
  · have e : i = ds.length := by omega
    subst e
    have q2 := qe acc q2
    refine .inl ⟨wl.stop F2 H2 g2.ex g2.bs, ?_⟩
    have g := g2.frzNew hD hF2 n0 hD2
    exact k (.ref D) (.dat (.lst acc)) _ _ (g1.trans g) (Den.lst (.inl upd_same) (Dens.mono (fun a u e => by rw [upd_ne (ne_of_none e hF2)]; exact e) r2)) q2
theorem de_lc {elt iter : Expr} {ifs : List Expr} {scope : Scope} {own : List (Str × Nat)} {wi : TI} {g : TG} {tt : Shared → Hp → Addr → List (Str × Addr) → List Addr → TT} {te : Shared → Hp → Addr → List (Str × Addr) → List Addr → TE} {di : DI} {dg : DG} {dt : DTt} {ns : List Nat} (hc : X.calm = true) (hN : X.N.Nodup) (hi : DIX X W tg iter wi di) (ok : BlkOk X.N X.env.scope scope own)
    (hg : ∀ (s : Shared) (H : Hp) (C : Addr) (cl : List (Str × Addr)) (fp : List Addr), DGX (X.blk s H scope (compEnvC scope cl C X.env) fp) tg ns g dg) (ht : ∀ (s : Shared) (H : Hp) (C : Addr) (cl : List (Str × Addr)) (fp : List Addr), DTsX (X.blk s H scope (compEnvC scope cl C X.env) fp) W0 ifs (tt s H C cl fp) dt)
    (he : ∀ (s : Shared) (H : Hp) (C : Addr) (cl : List (Str × Addr)) (fp : List Addr), DEX (X.blk s H scope (compEnvC scope cl C X.env) fp) W0 elt (te s H C cl fp) de) (ett : ∀ (s : Shared) (H : Hp) (C : Addr) (cl : List (Str × Addr)) (fp : List Addr), tt s H C cl fp = tt X.s_0 X.H_0 0 [] [] := by intros; rfl) (ete : ∀ (s : Shared) (H : Hp) (C : Addr) (cl : List (Str × Addr)) (fp : List Addr), te s H C cl fp = te X.s_0 X.H_0 0 [] [] := by intros; rfl) (hv : ∀ j ∈ ns, j ∈ own.map (·.2) := by decide) (hs : ∀ x, foldedSetIterable iter X.env x = pure x := by intro _; rfl) :
    DEX X W (.ListComp elt [⟨tg, iter, ifs, 0⟩] scope pos) (tLc wi g (tt X.s_0 X.H_0 0 [] []) (te X.s_0 X.H_0 0 [] []) (own.map (·.2))) (dLc di dg dt de (own.map (·.2))) :=
  ⟨pe_lc hc hN hi.1 ok (fun s H C cl fp => (hg s H C cl fp).1) (fun s H C cl fp => ett s H C cl fp ▸ (ht s H C cl fp).1) (fun s H C cl fp => ete s H C cl fp ▸ (he s H C cl fp).1) hs,
    snd_lc hv hi.2 (hg X.s_0 X.H_0 0 [] []).2 (ht X.s_0 X.H_0 0 [] []).2 (he X.s_0 X.H_0 0 [] []).2⟩
theorem ds_pop (i j : Nat) {x y : Str} {p p2 pa pc : Pos} (hNd : X.N.Nodup) (hN : X.N[i]? = some y := by rfl) (hv : Vis X.env.scope y := by first | exact Or.inl rfl | exact Or.inr (Or.inl rfl) | exact Or.inr (Or.inr rfl)) (hd : (y == ("__debug__" : Str)) = false := by decide)
    (hcd : (y == ("__classdict__" : Str)) = false := by decide) (hj : X.N[j]? = some x := by rfl) (hx : Loc X.env.scope x := by first | exact .inl rfl | exact .inr rfl) (hf : X.fn x = true ∨ X.env.scope.names.lookup x = some .local := by first | exact .inl rfl | exact .inr rfl | assumption)
    (hbase : attributeBase (.Name y p2) "pop" X.env (eval (.Name y p2) X.env) = eval (.Name y p2) X.env := by rfl) (hline : (pa.endLine == pc.line) = true := by rfl)
    (hs : swapsWithSole [.Name x p] (.Call (.Attribute (.Name y p2) "pop" pa) [] [] pc) pos.line X.env = pure false := by rfl) (hw : swappedStores [.Name x p] (.Call (.Attribute (.Name y p2) "pop" pa) [] [] pc) X.env = pure none := by rfl) :
    DSX X W (.Assign [.Name x p] (.Call (.Attribute (.Name y p2) "pop" pa) [] [] pc) pos) (tAsg (tBM0 X.K "list" rPop (tVar i)) (gName j)) (dPop i j) := by
  refine ⟨ps_asg (pe_bm0 PySem.F.plainAttrs_list PySem.F.slot_list_pop PySem.F.type_list_pop mt_pop (pe_var hN hv hd hcd) hbase hline) (pg_name hNd hj hx hf) hs hw, fun D ρ h l0 F H σ S C L => ?_⟩
  unfold dPop at h
  split at h
  · rename_i ds e0
    obtain ⟨es, d, e, q⟩ := h
    subst e
    have e1 := getD_own e0
    obtain ⟨l, xs, hσ, hF, n0, hl, r⟩ := S.own e1
    have last : ∃ ys y, xs = ys ++ [y] ∧ Dens X.K l0 F ys es ∧ Den X.K l0 F y d := by
      have hlen := r.length
      rw [List.length_append, List.length_singleton] at hlen
      obtain ⟨y, h1, h2⟩ := r.get (i := es.length) (d := d) (by simp)
      refine ⟨xs.take es.length, y, ?_, ?_, h2⟩
      · apply List.ext_getElem?
        intro k
        rcases Nat.lt_trichotomy k es.length with z | z | z
        · rw [List.getElem?_append_left (by rw [List.length_take]; omega), List.getElem?_take_of_lt z]
        · subst z
          rw [List.getElem?_append_right (by rw [List.length_take]; omega), List.length_take, Nat.min_eq_left (by omega), Nat.sub_self, h1]
          rfl
        · rw [List.getElem?_eq_none (by omega), List.getElem?_eq_none (by rw [List.length_append, List.length_take, List.length_singleton]; omega)]
      · clear h1 h2 hl hσ hlen L C q e0 e1 S
        induction es generalizing xs with
        | nil => exact .nil
        | cons a es ih =>
          cases r with
          | cons h t =>
            rw [List.length_cons, List.take_succ_cons]
            exact .cons h (ih _ t)
    obtain ⟨ys, y, e, ry, rd⟩ := last
    subst e
    obtain ⟨S2, g2, w2⟩ := S.mut (ys := ys) (xs := ys ++ [y]) e1 hσ hF n0 ry
    refine ⟨_, hσ, .inl ⟨rfl, _, SqL.of hl⟩, l, _, y, rfl, rfl, hl, by simp, ?_⟩
    rw [List.dropLast_concat]
    exact (L.trans S.bs g2 w2).nx F _ _ _ (.of (.refl S2.bs)) (.put j) (S2.put j rd) q
  · exact h.elim
end

def startD (n : Nat) (ds : List Dt) : En := ds.map Sl.dat ++ List.replicate (n - ds.length) .emp
theorem Stt.start {K : PySem.W.Frag} {l0 : Addr} {F H : Hp} {N : List Str} {vs : List V} {ds : List Dt} (b : Base l0 F H) (r : Dens K l0 F vs ds) : Stt K l0 F H (L2.start N vs) (startD N.length ds) := by
  have el := r.length
  have noOwn : ∀ {i : Nat} {s : Sl}, (startD N.length ds)[i]? = some s → s.isOwn = true → False := fun {i s} h o => by
    unfold startD at h
    by_cases z : i < ds.length
    · rw [List.getElem?_append_left (by rw [List.length_map]; exact z), List.getElem?_map] at h
      cases e : ds[i]? with
      | none => rw [e] at h; cases h
      | some d =>
        rw [e] at h
        cases h
        cases o
    · rw [List.getElem?_append_right (by rw [List.length_map]; omega)] at h
      have := List.mem_of_getElem? h
      rw [List.eq_of_mem_replicate this] at o
      cases o
  refine ⟨b, ?_, fun i s h => ?_, fun i j s t a h1 _ o1 _ => (noOwn h1 o1.1).elim⟩
  · unfold startD L2.start
    rw [List.length_append, List.length_append, List.length_map, List.length_map, List.length_replicate, List.length_replicate, el]
  · unfold startD at h
    by_cases z : i < ds.length
    · rw [List.getElem?_append_left (by rw [List.length_map]; exact z), List.getElem?_map] at h
      cases e : ds[i]? with
      | none => rw [e] at h; cases h
      | some d =>
        rw [e] at h
        cases h
        obtain ⟨x, h1, h2⟩ := r.get e
        refine .inr ⟨x, ?_, h2⟩
        unfold L2.start
        rw [List.getElem?_append_left (by rw [List.length_map, el]; exact z), List.getElem?_map, h1]
        rfl
    · rw [List.getElem?_append_right (by rw [List.length_map]; omega)] at h
      exact .inl (List.eq_of_mem_replicate (List.mem_of_getElem? h))
theorem GoS.go {l0 : Addr} {F H F' H' : Hp} {σ : L2.St} {ρ : En} (g : GoS l0 F H σ ρ F' H') (no : ∀ a, ¬ Ow σ ρ a) : Go l0 F H F' H' :=
  ⟨g.bs, g.ex, fun a h1 h2 => (g.new a h1 h2).elim id fun z => absurd z (no a), fun a o n e => g.keep a o n (no a) e⟩
theorem start_noOw {n : Nat} {ds : List Dt} {σ : L2.St} (a : Addr) : ¬ Ow σ (startD n ds) a := fun ⟨i, s, h, o, _⟩ => by
  unfold startD at h
  by_cases z : i < ds.length
  · rw [List.getElem?_append_left (by rw [List.length_map]; exact z), List.getElem?_map] at h
    cases e : ds[i]? with
    | none => rw [e] at h; cases h
    | some d =>
      rw [e] at h
      cases h
      cases o
  · rw [List.getElem?_append_right (by rw [List.length_map]; omega)] at h
    have := List.mem_of_getElem? h
    rw [List.eq_of_mem_replicate this] at o
    cases o
def dEnds (Q : Dt → Prop) (E : Xn → Prop) : DEnds := { nx := fun _ => Q .non, rt := Q, bk := fun _ => False, ct := fun _ => False, ex := fun x _ => E x }
theorem fn_d {P : Program} {w : World} {K : PySem.W.Frag} {mg : Str → Option Value} {base : Heap} {x qual : Str} {params : Arguments} {body : List Stmt} {scope : Scope} {dvs : List V} {kws : List (Str × V)} {f : Addr} {fd : FuncData} {N ps : List Str} {k : Nat} {sd : Sd} {ds : DS}
    (F : FunD K x qual params body scope dvs kws f fd) (S : FnScope N ps scope) (len : ∀ as Q E, sd as Q E → as.length = ps.length)
    (hb : ∀ (cdv : Value) (A : Around) (outer : List Env) (s : Shared) (H : Hp) (E : XK), Room k (A.deeper (envOfC qual scope s.heap.objs.size f cdv)) →
      ∃ ts, DSSX (cxOf (L2.CX P w) P w K mg base N qual scope f cdv A outer s H E) (fun cls d _ H => E cls d H) body ts ds)
    (hp : ∀ as Q E, sd as Q E → ds (dEnds Q E) (startD N.length as)) : FnOk P w K mg base (L2.CX P w) (k + 1) f fd ps (spOf K sd) := by
  refine F.ok S (fun vs H Q E h => ?_) fun cdv A outer s H vs Q E hr h => ?_
  · obtain ⟨l0, F, as, Qd, Ed, b, r, h, _, _⟩ := h
    rw [r.length]
    exact len as Qd Ed h
  · obtain ⟨l0, F, as, Qd, Ed, b, r, h, hq, he⟩ := h
    obtain ⟨ts, p, sd⟩ := hb cdv A outer s H E hr
    refine ⟨ts, p, sd _ _ (hp as Qd Ed h) l0 F H _ (Stt.start b r) _ ⟨fun F' H' σ' ρ' g w S' q => ?_, fun F' H' v d g r q => ?_, fun F' H' σ' ρ' g w S' q => q.elim, fun F' H' σ' ρ' g w S' q => q.elim, fun cls d x F' H' σ' ρ' g w S' r q => ?_, fun F' H' σ' ρ' v d g w S' r q => q.elim⟩⟩
    · exact hq .non .non F' H' (g.go start_noOw) (.v _) q
    · exact hq v d F' H' (g.go start_noOw) r q
    · exact he cls d x F' H' (g.go start_noOw) r q
end DW

set_option Elab.async false
set_option linter.all false
set_option maxRecDepth 100000
namespace DW
open PySem PySem.Spec PyProof.Rows L2
def rCatL2 (K : PySem.W.Frag) : R2 := fun x y H Q => ∃ a b xs ys, x = .ref a ∧ y = .ref b ∧ SqL K H a xs ∧ SqL K H b ys ∧ xs.length + ys.length ≤ sizeLine ∧ ∀ p, H p = none → Q (.ref p) (upd H p (.lst (xs ++ ys)))
def rCatT2 (K : PySem.W.Frag) : R2 := fun x y H Q => ∃ a b xs ys, x = .ref a ∧ y = .ref b ∧ SqT K H a xs ∧ SqT K H b ys ∧ xs.length + ys.length ≤ sizeLine ∧
  (xs = [] → Q (.ref b) H) ∧ (xs ≠ [] → ys = [] → Q (.ref a) H) ∧ (xs ≠ [] → ys ≠ [] → ∀ p, H p = none → Q (.ref p) (upd H p (.tup (xs ++ ys))))
section
variable {X : Cx}
theorem op_catL2 : OpR X (binaryOp .Add) (rCatL2 X.K) := by
  intro pins s σ H x y v u Q I rx ry h
  obtain ⟨a, b, xs, ys, rfl, rfl, ha, hb, hz, q⟩ := h
  cases rx
  cases ry
  obtain ⟨its, r1, ⟨o1, n1, ho1, hc1, _, hd1⟩, z1⟩ := I.list ha
  obtain ⟨its2, r2, ⟨o2, n2, ho2, hc2, _, hd2⟩, z2⟩ := I.list hb
  obtain ⟨cls, dd, data, sl⟩ := o1
  obtain ⟨cls2, dd2, data2, sl2⟩ := o2
  simp only at hc1 hd1 hc2 hd2
  subst hc1 hd1 hc2 hd2
  have e : its.toArray ++ its2.toArray = (its ++ its2).toArray := by simp
  refine concat_meets ⟨_, ho1, rfl⟩ ⟨_, ho2, rfl⟩ noFill_list_add seq_list_add PySem.F.slot_list_add PySem.F.entry_list_add (PySem.F.args_list_add_2 _ _) (list_addW a b its.toArray its2.toArray n1 n2 dd dd2 sl sl2 (by rw [List.size_toArray, List.size_toArray, ← r1.length, ← r2.length]; exact hz)) ⟨ho1, ho2, ?_⟩
  rw [e]
  exact ⟨.ref _, _, I.lnew (t' := s.toks) (r1.append r2) (by rw [List.length_append]; exact hz), rfl, q _ I.fresh⟩
theorem op_catT2 : OpR X (binaryOp .Add) (rCatT2 X.K) := by
  intro pins s σ H x y v u Q I rx ry h
  obtain ⟨a, b, xs, ys, rfl, rfl, ha, hb, hz, q0, q1, q2⟩ := h
  cases rx
  cases ry
  by_cases hx : xs = []
  · obtain ⟨its, r1, ⟨o1, ho1, hc1, n1, hd1⟩, z1⟩ := I.tuple ha
    obtain ⟨its2, r2, ⟨o2, ho2, hc2, n2, hd2⟩, z2⟩ := I.tuple hb
    obtain ⟨cls, dd, data, sl⟩ := o1
    obtain ⟨cls2, dd2, data2, sl2⟩ := o2
    simp only at hc1 hd1 hc2 hd2
    subst hc1 hd1 hc2 hd2
    have e : its = [] := r1.nil_iff.mpr hx
    subst e
    exact concat_meets ⟨_, ho1, rfl⟩ ⟨_, ho2, rfl⟩ noFill_tuple_add seq_tuple_add PySem.F.slot_tuple_add PySem.F.entry_tuple_add (PySem.F.args_tuple_add_2 _ _)
      (tuple_addW0 a b #[] its2.toArray n1 n2 dd dd2 sl sl2 rfl) ⟨ho1, ho2, ⟨.ref b, H, I, rfl, q0 hx⟩⟩
  · exact op_catT pins s σ H (.ref a) (.ref b) (.ref a) (.ref b) Q I rfl rfl ⟨a, b, xs, ys, rfl, rfl, ha, hb, hx, hz, q1 hx, q2 hx⟩
end
def rAddA (K : PySem.W.Frag) : R2 := fun x y H Q => rI0 (fun i j => .int (i + j)) x y H Q ∨ rCatL2 K x y H Q ∨ rCatT2 K x y H Q ∨ ∃ i j, x = .str i ∧ y = .str j ∧ i.length + j.length ≤ sizeLine ∧ Q (.str (i ++ j)) H
theorem op_addA {X : Cx} : OpR X (binaryOp .Add) (rAddA X.K) := OpR.or op_add (OpR.or op_catL2 (OpR.or op_catT2 op_add_str))
def dAdd : D2
  | .dat (.v (.int i)), .dat (.v (.int j)), Q => Q (.dat (.v (.int (i + j))))
  | .dat (.lst a), .dat (.lst b), Q => a.length + b.length ≤ 100000 ∧ Q (.dat (.lst (a ++ b)))
  | .dat (.tup a), .dat (.tup b), Q => a.length + b.length ≤ 100000 ∧ Q (.dat (.tup (a ++ b)))
  | .dat (.v (.str x)), .dat (.v (.str y)), Q => x.length + y.length ≤ 100000 ∧ Q (.dat (.v (.str (x ++ y))))
  | _, _, _ => False
theorem sr_add {K : PySem.W.Frag} : SndR K (rAddA K) dAdd := fun x y s t Q h l0 F H b r1 r2 Qc k => by
  unfold dAdd at h
  split at h
  · cases r1
    cases r2
    exact .inl ⟨_, _, rfl, rfl, k.here b h⟩
  · obtain ⟨z, q⟩ := h
    obtain ⟨a1, xs, e1, z1, z2⟩ := r1.list b (.inl rfl)
    obtain ⟨a2, ys, e2, w1, w2⟩ := r2.list b (.inl rfl)
    subst e1 e2
    refine .inr (.inl ⟨a1, a2, xs, ys, rfl, rfl, z1, w1, by rw [z2.length, w2.length]; exact Evl.sz_of z, fun p hp => ?_⟩)
    have g := Go.fresh (p := p) b (.lst (xs ++ ys)) hp
    exact k (.ref p) (.dat (.lst _)) _ _ g (Den.lst (.inl upd_same) (Dens.mono g.ex (z2.append w2))) q
  · obtain ⟨z, q⟩ := h
    obtain ⟨a1, xs, e1, z1, z2⟩ := r1.tuple b
    obtain ⟨a2, ys, e2, w1, w2⟩ := r2.tuple b
    subst e1 e2
    refine .inr (.inr (.inl ⟨a1, a2, xs, ys, rfl, rfl, z1, w1, by rw [z2.length, w2.length]; exact Evl.sz_of z, fun e => ?_, fun _ e => ?_, fun _ _ p hp => ?_⟩))
    · subst e
      cases z2
      exact k (.ref a2) (.dat (.tup _)) _ _ (.refl b) r2 q
    · subst e
      cases w2
      rw [List.append_nil] at q
      exact k (.ref a1) (.dat (.tup _)) _ _ (.refl b) r1 q
    · have g := Go.fresh (p := p) b (.tup (xs ++ ys)) hp
      exact k (.ref p) (.dat (.tup _)) _ _ g (Den.tup (SqT.of upd_same) (Dens.mono g.ex (z2.append w2))) q
  · cases r1
    cases r2
    exact .inr (.inr (.inr ⟨_, _, rfl, rfl, Evl.sz_of h.1, k.here b h.2⟩))
  · exact h.elim
mutual
def toPy : Dt → Option PyData
  | .v .non => some .none
  | .v (.bl b) => some (.bool b)
  | .v (.int i) => some (.int i)
  | .v (.str x) => some (.str x)
  | .lst ds => (toPys ds).map .list
  | .tup ds => (toPys ds).map .tuple
  | _ => none
def toPys : List Dt → Option (List PyData)
  | [] => some []
  | d :: ds => match toPy d, toPys ds with
    | some x, some xs => some (x :: xs)
    | _, _ => none
end
def pyS : Sl → Option PyData
  | .dat d => toPy d
  | .own ds => toPy (.lst ds)
  | _ => none
section
variable {K : PySem.W.Frag} {l0 : Addr} {F H : Hp}
mutual
theorem den_py (b : Same F H) : ∀ {v : V} {d : Dt} {e : PyData}, Den K l0 F v d → toPy d = some e → Dp K H v e
  | _, _, e, .v x, h => by
    cases x <;> simp only [toPy, Option.some.injEq, reduceCtorEq] at h
    all_goals (subst h; constructor)
  | _, _, e, .lst (ds := ds) s r, h => by
    simp only [toPy, Option.map_eq_some_iff] at h
    obtain ⟨es, h1, h2⟩ := h
    subst h2
    exact .lst (b.seq s.sq) (dens_py b r h1)
  | _, _, e, .tup (ds := ds) s r, h => by
    simp only [toPy, Option.map_eq_some_iff] at h
    obtain ⟨es, h1, h2⟩ := h
    subst h2
    exact .tup (sameT b s) (dens_py b r h1)
  | _, _, e, .obj _ _, h => by simp only [toPy, reduceCtorEq] at h
  | _, _, e, .slt _ _ _ _, h => by simp only [toPy, reduceCtorEq] at h
  | _, _, e, .exc _ _, h => by simp only [toPy, reduceCtorEq] at h
  | _, _, e, .exc0, h => by simp only [toPy, reduceCtorEq] at h
  | _, _, e, .dct _ _, h => by simp only [toPy, reduceCtorEq] at h
  | _, _, e, .dcn _ _, h => by simp only [toPy, reduceCtorEq] at h
  | _, _, e, .brw _ _, h => by simp only [toPy, reduceCtorEq] at h
  | _, _, e, .xv _ _ _, h => by simp only [toPy, reduceCtorEq] at h
  | _, _, e, .xv0 _, h => by simp only [toPy, reduceCtorEq] at h
  | _, _, e, .drw, h => by simp only [toPy, reduceCtorEq] at h
theorem dens_py (b : Same F H) : ∀ {v : List V} {d : List Dt} {e : List PyData}, Dens K l0 F v d → toPys d = some e → DpAll K H v e
  | _, _, e, .nil, h => by
    simp only [toPys, Option.some.injEq] at h
    subst h
    exact .nil
  | _, _, e, .cons (d := d) (ds := ds) r t, h => by
    simp only [toPys] at h
    cases e1 : toPy d with
    | none => rw [e1] at h; cases h
    | some x =>
      cases e2 : toPys ds with
      | none => rw [e1, e2] at h; cases h
      | some xs =>
        rw [e1, e2] at h
        cases h
        exact .cons (den_py b r e1) (dens_py b t e2)
end
theorem sl_py (b : Base l0 F H) {v : V} {s : Sl} {e : PyData} (r : SlV K l0 F H v s) (h : pyS s = some e) : Dp K H v e := by
  cases s with
  | emp => exact r.elim
  | dat d => exact den_py b.sub r h
  | own ds =>
    obtain ⟨l, xs, e1, _, _, hl, r2⟩ := r
    subst e1
    have h : toPy (.lst ds) = some e := h
    simp only [toPy, Option.map_eq_some_iff] at h
    obtain ⟨es, h1, h2⟩ := h
    subst h2
    exact .lst (SqL.of hl) (dens_py b.sub r2 h1)
  | oob p0 C fs => cases h
  | odc kvs => cases h
  | tre t => cases h
end
def dEq : D2 := fun x y Q => ∃ d e, pyS x = some d ∧ pyS y = some e ∧ SeqAt.shaped d = true ∧ SeqAt.shaped e = true ∧ Q (.dat (.v (.bl (PyData.eqv d e))))
def dNe : D2 := fun x y Q => ∃ d e, pyS x = some d ∧ pyS y = some e ∧ SeqAt.shaped d = true ∧ SeqAt.shaped e = true ∧ Q (.dat (.v (.bl (!PyData.eqv d e))))
theorem sr_eq {K : PySem.W.Frag} : SndR K (rEqD K) dEq := fun x y s t Q h l0 F H b r1 r2 Qc k => by
  obtain ⟨d, e, h1, h2, h3, h4, q⟩ := h
  exact ⟨d, e, sl_py b r1 h1, sl_py b r2 h2, h3, h4, k.here b q⟩
theorem sr_ne {K : PySem.W.Frag} : SndR K (rNeD K) dNe := fun x y s t Q h l0 F H b r1 r2 Qc k => by
  obtain ⟨d, e, h1, h2, h3, h4, q⟩ := h
  exact ⟨d, e, sl_py b r1 h1, sl_py b r2 h2, h3, h4, k.here b q⟩
def isNon : Sl → Option Bool
  | .dat (.v .non) => some true
  | .dat (.v _) => some false
  | .dat (.lst _) => some false
  | .dat (.tup _) => some false
  | .dat (.obj _ _) => some false
  | .dat (.slt _ _) => some false
  | .dat (.dct _) => some false
  | .own _ => some false
  | _ => none
def dIsN : D2 := fun x y Q => y = .dat (.v .non) ∧ ∃ b, isNon x = some b ∧ Q (.dat (.v (.bl b)))
theorem isNon_ok {K : PySem.W.Frag} {l0 : Addr} {F H : Hp} {x : V} {s : Sl} {b : Bool} (r : SlV K l0 F H x s) (h : isNon s = some b) : decide (x = .non) = b := by
  unfold isNon at h
  split at h
  · cases h; cases r; rfl
  · rename_i y ne
    cases h
    cases r
    exact decide_eq_false fun z => ne z
  · cases h; cases r; rfl
  · cases h; cases r; rfl
  · cases h; cases r; rfl
  · cases h; cases r; rfl
  · cases h; cases r; rfl
  · cases h
    obtain ⟨l, xs, e, _⟩ := r
    subst e
    rfl
  · cases h
theorem sr_isN {K : PySem.W.Frag} : SndR K (fun x y H Q => y = .non ∧ Q (.bl (decide (x = .non))) H) dIsN := fun x y s t Q h l0 F H b r1 r2 Qc k => by
  obtain ⟨e, c, h1, q⟩ := h
  subst e
  cases r2
  refine ⟨rfl, ?_⟩
  rw [isNon_ok r1 h1]
  exact k.here b q
def vOf : List Dt → Option (List V)
  | [] => some []
  | .v x :: r => (vOf r).map (x :: ·)
  | _ :: _ => none
def seqOf : Sl → Option (List V)
  | .dat (.lst ds) => vOf ds
  | .dat (.tup ds) => vOf ds
  | .own ds => vOf ds
  | _ => none
theorem vOf_ok {K : PySem.W.Frag} {l0 : Addr} {F : Hp} : ∀ {xs : List V} {ds : List Dt} {ys : List V}, Dens K l0 F xs ds → vOf ds = some ys → xs = ys
  | [], [], _, .nil, h => by cases h; rfl
  | x :: xs, .v y :: ds, ys, .cons r t, h => by
    have h : (vOf ds).map (y :: ·) = some ys := h
    cases q : vOf ds with
    | none => rw [q] at h; cases h
    | some zs =>
      rw [q] at h
      cases h
      cases r
      rw [vOf_ok t q]
  | _ :: _, .lst _ :: _, _, .cons _ _, h => by cases h
  | _ :: _, .tup _ :: _, _, .cons _ _, h => by cases h
  | _ :: _, .obj _ _ :: _, _, .cons _ _, h => by cases h
  | _ :: _, .slt _ _ :: _, _, .cons _ _, h => by cases h
  | _ :: _, .exc _ _ _ _ :: _, _, .cons _ _, h => by cases h
  | _ :: _, .dct _ :: _, _, .cons _ _, h => by cases h
  | _ :: _, .drw :: _, _, .cons _ _, h => by cases h
theorem seqOf_ok {K : PySem.W.Frag} {l0 : Addr} {F H : Hp} {v : V} {s : Sl} {xs : List V} (b : Base l0 F H) (r : SlV K l0 F H v s) (h : seqOf s = some xs) : ∃ p, v = .ref p ∧ (SqL K H p xs ∨ SqT K H p xs) := by
  unfold seqOf at h
  split at h
  · obtain ⟨a, ys, e, h1, h2⟩ := r.list b (.inl rfl)
    rw [vOf_ok h2 h] at h1
    exact ⟨a, e, .inl h1⟩
  · obtain ⟨a, ys, e, h1, h2⟩ := r.tuple b
    rw [vOf_ok h2 h] at h1
    exact ⟨a, e, .inr h1⟩
  · obtain ⟨a, ys, e, h1, h2⟩ := r.list b (.inr rfl)
    rw [vOf_ok h2 h] at h1
    exact ⟨a, e, .inl h1⟩
  · cases h
def dInG (neg : Bool) : D2 := fun x y Q => ∃ z xs, x = .dat (.v z) ∧ seqOf y = some xs ∧ flatV z = true ∧ xs.all flatV = true ∧ Q (.dat (.v (.bl (if neg then !inV z xs else inV z xs))))
abbrev dNotIn : D2 := dInG true
theorem sr_inG {K : PySem.W.Frag} {neg : Bool} : SndR K (rIn K neg) (dInG neg) := fun x y s t Q h l0 F H b r1 r2 Qc k => by
  obtain ⟨z, xs, e, h1, h2, h3, q⟩ := h
  subst e
  cases r1
  obtain ⟨p, e, h4⟩ := seqOf_ok b r2 h1
  exact ⟨p, xs, e, h4, h2, h3, k.here b q⟩
theorem sr_notIn {K : PySem.W.Frag} : SndR K (rIn K true) dNotIn := sr_inG
def dListOf : DCl
  | [.dat (.lst ds)], Q => Q (.dat (.lst ds))
  | [.dat (.tup ds)], Q => Q (.dat (.lst ds))
  | [.own ds], Q => Q (.dat (.lst ds))
  | [.dat (.brw ds)], Q => Q (.dat (.lst ds))
  | _, _ => False
def dTupleOf : DCl
  | [.dat (.lst ds)], Q => Q (.dat (.tup ds))
  | [.dat (.tup ds)], Q => Q (.dat (.tup ds))
  | [.own ds], Q => Q (.dat (.tup ds))
  | _, _ => False
theorem sc_list {K : PySem.W.Frag} : SndC K (fun xs H Q => ∃ p ys, xs = [.ref p] ∧ (SqL K H p ys ∨ SqT K H p ys) ∧ ∀ l, H l = none → Q (.ref l) (upd H l (.lst ys))) dListOf := fun vs ss Q h l0 F H b r Qc k => by
  have fin : ∀ {ys : List V} {ds : List Dt}, Dens K l0 F ys ds → Q (.dat (.lst ds)) → ∀ l, H l = none → Qc (.ref l) (upd H l (.lst ys)) := fun {ys ds} r q l hl => by
    have g := Go.fresh (p := l) b (.lst ys) hl
    exact k (.ref l) (.dat (.lst ds)) _ _ g (Den.lst (.inl upd_same) (Dens.mono g.ex r)) q
  unfold dListOf at h
  split at h
  · obtain ⟨⟩ | ⟨r1, ⟨⟩⟩ := r
    obtain ⟨a, xs, e, z1, z2⟩ := r1.list b (.inl rfl)
    subst e
    exact ⟨a, xs, rfl, .inl z1, fin z2 h⟩
  · obtain ⟨⟩ | ⟨r1, ⟨⟩⟩ := r
    obtain ⟨a, xs, e, z1, z2⟩ := r1.tuple b
    subst e
    exact ⟨a, xs, rfl, .inr z1, fin z2 h⟩
  · obtain ⟨⟩ | ⟨r1, ⟨⟩⟩ := r
    obtain ⟨a, xs, e, z1, z2⟩ := r1.list b (.inr rfl)
    subst e
    exact ⟨a, xs, rfl, .inl z1, fin z2 h⟩
  · obtain ⟨⟩ | ⟨r1, ⟨⟩⟩ := r
    obtain ⟨a, xs, e, z1, z2⟩ := r1.brw
    subst e
    exact ⟨a, xs, rfl, .inl (b.sub.seq z1), fin z2 h⟩
  · exact h.elim
theorem call_listS {X : Cx} : CallR X (.type "list") (fun xs H Q => ∃ p ys, xs = [.ref p] ∧ (SqL X.K H p ys ∨ SqT X.K H p ys) ∧ ∀ l, H l = none → Q (.ref l) (upd H l (.lst ys))) := call_list_of
theorem call_tupleS {X : Cx} : CallR X (.type "tuple") (fun xs H Q => ∃ p ys, xs = [.ref p] ∧ ((SqL X.K H p ys ∧ ∀ l, H l = none → Q (.ref l) (upd H l (.tup ys))) ∨ (SqT X.K H p ys ∧ Q (.ref p) H))) := call_tuple_of
theorem sc_tuple {K : PySem.W.Frag} : SndC K (fun xs H Q => ∃ p ys, xs = [.ref p] ∧ ((SqL K H p ys ∧ ∀ l, H l = none → Q (.ref l) (upd H l (.tup ys))) ∨ (SqT K H p ys ∧ Q (.ref p) H))) dTupleOf := fun vs ss Q h l0 F H b r Qc k => by
  have fin : ∀ {ys : List V} {ds : List Dt}, Dens K l0 F ys ds → Q (.dat (.tup ds)) → ∀ l, H l = none → Qc (.ref l) (upd H l (.tup ys)) := fun {ys ds} r q l hl => by
    have g := Go.fresh (p := l) b (.tup ys) hl
    exact k (.ref l) (.dat (.tup ds)) _ _ g (Den.tup (SqT.of upd_same) (Dens.mono g.ex r)) q
  unfold dTupleOf at h
  split at h
  · obtain ⟨⟩ | ⟨r1, ⟨⟩⟩ := r
    obtain ⟨a, xs, e, z1, z2⟩ := r1.list b (.inl rfl)
    subst e
    exact ⟨a, xs, rfl, .inl ⟨z1, fin z2 h⟩⟩
  · obtain ⟨⟩ | ⟨r1, ⟨⟩⟩ := r
    obtain ⟨a, xs, e, z1, z2⟩ := r1.tuple b
    subst e
    exact ⟨a, xs, rfl, .inr ⟨z1, k (.ref a) (.dat (.tup _)) _ _ (.refl b) r1 h⟩⟩
  · obtain ⟨⟩ | ⟨r1, ⟨⟩⟩ := r
    obtain ⟨a, xs, e, z1, z2⟩ := r1.list b (.inr rfl)
    subst e
    exact ⟨a, xs, rfl, .inl ⟨z1, fin z2 h⟩⟩
  · exact h.elim
section
variable {X : Cx} {W : WX} {a b c e tg : Expr} {xa xb xc xe : TE} {ya yb : TT} {va vb : TS} {da db dc de : DE} {pos : Pos} {ta tb : DTt} {st : Stmt} {rest : List Stmt} {t u : DS}
theorem de_add (ha : DEX X W a xa da) (hb : DEX X W b xb db) : DEX X W (.BinOp a .Add b pos) (tOp (rAddA X.K) xa xb) (dOp dAdd da db) := de_op op_addA sr_add ha hb
theorem op_eqA (hu : X.A.units + 64 < cLine) : OpR X (compareOp .Eq) (rEqD X.K) := op_eqD hu
theorem op_neA (hu : X.A.units + 64 < cLine) : OpR X (compareOp .NotEq) (rNeD X.K) := op_neD hu
theorem de_globI {x : Str} {i : Int} (hg : Gl X x) (hm : ∃ t, X.mg x = some (.int i t)) (hd : (x == ("__debug__" : Str)) = false := by decide) : DEX X W (.Name x pos) (tC (.int i)) (dC (.int i)) := by
  obtain ⟨t, hm⟩ := hm
  exact de_glob hg hm ⟨t, rfl⟩ hd
theorem dw_and1 (h : DTX X W a ya ta) : DWX X W (.BoolOp .And [a] pos) ya ta := ⟨pw_and1 h.1, h.2⟩
theorem dw_or1 (h : DTX X W a ya ta) : DWX X W (.BoolOp .Or [a] pos) ya ta := ⟨pw_or1 h.1, h.2⟩
theorem dw_and {r : List Expr} (h : DTX X W a ya ta) (k : DWX X W (.BoolOp .And (b :: r) pos) yb tb) : DWX X W (.BoolOp .And (a :: b :: r) pos) (tAnd ya yb) (dAnd ta tb) := ⟨pw_and h.1 k.1, snd_and h.2 k.2⟩
theorem dw_or {r : List Expr} (h : DTX X W a ya ta) (k : DWX X W (.BoolOp .Or (b :: r) pos) yb tb) : DWX X W (.BoolOp .Or (a :: b :: r) pos) (tOr ya yb) (dOr ta tb) := ⟨pw_or h.1 k.1, snd_or h.2 k.2⟩
theorem de_oneA (h : DEX X W a xa da) : DEX X W (.BoolOp .And [a] pos) xa da := ⟨pe_one h.1, h.2⟩
theorem de_oneO (h : DEX X W a xa da) : DEX X W (.BoolOp .Or [a] pos) xa da := ⟨pe_one h.1, h.2⟩
theorem de_and {r : List Expr} (h : DEX X W a xa da) (k : DEX X W (.BoolOp .And (b :: r) pos) xb db) : DEX X W (.BoolOp .And (a :: b :: r) pos) (tAndV xa xb) (dAndV da db) := by
  refine ⟨pe_and h.1 k.1, fun ρ Q E q l0 F H σ S Qc kk kx => ?_⟩
  refine h.2 ρ _ E q l0 F H σ S _ (fun x s F1 H1 g1 r1 q1 => ?_) kx
  obtain ⟨c, e, q⟩ := blS_of q1
  subst e
  cases r1
  refine ⟨c, rfl, ?_⟩
  cases c with
  | true =>
    rw [if_pos rfl] at q ⊢
    exact k.2 ρ Q E q l0 F1 H1 σ (S.go g1) Qc (kk.go g1) (kx.go g1)
  | false =>
    rw [if_neg Bool.false_ne_true] at q ⊢
    exact (kk.go g1).here g1.bs q
theorem de_or {r : List Expr} (h : DEX X W a xa da) (k : DEX X W (.BoolOp .Or (b :: r) pos) xb db) : DEX X W (.BoolOp .Or (a :: b :: r) pos) (tOrV xa xb) (dOrV da db) := by
  refine ⟨pe_or h.1 k.1, fun ρ Q E q l0 F H σ S Qc kk kx => ?_⟩
  refine h.2 ρ _ E q l0 F H σ S _ (fun x s F1 H1 g1 r1 q1 => ?_) kx
  obtain ⟨c, e, q⟩ := blS_of q1
  subst e
  cases r1
  refine ⟨c, rfl, ?_⟩
  cases c with
  | true =>
    rw [if_pos rfl] at q ⊢
    exact (kk.go g1).here g1.bs q
  | false =>
    rw [if_neg Bool.false_ne_true] at q ⊢
    exact k.2 ρ Q E q l0 F1 H1 σ (S.go g1) Qc (kk.go g1) (kx.go g1)
def dNotT (a : DE) : DE := fun ρ Q E => a ρ (fun s => truS s fun c => Q (.dat (.v (.bl (!c))))) E
theorem de_notV (h : DEX X W a xa da) : DEX X W (.UnaryOp .Not a pos) (tNotT X.K xa) (dNotT da) := by
  refine ⟨pe_notT h.1, fun ρ Q E q l0 F H σ S Qc kk kx => ?_⟩
  refine h.2 ρ _ E q l0 F H σ S _ (fun x s F1 H1 g1 r1 q1 => ?_) kx
  obtain ⟨c, t, q⟩ := truS_of g1.bs q1 r1
  exact ⟨c, t, (kk.go g1).here g1.bs q⟩
def Fnk (P : Program) (w : World) (K : PySem.W.Frag) (mg : Str → Option Value) (base : Heap) (x : Str) (k : Nat) (ps : List Str) (dvs : List V) (dd : List Dt) (sd : Sd) : Prop :=
  ∃ f fd ds, mg x = some (.ref f) ∧ PySem.W.keepIn K (.ref f) = true ∧ Binds K fd ps ds ∧ Vals dvs ds ∧ (∀ l0 F, Dens K l0 F dvs dd) ∧ FnOk P w K mg base (L2.CX P w) k f fd ps (spOf K sd)
theorem de_callF {k : Nat} {ps : List Str} {sd : Sd} {dvs : List V} {dd : List Dt} {x : Str} {p : Pos} {es : List Expr} {zr : TA} {dr : DA} (C : Fnk X.prog X.w X.K X.mg X.base x k ps dvs dd sd) (tk : Takes X W) (hr : Room k X.A) (hg : Gl X x)
    (ha : DAX X W (e :: es) zr dr) (hdb : (x == ("__debug__" : Str)) = false := by decide)
    (he : starEach (e :: es) X.env = (false, eval e X.env) :: starEach es X.env := by rfl) (hpl : (backTo pos (starEach es X.env)).any (·.1) = false := by rfl) :
    DEX X W (.Call (.Name x p) (e :: es) [] pos) (tCallSD (spOf X.K sd) dvs (WE W) zr) (dCall sd dd dr) := by
  obtain ⟨f, fd, ds, h1, h2, h3, h4, h5, F⟩ := C
  exact de_call F tk hr hg h1 h2 h3 h4 h5 ha hdb he hpl
end
def DefAt (K : PySem.W.Frag) (mg : Str → Option Value) (x : Str) (st : Stmt) : Prop := ∃ f fd, mg x = some (.ref f) ∧ FunD K x x (defArgs st) (defBody st) (defScope st) [] [] f fd
theorem fnk_of {P : Program} {w : World} {K : PySem.W.Frag} {mg : Str → Option Value} {base : Heap} {x : Str} {st : Stmt} {N ps : List Str} {k : Nat} {sd : Sd} {ds : DS} (D : DefAt K mg x st) (S : FnScope N ps (defScope st)) (len : ∀ as Q E, sd as Q E → as.length = ps.length)
    (hbd : ∀ (dV kV doc pm : Value) (an : Option Addr) (cdv ct : Value) (us : List Value), us.length = ps.length → bindArgs (PySem.W.fnOf x x (defArgs st) (defBody st) (defScope st) .none kV doc pm an cdv ct) ⟨us, []⟩ = pure (ps.zip us))
    (hb : ∀ (f : Addr) (cdv : Value) (A : Around) (outer : List Env) (s : Shared) (H : Hp) (E : XK), Room k (A.deeper (envOfC x (defScope st) s.heap.objs.size f cdv)) →
      ∃ ts, DSSX (cxOf (L2.CX P w) P w K mg base N x (defScope st) f cdv A outer s H E) (fun cls d _ H => E cls d H) (defBody st) ts ds)
    (hp : ∀ as Q E, sd as Q E → ds (dEnds Q E) (startD N.length as)) : Fnk P w K mg base x (k + 1) ps [] [] sd := by
  obtain ⟨f, fd, h1, F⟩ := D
  exact ⟨f, fd, [], h1, F.kp, FunD.bindsN F (fun kV doc pm an cdv ct us hl => hbd .none kV doc pm an cdv ct us hl), .nil, dd_nil, fn_d F S len (hb f) hp⟩
end DW

set_option Elab.async false
set_option linter.all false
set_option maxRecDepth 100000
namespace DW
open PySem PySem.Spec PyProof.Rows L2
def sd__law_next : Sd := fun as Q _ => ∃ many : Int, as = [.drw, .v (.int many)] ∧ 0 < many ∧ ∀ r : Int, 0 ≤ r → r < many → Q (.v (.int r))
def spDraws (K : PySem.W.Frag) : Sp := fun vs H Q _ => ∃ (a : Addr) (ns : List Int), vs = [.ref a] ∧ SqL K H a (ns.map V.int) ∧
  ∀ (l : Addr) (ms : List Int) (H' : Hp), H l = none → Same H H' → H' l = some (.lst (ms.map V.int)) → (∀ m ∈ ms, 0 ≤ m) → ms.length ≤ 100000 → Q (.ref l) H'
def t_next (K : PySem.W.Frag) : TS := tSeq (tIfS (tTest (tOp (rEqD K) (tVar 0) (tLst tNil))) (tRet (tC (.int 0))) tNext)
  (tRet (tOp (rI (fun _ j => 0 < j) fun i j => .int (i % j)) (tCB (fun xs H Q => (∃ i, xs = [.int i] ∧ Q (.int i) H) ∨ ∃ k, xs = [.bl k] ∧ Q (.int (if k then 1 else 0)) H) (tCons (tBM K "list" rPopAt (tVar 0) (tCons (tC (.int 0)) tNil)) tNil)) (tVar 1)))
theorem eqv_nil : ∀ ns : List Int, PyData.eqv (.list (ns.map PyData.int)) (.list []) = ns.isEmpty
  | [] => by simp [PyData.eqv, PyData.eqvAll]
  | n :: ns => by simp [PyData.eqv, PyData.eqvAll]
theorem dp_ints {K : PySem.W.Frag} {H : Hp} : ∀ ns : List Int, DpAll K H (ns.map V.int) (ns.map PyData.int)
  | [] => .nil
  | n :: ns => .cons (.int n) (dp_ints ns)
theorem lay_ints : ∀ ns : List Int, PyData.canLayAll0 (ns.map PyData.int) = true
  | [] => rfl
  | n :: ns => by
    have := lay_ints ns
    simp [PyData.canLayAll0, PyData.canLay0, this]
theorem depth_ints : ∀ ns : List Int, PyData.depthAll (ns.map PyData.int) = 0
  | [] => rfl
  | n :: ns => by
    have := depth_ints ns
    simp [PyData.depthAll, PyData.depth, this]
theorem shaped_ints (ns : List Int) : SeqAt.shaped (.list (ns.map PyData.int)) = true := by
  unfold SeqAt.shaped
  simp [PyData.canLay0, PyData.depth, lay_ints, depth_ints]
theorem pure_next {K : PySem.W.Frag} (vs : List V) (H : Hp) (Q : VK) (E : XK) (h : spOf K sd__law_next vs H Q E) : t_next K { nx := fun _ H' => Q .non H', rt := Q } (start ["_law_draws_here", "_law_many"] vs) H := by
  obtain ⟨l0, F, ds, Qd, Ed, b, r, ⟨many, rfl, hm, hq⟩, k, _⟩ := h
  obtain ⟨⟩ | ⟨r1, ⟨⟩ | ⟨r2, ⟨⟩⟩⟩ := r
  cases r1
  cases r2
  obtain ⟨ns, h1, h2, h3⟩ := b.dr
  refine ⟨_, rfl, Nat.zero_le _, fun p hp => ?_⟩
  have np : l0 ≠ p := ne_of_none h1 hp
  have g1 := Go.loose (p := p) b (.lst []) hp
  refine ⟨_, _, .lst (SqL.of (by rw [upd_ne np]; exact h1)) (dp_ints ns), .lst (SqL.of upd_same) .nil, shaped_ints ns, rfl, _, rfl, ?_⟩
  rw [eqv_nil]
  cases ns with
  | nil =>
    refine iteT ?_
    exact k (.int 0) (.v (.int 0)) F _ g1 (.v _) (hq 0 (Int.le_refl 0) hm)
  | cons n ms =>
    refine iteF ?_
    refine ⟨_, rfl, .inl ⟨rfl, _, SqL.of (by rw [upd_ne np]; exact h1)⟩, l0, _, 0, 0, .int n, rfl, rfl, by rw [upd_ne np]; exact h1, by decide, by decide, ?_, rfl, ?_⟩
    · unfold seqIndex?
      simp
    · refine .inl ⟨n, rfl, _, rfl, n, many, rfl, rfl, hm, ?_⟩
      refine k (.int (n % many)) (.v (.int (n % many))) F _ ⟨⟨fun a o e => ?_, b.nf, ms, upd_same, fun m hm => h2 m (List.mem_cons_of_mem _ hm), by rw [List.length_cons] at h3; omega⟩, fun _ _ e => e, fun a e1 e2 => absurd e1 e2, fun a o n0 e => ?_⟩ (.v _) (hq _ (Int.emod_nonneg _ (by omega)) (Int.emod_lt_of_pos _ hm))
      · have na : a ≠ l0 := fun e' => by
          rw [e', b.nf] at e
          cases e
        rw [upd_ne na]
        exact g1.bs.sub a o e
      · rw [upd_ne n0]
        exact g1.keep a o n0 e

structure Drs (H H' : Hp) (a l : Addr) (ns : List Int) (σ : L2.St) (m : Nat) : Prop where
  len : σ.length = 6
  s0 : σ[0]? = some (some (.ref a))
  s1 : σ[1]? = some (some (.ref l))
  new : H l = none
  same : Same H H'
  at_ : ∃ ms : List Int, H' l = some (.lst (ms.map V.int)) ∧ (∀ x ∈ ms, 0 ≤ x) ∧ ms.length ≤ m
theorem Drs.mono {H H' : Hp} {a l : Addr} {ns : List Int} {σ : L2.St} {m m' : Nat} (d : Drs H H' a l ns σ m) (h : m ≤ m') : Drs H H' a l ns σ m' := by
  obtain ⟨ms, h1, h2, h3⟩ := d.at_
  exact ⟨d.len, d.s0, d.s1, d.new, d.same, ms, h1, h2, Nat.le_trans h3 h⟩
theorem Drs.set {H H' : Hp} {a l : Addr} {ns : List Int} {σ : L2.St} {m : Nat} (d : Drs H H' a l ns σ m) (i : Nat) (x : Option V) (h0 : i ≠ 0 := by decide) (h1 : i ≠ 1 := by decide) : Drs H H' a l ns (σ.set i x) m :=
  ⟨by rw [List.length_set]; exact d.len, by rw [List.getElem?_set_ne h0]; exact d.s0, by rw [List.getElem?_set_ne h1]; exact d.s1, d.new, d.same, d.at_⟩
theorem Drs.get {H H' : Hp} {a l : Addr} {ns : List Int} {σ : L2.St} {m : Nat} (d : Drs H H' a l ns σ m) (i : Nat) {x : Option V} (h : i < 6 := by decide) : (σ.set i x)[i]? = some x := List.getElem?_set_self (by rw [d.len]; exact h)
theorem Drs.app {H H' : Hp} {a l : Addr} {ns : List Int} {σ : L2.St} {m : Nat} (d : Drs H H' a l ns σ m) {z : Int} (hz : 0 ≤ z) {ms : List Int} (h1 : H' l = some (.lst (ms.map V.int))) (h2 : ∀ x ∈ ms, 0 ≤ x) (h3 : ms.length ≤ m) :
    Drs H (upd H' l (.lst (ms.map V.int ++ [.int z]))) a l ns σ (m + 1) := by
  refine ⟨d.len, d.s0, d.s1, d.new, fun b o e => ?_, ms ++ [z], ?_, fun x hx => ?_, ?_⟩
  · rw [upd_ne (ne_of_none e d.new)]
    exact d.same b o e
  · rw [upd_same, List.map_append]
    rfl
  · rcases List.mem_append.mp hx with h | h
    · exact h2 x h
    · rw [List.mem_singleton.mp h]
      exact hz
  · rw [List.length_append, List.length_singleton]
    omega

def spLaw (K : PySem.W.Frag) : Sp := fun vs H Q _ => ∃ (a : Addr) (ns : List Int), vs = [.ref a] ∧ SqL K H a (ns.map V.int) ∧ ns.length ≤ 63 ∧ ∀ H', Q (.bl true) H'
def lawEn (n : Nat) (_ns : List Int) : En := ((startD n [.v .non]).set 1 (.dat .drw)).set 0 .emp
theorem lawEn_eq (n : Nat) (ns : List Int) (d : Dt) : lawEn n ns = ((startD n [d]).set 1 (.dat .drw)).set 0 .emp := rfl
theorem Stt.lose {K : PySem.W.Frag} {l0 : Addr} {F H : Hp} {σ : L2.St} {ρ : En} (S : Stt K l0 F H σ ρ) (i : Nat) : Stt K l0 F H σ (ρ.set i .emp) := by
  have back : ∀ {j : Nat} {s : Sl}, (ρ.set i .emp)[j]? = some s → s = .emp ∨ ρ[j]? = some s := fun {j s} h => by
    by_cases q : i = j
    · subst q
      by_cases z : i < ρ.length
      · rw [List.getElem?_set_self z] at h
        cases h
        exact .inl rfl
      · rw [List.getElem?_eq_none (by rw [List.length_set]; omega)] at h
        cases h
    · rw [List.getElem?_set_ne q] at h
      exact .inr h
  refine ⟨S.bs, by rw [List.length_set]; exact S.len, fun j s h => (back h).elim .inl (S.sl j s), fun j k s t a h1 h2 o1 o2 => ?_⟩
  rcases back h1 with e1 | e1
  · subst e1
    cases o1.1
  · rcases back h2 with e2 | e2
    · subst e2
      cases o2.1
    · exact S.ap2 j k s t a e1 e2 o1 o2
def isTrue : Dt → Prop := fun d => d = .v (.bl true)
theorem fn_law {P : Program} {w : World} {K : PySem.W.Frag} {mg : Str → Option Value} {base : Heap} {st : Stmt} {N : List Str} {k : Nat} {ds : DS} {f : Addr} {fd : FuncData}
    (F : FunD K "law" "law" (defArgs st) (defBody st) (defScope st) [] [] f fd) (S : FnScope N ["_law_script"] (defScope st)) (hN : 2 ≤ N.length)
    (hb : ∀ (cdv : Value) (A : Around) (outer : List Env) (s : Shared) (H : Hp) (E : XK), Room k (A.deeper (envOfC "law" (defScope st) s.heap.objs.size f cdv)) →
      ∃ ts, PSs (cxOf (L2.CX P w) P w K mg base N "law" (defScope st) f cdv A outer s H E) (defBody st) (tSeq (tAsg (tCallSD (spDraws K) [] (WE fun cls d _ H => E cls d H) (tCons (tVar 0) tNil)) (gName 1)) ts) ∧ SndS K (fun cls d _ H => E cls d H) ts ds)
    (hp : ∀ ns : List Int, ns.length ≤ 63 → ds (dEnds isTrue fun _ => False) (lawEn N.length ns)) : FnOk P w K mg base (L2.CX P w) (k + 1) f fd ["_law_script"] (spLaw K) := by
  refine F.ok S (fun vs H Q E h => ?_) fun cdv A outer s H vs Q E hr h => ?_
  · obtain ⟨a, ns, rfl, _⟩ := h
    rfl
  · obtain ⟨a, ns, rfl, hS, hl, hq⟩ := h
    obtain ⟨ts, p, sd⟩ := hb cdv A outer s H E hr
    refine ⟨_, p, ?_⟩
    have e0 : (start N [V.ref a])[0]? = some (some (.ref a)) := rfl
    refine ⟨.ref a, e0, a, ns, rfl, hS, fun l ms H' h1 h2 h3 h4 h5 => ?_⟩
    have bs : Base l H H' := ⟨h2, h1, ms, h3, h4, h5⟩
    have dn : Dens K l H [.ref a] [.v (.ref a)] := .cons (.v _) .nil
    have S0 := ((Stt.start (N := N) bs dn).put (v := .ref l) 1 (d := .drw) .drw).lose 0
    rw [← lawEn_eq N.length ns] at S0
    refine sd _ _ (hp ns hl) l H H' _ S0 _ ⟨fun F' H' σ' ρ' g w S' q => ?_, fun F' H' v d g r q => ?_, fun F' H' σ' ρ' g w S' q => q.elim, fun F' H' σ' ρ' g w S' q => q.elim, fun cls d x F' H' σ' ρ' g w S' r q => q.elim, fun F' H' σ' ρ' v d g w S' r q => q.elim⟩
    · cases q
    · have q : d = .v (.bl true) := q
      subst q
      cases r
      exact hq H'
theorem hook_ok {l : PySem.W.OpenLaw} {n k : Nat} {q : Program} {loose : List Str} {XP : (Str → Option Value) → Heap → Prop} {YP : World → Heap → Prop} {d : DefRec} {x : Str}
    (hn : l.most = some n) (hn2 : n ≤ sizeLine) (hdf : d.params.defaults = []) (hr : Room k callerA)
    (F : ∀ (w : World) (mg : Str → Option Value) (fa : Addr) (h : Heap), YP w h → h.Ns mainGlobals mg → mg d.name = some (.ref fa) →
      ∃ (K : PySem.W.Frag) (fd : FuncData) (sp : Sp), K.In h ∧ (∀ (s : Shared) (u : Value), BindsTo s fd ⟨[u], []⟩ [(x, u)]) ∧
        (∀ (H : Hp) (a : Addr) (ns : List Int), ns.length ≤ n → Only H → SqL K H a (ns.map V.int) → sp [.ref a] H (fun v _ => v = .bl true) fun _ _ _ => False) ∧
        ∀ base : Heap, K.In base → base.Ns mainGlobals mg → FnOk l.prog w K mg base (L2.CX l.prog w) k fa fd [x] sp) :
    PySem.W.WalkO q loose XP YP l.row.toRowW d [] (fun f vs => PySem.call f vs) := by
  refine Att.attach_call hn hdf fun w s₀ s₁ mg mb fa o pm cd doc a vs ns G Y ho hd hcd hmg hobj hints hlen hg => ?_
  obtain ⟨K, fd, sp, KX, hb, hsp, hF⟩ := F w mg fa _ Y G.T.g hmg
  exact law_call KX G.T.g G.T.b G.T.builtins G.T.nolimit hg hobj hints (Nat.le_trans hlen hn2) hr hF hb (fun H hO hS => hsp H a ns hlen hO hS) fun H e s' h => by
    obtain ⟨_, _, _, _, _, _, _, _, _, _, _, _, z⟩ := h
    exact z.elim
theorem defAt_of {K : PySem.W.Frag} {h : Heap} {mg : Str → Option Value} {fa : List He.Fa} {fn : List He.DefD} {x : Str} {st : Stmt} (X : K.In h) (G : h.Ns mainGlobals mg) (c : He.SaysD fa fn K) (i j : Nat)
    (h1 : fn[i]? = some ⟨(x, none), x, x, defArgs st, defBody st, defScope st, [], []⟩) (h2 : fa[j]? = some (.glo x)) : DefAt K mg x st := by
  obtain ⟨fd, F⟩ := c.def_ i h1
  exact ⟨_, fd, He.glo_ok X G (c.fact j h2), F⟩
end DW

set_option Elab.async false
set_option linter.all false
set_option maxRecDepth 100000
namespace DW
open PySem PySem.Spec PyProof.Rows L2
abbrev rInt1 : List V → Hp → VK → Prop := fun xs H Q => (∃ i, xs = [.int i] ∧ Q (.int i) H) ∨ ∃ k, xs = [.bl k] ∧ Q (.int (if k then 1 else 0)) H
abbrev rPowI : R2 := rI CPow fun i j => .int (i ^ j.toNat)
abbrev rModI : R2 := rI (fun _ j => 0 < j) fun i j => .int (i % j)
abbrev rMulI : R2 := rI CMulX fun i j => .int (i * j)
abbrev rFdivI : R2 := rI CDivW fun i j => .int (i / j)
def t_big (K : PySem.W.Frag) : TS := tIfS (tTest (tOp (rI0 fun i j => .bl (decide (j < i))) (tVar 3) (tC (.int 0))))
  (tSeq (tDrop (tBM K "list" rAppend (tVar 1) (tCons (tOp rModI (tCB rInt1 (tCons (tVar 3) tNil)) (tOp rPowI (tC (.int 10)) (tC (.int 20)))) tNil)))
    (tAsg (tOp rFdivI (tVar 3) (tOp rPowI (tC (.int 10)) (tC (.int 20)))) (gName 3))) tNext
def t_mix (K : PySem.W.Frag) : TS :=
  tSeq (tAsg (tOp rModI (tCB rInt1 (tCons (tOp (rAddA K) (tOp rMulI (tVar 3) (tC (.int 918273645546372819))) (tOp rMulI (tOp (rAddA K) (tOp (rAddA K) (tOp rMulI (tC (.int 9)) (tVar 2)) (tVar 4)) (tC (.int 1))) (tC (.int 135792468864297531)))) tNil)) (tC (.int 2305843009213693951))) (gName 5))
  (tSeq (tAsg (tOp rModI (tCB rInt1 (tCons (tOp rMulI (tVar 5) (tVar 5)) tNil)) (tC (.int 1000000000000000003))) (gName 5))
  (tDrop (tBM K "list" rAppend (tVar 1) (tCons (tOp rModI (tCB rInt1 (tCons (tOp rMulI (tVar 5) (tVar 5)) tNil)) (tC (.int 2305843009213693951))) tNil))))
def t_turn (K : PySem.W.Frag) : TS :=
  tSeq (tAsg (tCB (fun xs H Q => ∃ i, xs = [.int i] ∧ Q (.int (if i < 0 then -i else i)) H) (tCons (tOp (rIxS2 K) (tVar 0) (tVar 2)) tNil)) (gName 3))
  (tIfS (tTest (tOp (rI0 fun i j => .bl (decide (j ≤ i))) (tVar 3) (tOp rPowI (tC (.int 10)) (tC (.int 18)))))
    (tFor (iRng1 (tCons (tC (.int 40)) tNil)) (gName 4) (t_big K))
    (tSeq (tAsg (tOp (rAddA K) (tOp rMulI (tC (.int 2)) (tVar 3)) (tCB rInt1 (tCons (tOp (rI0 fun i j => .bl (decide (i < j))) (tOp (rIxS2 K) (tVar 0) (tVar 2)) (tC (.int 0))) tNil))) (gName 3))
      (tFor (iRng1 (tCons (tC (.int 6)) tNil)) (gName 4) (t_mix K))))
def t_draws (K : PySem.W.Frag) : TS :=
  tSeq (tAsg (tLst tNil) (gName 1))
  (tSeq (tFor (iRng1 (tCons (tCB (fun xs H Q => ∃ i j, xs = [.int i, .int j] ∧ Q (.int (if j < i then j else i)) H) (tCons (tCB (rLenA K) (tCons (tVar 0) tNil)) (tCons (tC (.int 63)) tNil))) tNil)) (gName 2) (t_turn K))
  (tRet (tVar 1)))
theorem v_cb {te : TE} {σ : L2.St} {H : Hp} {x z : V} {r : List V → Hp → VK → Prop} (h : Val te σ H x) (hr : ∀ Q : VK, Q z H → r [x] H Q) : Val (tCB r (tCons te tNil)) σ H z := fun Q q => h _ (hr Q q)
theorem v_int {te : TE} {σ : L2.St} {H : Hp} {i : Int} (h : Val te σ H (.int i)) : Val (tCB rInt1 (tCons te tNil)) σ H (.int i) := v_cb h fun _ q => .inl ⟨i, rfl, q⟩
theorem v_pow {σ : L2.St} {H : Hp} (n : Nat) (hn : n ≤ 1000000 := by decide) : Val (tOp rPowI (tC (.int 10)) (tC (.int (n : Int)))) σ H (.int (10 ^ n)) := val_op val_c val_c fun Q q => ⟨10, n, rfl, rfl, ⟨by omega, by omega, by decide⟩, q⟩
section
variable {K : PySem.W.Frag} {ta tb : TE} {σ : L2.St} {H : Hp} {i j : Int}
theorem v_mod (ha : Val ta σ H (.int i)) (hb : Val tb σ H (.int j)) (h : 0 < j := by decide) : Val (tOp rModI ta tb) σ H (.int (i % j)) := val_op ha hb fun Q q => ⟨i, j, rfl, rfl, h, q⟩
theorem v_mulL (ha : Val ta σ H (.int i)) (hb : Val tb σ H (.int j)) (h : -(2 ^ 64) < i ∧ i < 2 ^ 64) : Val (tOp rMulI ta tb) σ H (.int (i * j)) := val_op ha hb fun Q q => ⟨i, j, rfl, rfl, .inl (.inl h), q⟩
theorem v_mulR (ha : Val ta σ H (.int i)) (hb : Val tb σ H (.int j)) (h : -(2 ^ 64) < j ∧ j < 2 ^ 64) : Val (tOp rMulI ta tb) σ H (.int (i * j)) := val_op ha hb fun Q q => ⟨i, j, rfl, rfl, .inl (.inr h), q⟩
theorem v_add (ha : Val ta σ H (.int i)) (hb : Val tb σ H (.int j)) : Val (tOp (rAddA K) ta tb) σ H (.int (i + j)) := val_op ha hb fun Q q => .inl ⟨i, j, rfl, rfl, q⟩
end
theorem app_at {K : PySem.W.Frag} {H H' : Hp} {a l : Addr} {ns : List Int} {σ : L2.St} {m : Nat} (d : Drs H H' a l ns σ m) (hm : m ≤ 100000) {te : TE} {D : Ends} {z : Int} (hz : 0 ≤ z) (hte : Val te σ H' (.int z))
    (k : ∀ H'', Drs H H'' a l ns σ (m + 1) → D.nx σ H'') : tDrop (tBM K "list" rAppend (tVar 1) (tCons te tNil)) D σ H' := by
  obtain ⟨ms, h1, h2, h3⟩ := d.at_
  refine ⟨_, d.s1, .inl ⟨rfl, _, SqL.of h1⟩, ?_⟩
  refine hte _ ?_
  exact ⟨l, _, .int z, rfl, rfl, h1, by rw [List.length_map]; exact Nat.lt_of_le_of_lt (Nat.le_trans h3 hm) (by decide), k _ (d.app hz h1 h2 h3)⟩
theorem big_ok {K : PySem.W.Frag} {H : Hp} {a l : Addr} {ns : List Int} {D : Ends} {m : Nat} {σ : L2.St} {H' : Hp} {z : Int} (d : Drs H H' a l ns σ m) (hm : m + 40 ≤ 100000) (e3 : σ[3]? = some (some (.int z)))
    (k : ∀ σ' H', Drs H H' a l ns σ' (m + 40) → D.nx σ' H') : tFor (iRng1 (tCons (tC (.int 40)) tNil)) (gName 4) (t_big K) D σ H' := by
  refine ⟨40, rfl, by decide, by decide, for_range (lo := 0) (n := 40) (fun i σ' H' => i ≤ 40 ∧ Drs H H' a l ns σ' (m + i) ∧ ∃ z : Int, σ'[3]? = some (some (.int z))) ⟨by decide, d, z, e3⟩ ?_ ?_⟩
  · rintro i σ1 H1 hi ⟨_, d1, z1, e1⟩
    have d2 := d1.set 4 (some (.int (0 + (i : Int))))
    have e2 : (σ1.set 4 (some (V.int (0 + (i : Int)))))[3]? = some (some (.int z1)) := by rw [List.getElem?_set_ne (by decide)]; exact e1
    refine ⟨_, e2, z1, 0, rfl, rfl, _, rfl, ?_⟩
    refine ite2 (fun hz => ?_) (fun _ => ?_)
    · refine st_seq (app_at d2 (by omega) (Int.emod_nonneg z1 (b := 10 ^ 20) (by decide)) (v_mod (v_int (val_var e2)) (v_pow 20)) fun H3 d3 => ?_)
      refine st_set (v := .int (z1 / 10 ^ 20)) (val_op (val_var e2) (v_pow 20) fun Q q => ⟨z1, _, rfl, rfl, wide_div (b := 100) (by decide) (by decide) (by decide) (by decide), q⟩) ?_
      exact ⟨hi, d3.set 3 _, _, d3.get 3⟩
    · exact ⟨hi, d2.mono (by omega), z1, e2⟩
  · rintro σ1 H1 ⟨_, d1, _⟩
    exact k σ1 H1 d1
theorem mix_ok {K : PySem.W.Frag} {H : Hp} {a l : Addr} {ns : List Int} {D : Ends} {m : Nat} {σ : L2.St} {H' : Hp} {z k0 : Int} (d : Drs H H' a l ns σ m) (hm : m + 40 ≤ 100000) (e2 : σ[2]? = some (some (.int k0))) (e3 : σ[3]? = some (some (.int z)))
    (k : ∀ σ' H', Drs H H' a l ns σ' (m + 40) → D.nx σ' H') : tFor (iRng1 (tCons (tC (.int 6)) tNil)) (gName 4) (t_mix K) D σ H' := by
  refine ⟨6, rfl, by decide, by decide, for_range (lo := 0) (n := 6) (fun i σ' H' => i ≤ 6 ∧ Drs H H' a l ns σ' (m + i) ∧ (σ'[2]? = some (some (.int k0)) ∧ σ'[3]? = some (some (.int z)))) ⟨by decide, d, e2, e3⟩ ?_ ?_⟩
  · rintro i σ1 H1 hi ⟨_, d1, f2, f3⟩
    have d2 := d1.set 4 (some (.int (0 + (i : Int))))
    have g2 : (σ1.set 4 (some (V.int (0 + (i : Int)))))[2]? = some (some (.int k0)) := by rw [List.getElem?_set_ne (by decide)]; exact f2
    have g3 : (σ1.set 4 (some (V.int (0 + (i : Int)))))[3]? = some (some (.int z)) := by rw [List.getElem?_set_ne (by decide)]; exact f3
    refine st_seq (st_set (v_mod (v_int (v_add (v_mulR (val_var g3) val_c (by decide)) (v_mulR (v_add (v_add (v_mulL val_c (val_var g2) (by decide)) (val_var (d1.get 4))) val_c) val_c (by decide)))) val_c) ?_)
    have b1 : ∀ x : Int, -(2 ^ 64) < x % 2305843009213693951 ∧ x % 2305843009213693951 < 2 ^ 64 := fun x => by
      have h1 := Int.emod_nonneg x (b := 2305843009213693951) (by decide)
      have h2 := Int.emod_lt_of_pos x (b := 2305843009213693951) (by decide)
      omega
    have b2 : ∀ x : Int, -(2 ^ 64) < x % 1000000000000000003 ∧ x % 1000000000000000003 < 2 ^ 64 := fun x => by
      have h1 := Int.emod_nonneg x (b := 1000000000000000003) (by decide)
      have h2 := Int.emod_lt_of_pos x (b := 1000000000000000003) (by decide)
      omega
    have d3 := fun x => d2.set 5 (some (.int x))
    refine st_seq (st_set (v_mod (v_int (v_mulL (val_var (d2.get 5)) (val_var (d2.get 5)) (b1 _))) val_c) ?_)
    refine app_at ((d3 _).set 5 _) (by omega) (Int.emod_nonneg _ (b := 2305843009213693951) (by decide)) (v_mod (v_int (v_mulL (val_var ((d3 _).get 5)) (val_var ((d3 _).get 5)) (b2 _))) val_c) fun H3 d4 => ?_
    refine ⟨hi, d4, ?_, ?_⟩
    · rw [List.getElem?_set_ne (by decide), List.getElem?_set_ne (by decide)]
      exact g2
    · rw [List.getElem?_set_ne (by decide), List.getElem?_set_ne (by decide)]
      exact g3
  · rintro σ1 H1 ⟨_, d1, _⟩
    exact k σ1 H1 (d1.mono (by omega))
theorem pure_draws {K : PySem.W.Frag} (vs : List V) (H : Hp) (Q : VK) (E : XK) (h : spDraws K vs H Q E) : t_draws K { nx := fun _ H' => Q .non H', rt := Q } (start ["_law_script", "_law_draws_here", "_law_k", "_law_size", "_law_turn", "_law_mixed"] vs) H := by
  obtain ⟨a, ns, rfl, hS, k⟩ := h
  refine ⟨Nat.zero_le _, fun l hl => ?_⟩
  have s1 : Same H (upd H l (.lst [])) := fun b o e => by
    rw [upd_ne (ne_of_none e hl)]
    exact e
  have d0 : Drs H (upd H l (.lst [])) a l ns ((start ["_law_script", "_law_draws_here", "_law_k", "_law_size", "_law_turn", "_law_mixed"] [V.ref a]).set 1 (some (.ref l))) 0 :=
    ⟨rfl, rfl, rfl, hl, s1, [], upd_same, fun x hx => (by cases hx), Nat.le_refl _⟩
  refine ⟨_, d0.s0, .inl ⟨a, _, rfl, .inl (s1.seq hS), ns.length, 63, by rw [List.length_map], ?_⟩⟩
  have hmin : (if (63 : Int) < (ns.length : Int) then (63 : Int) else (ns.length : Int)) = ((min ns.length 63 : Nat) : Int) := by
    split <;> omega
  rw [hmin]
  have hn : min ns.length 63 ≤ 63 := Nat.min_le_right _ _
  refine ⟨_, rfl, by omega, by omega, for_range (lo := 0) (n := ((min ns.length 63 : Nat) : Int).toNat) (fun i σ' H' => i ≤ 63 ∧ Drs H H' a l ns σ' (40 * i)) ⟨by decide, d0⟩ ?_ ?_⟩
  · rintro i σ1 H1 hi ⟨_, d1⟩
    rw [Int.toNat_natCast] at hi
    have d2 := d1.set 2 (some (.int (0 + (i : Int))))
    have hi2 : i < ns.length := by omega
    have hix : atI (ns.map V.int) (0 + (i : Int)) = some (.int ns[i]) := by
      rw [Int.zero_add]
      exact atI_nat (by rw [List.getElem?_map, List.getElem?_eq_getElem hi2]; rfl)
    have vix : ∀ {σ H'}, σ[0]? = some (some (.ref a)) → σ[2]? = some (some (.int (0 + (i : Int)))) → Same H H' → Val (tOp (rIxS2 K) (tVar 0) (tVar 2)) σ H' (.int ns[i]) := fun e0 e2 s => val_op (val_var e0) (val_var e2) fun Q q => .inl ⟨a, _, _, _, rfl, rfl, s.seq hS, hix, q⟩
    refine st_seq (st_set (v_cb (vix d2.s0 (d1.get 2) d2.same) fun Q q => ⟨_, rfl, q⟩) ?_)
    have d3 := d2.set 3 (some (.int (if ns[i] < 0 then -ns[i] else ns[i])))
    refine val_op (r := rI0 fun i j => .bl (decide (j ≤ i))) (val_var (d2.get 3)) (v_pow 18) (fun Q q => ⟨_, _, rfl, rfl, q⟩) _ ⟨_, rfl, ?_⟩
    refine ite2 (fun _ => ?_) (fun _ => ?_)
    · exact big_ok d3 (by omega) (d2.get 3) fun σ' H' d' => ⟨by omega, d'.mono (by omega)⟩
    · have e2 : ((σ1.set 2 (some (V.int (0 + (i : Int))))).set 3 (some (V.int (if ns[i] < 0 then -ns[i] else ns[i]))))[2]? = some (some (V.int (0 + (i : Int)))) := by
        rw [List.getElem?_set_ne (by decide)]
        exact d1.get 2
      refine st_seq (st_set (v_add (v_mulL val_c (val_var (d2.get 3)) (by decide)) (v_cb (val_op (r := rI0 fun i j => .bl (decide (i < j))) (vix d3.s0 e2 d3.same) val_c fun Q q => ⟨_, _, rfl, rfl, q⟩) fun Q q => .inr ⟨_, rfl, q⟩)) ?_)
      exact mix_ok (d3.set 3 _) (by omega) (by rw [List.getElem?_set_ne (by decide)]; exact e2) (d3.get 3) fun σ' H' d' => ⟨by omega, d'.mono (by omega)⟩
  · rintro σ1 H1 ⟨_, d1⟩
    obtain ⟨ms, h1, h2, h3⟩ := d1.at_
    exact ⟨_, d1.s1, k l ms H1 d1.new d1.same h1 h2 (by omega)⟩
end DW

set_option Elab.async false
set_option linter.all false
set_option maxRecDepth 100000
namespace DW
open PySem PySem.Spec PyProof.Rows L2
theorem iteD {p A B : Prop} [Decidable p] (h1 : p → A) (h2 : ¬ p → B) : if decide p = true then A else B := by
  by_cases h : p
  · rw [if_pos (decide_eq_true h)]
    exact h1 h
  · rw [if_neg (by rw [decide_eq_false h]; exact Bool.false_ne_true)]
    exact h2 h
theorem for_inv {g : DG} {b : DS} {D : DEnds} {ds : List Dt} {ρ : En} (P : Nat → En → Prop) (h0 : P 0 ρ) (ht : ∀ (i : Nat) (x : Dt) (ρ' : En), ds[i]? = some x → P i ρ' → g (.dat x) ρ' fun ρ2 => b { D with nx := P (i + 1), ct := P (i + 1), bk := D.nx } ρ2)
    (he : ∀ ρ', P ds.length ρ' → D.nx ρ') : ForI g b D ds ρ := ⟨P, h0, ht, he⟩
theorem for_rng {g : DG} {b : DS} {D : DEnds} {lo : Int} {n : Nat} {ρ : En} (P : Nat → En → Prop) (h0 : P 0 ρ) (ht : ∀ (i : Nat) (ρ' : En), i < n → P i ρ' → g (.dat (.v (.int (lo + (i : Nat))))) ρ' fun ρ2 => b { D with nx := P (i + 1), ct := P (i + 1), bk := D.nx } ρ2)
    (he : ∀ ρ', P n ρ' → D.nx ρ') : ForI g b D (intsR lo n) ρ := by
  refine ⟨P, h0, fun i x ρ' hx p => ?_, fun ρ' p => he ρ' (by rw [intsR_len] at p; exact p)⟩
  have hi : i < n := by
    have := (List.getElem?_eq_some_iff.mp hx).1
    rwa [intsR_len] at this
  rw [intsR_get hi] at hx
  cases hx
  exact ht i ρ' hi p
theorem lc_map {g : DG} {e : DE} {ds : List Dt} {ρ : En} {Q : List Dt → Prop} (f : Nat → Dt) (hl : ds.length ≤ 100000) (h : ∀ (i : Nat) (x : Dt), ds[i]? = some x → ∀ R : Dt → Prop, R (f i) → g (.dat x) ρ fun ρ2 => e ρ2 (datS R) fun _ => False) (q : Q ((List.range ds.length).map f)) : LcI g dYes e ρ ds Q := by
  refine ⟨fun i acc => acc = (List.range i).map f, rfl, fun i x acc hx p => ?_, fun acc p => ?_⟩
  · have hi := (List.getElem?_eq_some_iff.mp hx).1
    exact h i x hx _ ⟨by rw [p, List.length_map, List.length_range]; omega, by rw [p]; show List.map f (List.range i) ++ [f i] = List.map f (List.range (i + 1)); rw [List.range_succ, List.map_append]; rfl⟩
  · rw [p]
    exact q
theorem lc_rng {g : DG} {e : DE} {lo : Int} {n : Nat} {ρ : En} {Q : List Dt → Prop} (f : Nat → Dt) (hl : n ≤ 100000) (h : ∀ i : Nat, i < n → ∀ R : Dt → Prop, R (f i) → g (.dat (.v (.int (lo + (i : Nat))))) ρ fun ρ2 => e ρ2 (datS R) fun _ => False) (q : Q ((List.range n).map f)) : LcI g dYes e ρ (intsR lo n) Q := by
  refine lc_map f (by rw [intsR_len]; exact hl) (fun i x hx => ?_) (by rw [intsR_len]; exact q)
  have hi : i < n := by
    have := (List.getElem?_eq_some_iff.mp hx).1
    rwa [intsR_len] at this
  rw [intsR_get hi] at hx
  cases hx
  exact h i hi
theorem atI_of {α : Type} {xs : List α} {i : Int} {j : Nat} {v : α} (hi : i = (j : Int)) (h : xs[j]? = some v) : atI xs i = some v := by
  subst hi
  exact atI_nat h
section
variable {P : Program} {w : World} {K : PySem.W.Frag} {mg : Str → Option Value} {base : Heap} {N : List Str} {qual : Str} {scope : Scope} {f : Addr} {cdv : Value} {A : Around} {outer : List Env} {s : Shared} {H : Hp} {E : XK}
abbrev WX0 (E : XK) : WX := fun cls d _ H => E cls d H
theorem tk_cx : Takes (cxOf (L2.CX P w) P w K mg base N qual scope f cdv A outer s H E) (WX0 E) := takes_of rfl rfl rfl rfl
theorem po_cx : PassesOwn (model P w) (cxOf (L2.CX P w) P w K mg base N qual scope f cdv A outer s H E).A (cxOf (L2.CX P w) P w K mg base N qual scope f cdv A outer s H E).env (cxOf (L2.CX P w) P w K mg base N qual scope f cdv A outer s H E).xe := passes_of rfl
end
theorem fnk_by {P : Program} {w : World} {K : PySem.W.Frag} {mg : Str → Option Value} {base : Heap} {x : Str} {st : Stmt} {N ps : List Str} {k : Nat} {sd : Sd} {ds : DS} (D : DefAt K mg x st) (S : FnScope N ps (defScope st)) (len : ∀ as Q E, sd as Q E → as.length = ps.length)
    (hbd : ∀ (kV doc pm : Value) (an : Option Addr) (cdv ct : Value) (us : List Value), us.length = ps.length → bindArgs (PySem.W.fnOf x x (defArgs st) (defBody st) (defScope st) .none kV doc pm an cdv ct) ⟨us, []⟩ = pure (ps.zip us))
    (hb : ∀ (X : Cx) (W : WX) (f : Addr) (cdv : Value) (A : Around) (outer : List Env) (s : Shared) (H : Hp) (E : XK), X = cxOf (L2.CX P w) P w K mg base N x (defScope st) f cdv A outer s H E → W = WX0 E → Takes (cxOf (L2.CX P w) P w K mg base N x (defScope st) f cdv A outer s H E) (WX0 E) →
      PassesOwn (model P w) (cxOf (L2.CX P w) P w K mg base N x (defScope st) f cdv A outer s H E).A (cxOf (L2.CX P w) P w K mg base N x (defScope st) f cdv A outer s H E).env (cxOf (L2.CX P w) P w K mg base N x (defScope st) f cdv A outer s H E).xe →
      Room k (cxOf (L2.CX P w) P w K mg base N x (defScope st) f cdv A outer s H E).A → (cxOf (L2.CX P w) P w K mg base N x (defScope st) f cdv A outer s H E).A.units + 64 < cLine → N.Nodup →
      ∃ ts, DSSX (cxOf (L2.CX P w) P w K mg base N x (defScope st) f cdv A outer s H E) (WX0 E) (defBody st) ts ds)
    (hp : ∀ as Q E, sd as Q E → ds (dEnds Q E) (startD N.length as)) : Fnk P w K mg base x (k + 1) ps [] [] sd :=
  fnk_of D S len (fun _ kV doc pm an cdv ct us hl => hbd kV doc pm an cdv ct us hl) (fun f cdv A outer s H E hr => hb _ _ f cdv A outer s H E rfl rfl tk_cx po_cx hr hr.units S.nd) hp
theorem fnk_next {P : Program} {w : World} {K : PySem.W.Frag} {mg : Str → Option Value} {base : Heap} {st : Stmt} (D : DefAt K mg "_law_next" st) (S : FnScope ["_law_draws_here", "_law_many"] ["_law_draws_here", "_law_many"] (defScope st))
    (hbd : ∀ (kV doc pm : Value) (an : Option Addr) (cdv ct : Value) (us : List Value), us.length = 2 → bindArgs (PySem.W.fnOf "_law_next" "_law_next" (defArgs st) (defBody st) (defScope st) .none kV doc pm an cdv ct) ⟨us, []⟩ = pure ((["_law_draws_here", "_law_many"] : List Str).zip us))
    (hb : ∀ (f : Addr) (cdv : Value) (A : Around) (outer : List Env) (s : Shared) (H : Hp) (E : XK), (A.deeper (envOfC "_law_next" (defScope st) s.heap.objs.size f cdv)).units + 64 < cLine →
      PSs (cxOf (L2.CX P w) P w K mg base ["_law_draws_here", "_law_many"] "_law_next" (defScope st) f cdv A outer s H E) (defBody st) (t_next K)) : Fnk P w K mg base "_law_next" 1 ["_law_draws_here", "_law_many"] [] [] sd__law_next := by
  obtain ⟨f, fd, h1, F⟩ := D
  refine ⟨f, fd, [], h1, F.kp, FunD.bindsN F (fun kV doc pm an cdv ct us hl => hbd kV doc pm an cdv ct us hl), .nil, dd_nil, F.ok (k := 0) S (fun vs H Q E h => ?_) fun cdv A outer s H vs Q E hr h => ⟨_, hb f cdv A outer s H E hr.units, pure_next vs H Q E h⟩⟩
  obtain ⟨l0, F, ds, Qd, Ed, b, r, ⟨many, rfl, _⟩, _⟩ := h
  exact r.length
def Drk (P : Program) (w : World) (K : PySem.W.Frag) (mg : Str → Option Value) (base : Heap) : Prop := ∃ f fd, mg "_law_draws" = some (.ref f) ∧ PySem.W.keepIn K (.ref f) = true ∧ Binds K fd ["_law_script"] [] ∧ FnOk P w K mg base (L2.CX P w) 1 f fd ["_law_script"] (spDraws K)
theorem drk_of {P : Program} {w : World} {K : PySem.W.Frag} {mg : Str → Option Value} {base : Heap} {st : Stmt} (D : DefAt K mg "_law_draws" st) (S : FnScope ["_law_script", "_law_draws_here", "_law_k", "_law_size", "_law_turn", "_law_mixed"] ["_law_script"] (defScope st))
    (hbd : ∀ (kV doc pm : Value) (an : Option Addr) (cdv ct : Value) (us : List Value), us.length = 1 → bindArgs (PySem.W.fnOf "_law_draws" "_law_draws" (defArgs st) (defBody st) (defScope st) .none kV doc pm an cdv ct) ⟨us, []⟩ = pure ((["_law_script"] : List Str).zip us))
    (hb : ∀ (f : Addr) (cdv : Value) (A : Around) (outer : List Env) (s : Shared) (H : Hp) (E : XK),
      PassesOwn (model P w) (cxOf (L2.CX P w) P w K mg base ["_law_script", "_law_draws_here", "_law_k", "_law_size", "_law_turn", "_law_mixed"] "_law_draws" (defScope st) f cdv A outer s H E).A (cxOf (L2.CX P w) P w K mg base ["_law_script", "_law_draws_here", "_law_k", "_law_size", "_law_turn", "_law_mixed"] "_law_draws" (defScope st) f cdv A outer s H E).env (cxOf (L2.CX P w) P w K mg base ["_law_script", "_law_draws_here", "_law_k", "_law_size", "_law_turn", "_law_mixed"] "_law_draws" (defScope st) f cdv A outer s H E).xe →
      ∃ ds, DSSX (cxOf (L2.CX P w) P w K mg base ["_law_script", "_law_draws_here", "_law_k", "_law_size", "_law_turn", "_law_mixed"] "_law_draws" (defScope st) f cdv A outer s H E) (WX0 E) (defBody st) (t_draws K) ds) : Drk P w K mg base := by
  obtain ⟨f, fd, h1, F⟩ := D
  refine ⟨f, fd, h1, F.kp, FunD.bindsN F (fun kV doc pm an cdv ct us hl => hbd kV doc pm an cdv ct us hl), F.ok (k := 0) S (fun vs H Q E h => ?_) fun cdv A outer s H vs Q E hr h => ⟨_, (Exists.choose_spec (hb f cdv A outer s H E po_cx)).1, pure_draws vs H Q E h⟩⟩
  obtain ⟨a, ns, rfl, _⟩ := h
  rfl
theorem ps_draws {X : Cx} {W : WX} {x y : Str} {p p2 p3 p4 p5 : Pos} (C : Drk X.prog X.w X.K X.mg X.base) (tk : Takes X W) (hr : Room 1 X.A) (nd : X.N.Nodup) (hg : Gl X "_law_draws" := by rfl) (h0 : X.N[0]? = some y := by rfl) (v0 : Vis X.env.scope y := by first | exact Or.inl rfl | exact Or.inr (Or.inl rfl))
    (hd : (y == ("__debug__" : Str)) = false := by decide) (hcd : (y == ("__classdict__" : Str)) = false := by decide) (h1 : X.N[1]? = some x := by rfl) (hx : Loc X.env.scope x := by first | exact .inl rfl | exact .inr rfl)
    (hf : X.fn x = true ∨ X.env.scope.names.lookup x = some .local := by first | exact .inl rfl | exact .inr rfl | assumption) (he : starEach (.Name y p3 :: []) X.env = (false, eval (.Name y p3) X.env) :: starEach [] X.env := by rfl) (hpl : (backTo p4 (starEach [] X.env)).any (·.1) = false := by rfl)
    (hs : swapsWith (.Call (.Name "_law_draws" p2) [.Name y p3] [] p4) (some (.Name x p)) p5.line X.env = pure false := by rfl) :
    PS X (.Assign [.Name x p] (.Call (.Name "_law_draws" p2) [.Name y p3] [] p4) p5) (tAsg (tCallSD (spDraws X.K) [] (WE W) (tCons (tVar 0) tNil)) (gName 1)) := by
  obtain ⟨f, fd, m, kp, b, F⟩ := C
  exact ps_set nd h1 hx (pe_callSD F hr hg m kp b .nil (fun σ => passAt tk σ) (pa_cons (pe_var h0 v0 hd hcd) pa_nil he) (by decide) he hpl) hs hf
end DW

set_option Elab.async false
set_option linter.all false
set_option maxRecDepth 100000
namespace DW
open PySem PySem.Spec PyProof.Rows L2
inductive Ty6 where
  | int | bool | str | none | list | tuple
def Ty6.nm : Ty6 → String
  | .int => "int" | .bool => "bool" | .str => "str" | .none => "NoneType" | .list => "list" | .tuple => "tuple"
def isB : Ty6 → Ty6 → Bool
  | .int, .int => true | .bool, .int => true | .bool, .bool => true | .str, .str => true | .none, .none => true | .list, .list => true | .tuple, .tuple => true
  | _, _ => false
theorem isB_ok (t T : Ty6) : kitB t.nm T.nm = some (isB t T) := by
  cases t <;> cases T <;> decide +kernel
def tyD : Sl → Option Ty6
  | .dat (.v (.int _)) => some .int
  | .dat (.v (.bl _)) => some .bool
  | .dat (.v (.str _)) => some .str
  | .dat (.v .non) => some .none
  | .dat (.lst _) => some .list
  | .dat (.tup _) => some .tuple
  | .own _ => some .list
  | _ => none
def dIsi (T : Ty6) : DCl
  | [s, .dat (.v (.ty n))], Q => n = T.nm ∧ ∃ t, tyD s = some t ∧ Q (.dat (.v (.bl (isB t T))))
  | _, _ => False
section
variable {K : PySem.W.Frag} {W : WX} {l0 : Addr} {F H F' H' : Hp} {v : V} {s : Sl} {X : Cx} {pos : Pos}
theorem tyX_seqL {a : Addr} {xs : List V} (h : SqL K H a xs) : TyX K H (.ref a) (.type "list") := by
  rcases h with (h | ⟨o, h⟩) | ⟨o, _, _, h, c, _⟩
  · exact .base (.lst h)
  · exact .base (.frz h)
  · exact .kList h c
theorem tyX_seqT {a : Addr} {xs : List V} (h : SqT K H a xs) : TyX K H (.ref a) (.type "tuple") := by
  rcases h with (h | ⟨o, h⟩) | ⟨o, _, _, h, c, _⟩
  · exact .base (.tup h)
  · exact .fTuple h
  · exact .kTuple h c
theorem tyX_of (b : Base l0 F H) (r : SlV K l0 F H v s) {t : Ty6} (h : tyD s = some t) : TyX K H v (.type t.nm) := by
  unfold tyD at h
  split at h
  · cases h; cases r; exact .base (.int _)
  · cases h; cases r; exact .base (.bl _)
  · cases h; cases r; exact .base (.str _)
  · cases h; cases r; exact .base .non
  · cases h
    obtain ⟨a, xs, e, z, _⟩ := r.list b (.inl rfl)
    subst e
    exact tyX_seqL z
  · cases h
    obtain ⟨a, xs, e, z, _⟩ := r.tuple b
    subst e
    exact tyX_seqT z
  · cases h
    obtain ⟨a, xs, e, z, _⟩ := r.list b (.inr rfl)
    subst e
    exact tyX_seqL z
  · cases h
theorem sc_isi (T : Ty6) : SndC K (rIsi K) (dIsi T) := fun vs ss Q h l0 F H b r Qc k => by
  unfold dIsi at h
  split at h
  · obtain ⟨en, t, ht, q⟩ := h
    subst en
    cases r with
    | cons r1 r =>
      cases r with
      | cons r2 r =>
        cases r
        obtain rfl := r2.val
        exact ⟨_, _, _, _, _, rfl, .ty _, tyX_of b r1 ht, kit_ty (isB_ok t T), k.here b q⟩
  · exact h.elim
theorem de_tyn {x : Str} {p : Pos} {n : String} (hg : Gl X x) (hm : X.mg x = none) (hv : bootBuiltins x = some (.type n)) (hn : x ≠ "__name__" := by decide) (hd : (x == ("__debug__" : Str)) = false := by decide) :
    DEX X W (.Name x p) (tC (.ty n)) (dC (.ty n)) := de_pe (pe_bltn hg hm hv rfl hn hd)
end
section
variable {X : Cx} {pos : Pos}
def gSq (K : PySem.W.Frag) (n : Nat) (t : TGs) : TG := fun v σ H Q => gTup K n t v σ H Q ∨ gUnl K n t v σ H Q
theorem pg_sq {es : List Expr} {k : Nat} {t : TGs} {n : Nat} (hc : X.calm = true) (h : PGs X es t) (hn : (assignEach es X.env).length = n := by rfl) (hst : (assignEach es X.env).findIdx? (·.1) = none := by rfl) : PG X (.Tuple es k pos) (gSq X.K n t) :=
  ⟨fun pins s σ H v u Q I r hw => hw.elim (fun w => (pg_tup hc h hn hst).run pins s σ H v u Q I r w) (fun w => (pg_unl hc h hn hst).run pins s σ H v u Q I r w)⟩
def gdSq (n : Nat) (t : DGs) : DG
  | .dat (.tup ds), ρ, R => ds.length = n ∧ t ds ρ R
  | .dat (.lst ds), ρ, R => ds.length = n ∧ t ds ρ R
  | .dat (.brw ds), ρ, R => ds.length = n ∧ t ds ρ R
  | _, _, _ => False
theorem dg_sq {es : List Expr} {k : Nat} {g : TGs} {t : DGs} {n : Nat} {ns : List Nat} (hc : X.calm = true) (h : DGsX X es ns g t) (hn : (assignEach es X.env).length = n := by rfl) (hst : (assignEach es X.env).findIdx? (·.1) = none := by rfl) : DGX X (.Tuple es k pos) ns (gSq X.K n g) (gdSq n t) := by
  obtain ⟨p, sg⟩ := h
  refine ⟨pg_sq hc p hn hst, fun s ρ R h l0 F H σ v S r Rc k => ?_⟩
  unfold gdSq at h
  split at h
  · obtain ⟨a, xs, e, h1, h2⟩ := SlV.tup r
    exact .inl ⟨a, xs, e, sameT S.bs.sub h1, by rw [h2.length]; exact h.1, sg _ ρ R h.2 l0 F H σ xs S h2 Rc k⟩
  · obtain ⟨a, xs, e, h1, h2⟩ := SlV.lst r
    exact .inr ⟨a, xs, e, S.bs.sub.seq h1, by rw [h2.length]; exact h.1, sg _ ρ R h.2 l0 F H σ xs S h2 Rc k⟩
  · obtain ⟨a, xs, e, h1, h2⟩ := SlV.brw r
    exact .inr ⟨a, xs, e, S.bs.sub.seq h1, by rw [h2.length]; exact h.1, sg _ ρ R h.2 l0 F H σ xs S h2 Rc k⟩
  · exact h.elim
end
theorem eqv_ii (a b : Int) : PyData.eqv (.int a) (.int b) = decide (a = b) := by
  rw [PyData.eqv]
  exact Bool.beq_eq_decide_eq a b
theorem iteE {a b : Int} {A B : Prop} (h1 : a = b → A) (h2 : a ≠ b → B) : if PyData.eqv (.int a) (.int b) = true then A else B := by
  rw [eqv_ii]
  exact iteD h1 h2
def okD : Nat → Dt → Bool
  | _, .v (.int _) => true
  | _, .v (.bl _) => true
  | _, .v .non => true
  | _, .v (.str x) => (PyData.str x).canLay0
  | n + 1, .lst ds => ds.all (okD n)
  | n + 1, .tup ds => ds.all (okD n)
  | _, _ => false
theorem okD_pys {n : Nat} (ih : ∀ d, okD n d = true → ∃ e, toPy d = some e ∧ e.canLay0 = true ∧ e.depth ≤ n + 1) : ∀ ds : List Dt, ds.all (okD n) = true → ∃ es, toPys ds = some es ∧ PyData.canLayAll0 es = true ∧ PyData.depthAll es ≤ n + 1
  | [], _ => ⟨[], rfl, rfl, by simp [PyData.depthAll]⟩
  | d :: ds, h => by
    rw [List.all_cons, Bool.and_eq_true] at h
    obtain ⟨e, h1, h2, h3⟩ := ih d h.1
    obtain ⟨es, h4, h5, h6⟩ := okD_pys ih ds h.2
    refine ⟨e :: es, by simp only [toPys, h1, h4], by simp only [PyData.canLayAll0, h2, h5, Bool.and_self], ?_⟩
    simp only [PyData.depthAll]
    omega
theorem okD_py : ∀ (n : Nat) (d : Dt), okD n d = true → ∃ e, toPy d = some e ∧ e.canLay0 = true ∧ e.depth ≤ n + 1
  | n, .v x, h => by
    cases x with
    | int i => exact ⟨.int i, rfl, rfl, by simp [PyData.depth]⟩
    | bl b => exact ⟨.bool b, rfl, rfl, by simp [PyData.depth]⟩
    | non => exact ⟨.none, rfl, rfl, by simp [PyData.depth]⟩
    | str x => exact ⟨.str x, rfl, by cases n <;> exact h, by simp [PyData.depth]⟩
    | _ => cases n <;> cases h
  | 0, .lst ds, h => by cases h
  | 0, .tup ds, h => by cases h
  | n + 1, .lst ds, h => by
    obtain ⟨es, h1, h2, h3⟩ := okD_pys (okD_py n) ds h
    exact ⟨.list es, by simp only [toPy, h1, Option.map_some], by simpa only [PyData.canLay0] using h2, by simp only [PyData.depth]; omega⟩
  | n + 1, .tup ds, h => by
    obtain ⟨es, h1, h2, h3⟩ := okD_pys (okD_py n) ds h
    exact ⟨.tuple es, by simp only [toPy, h1, Option.map_some], by simpa only [PyData.canLay0] using h2, by simp only [PyData.depth]; omega⟩
  | n, .obj _ _, h => by cases n <;> cases h
  | n, .slt _ _, h => by cases n <;> cases h
  | n, .exc _ _ _ _, h => by cases n <;> cases h
  | n, .dct _, h => by cases n <;> cases h
  | n, .dcn _ _, h => by cases n <;> cases h
  | n, .brw _, h => by cases n <;> cases h
  | n, .xv _ _, h => by cases n <;> cases h
  | n, .drw, h => by cases n <;> cases h
theorem dEq_self {d : Dt} {Q : Sl → Prop} (h : okD 60 d = true) (q : Q (.dat (.v (.bl true)))) : dEq (.dat d) (.dat d) Q := by
  obtain ⟨e, h1, h2, h3⟩ := okD_py 60 d h
  have h4 : SeqAt.shaped e = true := by
    unfold SeqAt.shaped
    rw [h2, decide_eq_true (by omega)]
    rfl
  refine ⟨e, e, h1, h1, h4, h4, ?_⟩
  rw [SeqAt.eqv_refl e h2]
  exact q
theorem dNe_self {d : Dt} {Q : Sl → Prop} (h : okD 60 d = true) (q : Q (.dat (.v (.bl false)))) : dNe (.dat d) (.dat d) Q := by
  obtain ⟨e, h1, h2, h3⟩ := okD_py 60 d h
  have h4 : SeqAt.shaped e = true := by
    unfold SeqAt.shaped
    rw [h2, decide_eq_true (by omega)]
    rfl
  refine ⟨e, e, h1, h1, h4, h4, ?_⟩
  rw [SeqAt.eqv_refl e h2]
  exact q
end DW

set_option Elab.async false
set_option linter.all false
set_option maxRecDepth 100000
namespace DW
open PySem PySem.Spec PyProof.Rows L2
section
variable {X : Cx} {W : WX} {e o : Expr} {xe xo : TE} {de dob : DE} {pos apos : Pos} {f m : Str}
def MOk (P : Program) (w : World) (K : PySem.W.Frag) (mg : Str → Option Value) (base : Heap) (k : Nat) (m : Str) (C : Addr) (sd : Sd) : Prop := ∃ (g : Addr) (fd : FuncData) (ps : List Str), Cls K C ∧ Meth K C m g ∧ FnOk P w K mg base (L2.CX P w) k g fd ps (spOf K sd) ∧ Binds K fd ps []
end
end DW

set_option Elab.async false
set_option linter.all false
set_option maxRecDepth 100000
namespace DW
open PySem PySem.Spec PyProof.Rows L2
def putD (f : Str) (v : Dt) : List (Str × Dt) → List (Str × Dt)
  | [] => [(f, v)]
  | (g, x) :: r => if g = f then (g, v) :: r else (g, x) :: putD f v r
section
variable {K : PySem.W.Frag} {l0 : Addr} {F H : Hp} {σ : L2.St} {ρ : En}
theorem DenF.put {f : Str} {v : V} {d : Dt} (r : Den K l0 F v d) : ∀ {gs : List (Str × V)} {fs : List (Str × Dt)}, DenF K l0 F gs fs → DenF K l0 F (putF f v gs) (putD f d fs)
  | _, _, .nil => .cons r .nil
  | _, _, .cons (f := g) h t => by
    unfold putF putD
    by_cases q : g = f
    · rw [if_pos q, if_pos q]
      exact .cons r t
    · rw [if_neg q, if_neg q]
      exact .cons h (DenF.put r t)
theorem DenF.len : ∀ {gs : List (Str × V)} {fs : List (Str × Dt)}, DenF K l0 F gs fs → gs.length = fs.length
  | _, _, .nil => rfl
  | _, _, .cons _ t => congrArg (· + 1) (DenF.len t)
theorem Stt.oob {i : Nat} {p : Addr × Addr} {C : Addr} {fs : List (Str × Dt)} (S : Stt K l0 F H σ ρ) (h : ρ[i]? = some (.oob p C fs)) : ∃ gs, σ[i]? = some (some (.ref p.1)) ∧ F p.1 = none ∧ p.1 ≠ l0 ∧ H p.1 = some (.ins C p.2 gs) ∧ DenF K l0 F gs fs ∧ F p.2 = none ∧ p.2 ≠ l0 ∧ H p.2 = some (.own p.1) := by
  rcases S.sl i _ h with z | ⟨v, h1, a, dx, gs, e, h2, h3, h4, h5, h6, h7, h8, h9, h10⟩
  · cases z
  · subst e
    subst h6
    subst h7
    exact ⟨gs, h1, h2, h3, h4, h5, h8, h9, h10⟩
end
structure GoI (l0 x : Addr) (F H F' H' : Hp) : Prop where
  bs : Base l0 F' H'
  ex : Same F F'
  new : ∀ a, F a = none → F' a ≠ none → H a = none ∨ a = x
  keep : ∀ a o, a ≠ l0 → a ≠ x → H a = some o → H' a = some o
def spIn (K : PySem.W.Frag) (C : Addr) (sd : Sd) : Sp := fun vs H Q E => ∃ x us l0 F ds Qd Ed dx, vs = V.ref x :: us ∧ Base l0 F H ∧ F x = none ∧ x ≠ l0 ∧ H x = some (.ins C dx []) ∧ (F dx = none ∧ dx ≠ l0 ∧ H dx = some (.own x)) ∧ Dens K l0 F us ds ∧ sd ds Qd Ed ∧
  (∀ gs fs dx' F' H', GoI l0 x F H F' H' → F' x = none → H' x = some (.ins C dx' fs) → DenF K l0 F' fs gs → Qd (.obj C gs) → Q .non H') ∧ (∀ cls dct xn F' H', GoI l0 x F H F' H' → XDen K l0 F' H' cls dct xn → Ed xn → E cls dct H')
def startI (p : Addr × Addr) (C : Addr) (n : Nat) (ds : List Dt) : En := .oob p C [] :: startD (n - 1) ds
theorem startD_plain {n : Nat} {ds : List Dt} {i : Nat} {s : Sl} (h : (startD n ds)[i]? = some s) (o : s.isOwn = true) : False := by
  unfold startD at h
  by_cases z : i < ds.length
  · rw [List.getElem?_append_left (by rw [List.length_map]; exact z), List.getElem?_map] at h
    cases e : ds[i]? with
    | none => rw [e] at h; cases h
    | some d =>
      rw [e] at h
      cases h
      cases o
  · rw [List.getElem?_append_right (by rw [List.length_map]; omega)] at h
    have := List.mem_of_getElem? h
    rw [List.eq_of_mem_replicate this] at o
    cases o
section
variable {K : PySem.W.Frag} {l0 : Addr} {F H : Hp}
theorem Stt.startI {N : List Str} {y : Str} {x C dx : Addr} {vs : List V} {ds : List Dt} (b : Base l0 F H) (hF : F x = none) (n0 : x ≠ l0) (hH : H x = some (.ins C dx [])) (hd : F dx = none ∧ dx ≠ l0 ∧ H dx = some (.own x)) (r : Dens K l0 F vs ds) : Stt K l0 F H (L2.start (y :: N) (.ref x :: vs)) (DW.startI (x, dx) C (y :: N).length ds) := by
  have S0 := Stt.start (N := N) b r
  have e1 : L2.start (y :: N) (.ref x :: vs) = some (.ref x) :: L2.start N vs := by
    unfold L2.start
    simp
  have e2 : DW.startI (x, dx) C (y :: N).length ds = .oob (x, dx) C [] :: startD N.length ds := rfl
  rw [e1, e2]
  refine ⟨b, by rw [List.length_cons, List.length_cons, S0.len], fun i s h => ?_, fun i j s t a h1 h2 ⟨o1, z1⟩ ⟨o2, z2⟩ => ?_⟩
  · cases i with
    | zero =>
      cases h
      exact .inr ⟨.ref x, rfl, x, dx, [], rfl, hF, n0, hH, .nil, rfl, rfl, hd⟩
    | succ i => exact S0.sl i s h
  · cases i with
    | zero =>
      cases j with
      | zero => rfl
      | succ j => exact (startD_plain h2 o2).elim
    | succ i => exact (startD_plain h1 o1).elim
theorem startI_ow {N : List Str} {y : Str} {x dx C : Addr} {vs : List V} {ds : List Dt} {a : Addr} (h : Ow (L2.start (y :: N) (.ref x :: vs)) (DW.startI (x, dx) C (y :: N).length ds) a) : a = x := by
  obtain ⟨i, s, h1, h2, h3⟩ := h
  cases i with
  | zero =>
    have e1 : L2.start (y :: N) (.ref x :: vs) = some (.ref x) :: L2.start N vs := by
      unfold L2.start
      simp
    rw [e1] at h3
    cases h1
    rcases h3 with h3 | h3
    · cases h3
      rfl
    · exact nomatch h3
  | succ i => exact (startD_plain h1 h2).elim
end
section
variable {X : Cx} {W : WX} {e : Expr} {pos : Pos}
theorem run_makeS {CX : CXT} {k : Nat} {C f : Addr} {fd : FuncData} {ps : List Str} {sp : Sp} {E : L2.St → XK} {pins : List (Addr × Obj)} {σ : L2.St} {H : Hp} {s : Shared} {Q : VK} {us : List Value} {vs : List V} (M : Mk X.K C f) (F : FnOk X.prog X.w X.K X.mg X.base CX k f fd ps sp) (hr : Room (k + 1) X.A) (hb : Binds X.K fd ps [])
    (hx : PassesAt CX X σ (E σ)) (I : Inv X pins σ H s) (r : Vals vs us)
    (h : ∀ x dx, H x = none → H dx = none → dx ≠ x → sp (.ref x :: vs) (upd (upd H dx (.own x)) x (.ins C dx [])) (fun v H2 => v = .non ∧ Q (.ref x) H2) (E σ)) :
    wpAny (model X.prog X.w) X.A (call (.ref C) us) (EP X pins σ Q) X.xe s := by
  have hq := h (s.heap.objs.size + 1) s.heap.objs.size (I.hok.fresh (Nat.le_succ _)) (I.hok.fresh (Nat.le_refl _)) (Nat.ne_of_lt (Nat.lt_succ_self _))
  have I2 := Inv.made (C := C) I
  have r2 : Vals (V.ref (s.heap.objs.size + 1) :: vs) (Value.ref (s.heap.objs.size + 1) :: us) := .cons rfl r
  have hl : (Value.ref (s.heap.objs.size + 1) :: us).length = ps.length := by
    have e := r2.length
    rw [F.len _ _ _ _ hq] at e
    exact e.symm
  have b := hb _ (Value.ref (s.heap.objs.size + 1) :: us) I2.kIn (by rw [List.append_nil]; exact hl)
  rw [List.append_nil] at b
  refine wpAny_call (make_map (f := f) I.kIn M.makes M.init (beq_iff_eq.mp M.fn) (codeAny_mono (F.run _ X.stack _ _ ⟨Value.ref (s.heap.objs.size + 1) :: us, []⟩ (Value.ref (s.heap.objs.size + 1) :: us) _ _ (E σ) (hr.make C us [])
    (I2.env0.make C us []) b r2 hq) fun r s' hq' => ?_))
  cases r with
  | error e => exact hx pins _ _ e s' I2 hq'
  | ok fl =>
    cases fl with
    | ret u =>
      obtain ⟨v, H', I3, rv, ev, q3⟩ := I2.after hq'
      subst ev
      exact ⟨rv, ⟨V.ref (s.heap.objs.size + 1), H', I3, rfl, q3⟩⟩
    | next => exact False.elim hq'
    | brk => exact False.elim hq'
    | cont => exact False.elim hq'
def tMakeS (C : Addr) (sp : Sp) (E : L2.St → XK) (t : TA) : TE := fun σ H Q => t σ H fun vs H1 => ∀ x dx, H1 x = none → H1 dx = none → dx ≠ x → sp (.ref x :: vs) (upd (upd H1 dx (.own x)) x (.ins C dx [])) (fun v H2 => v = .non ∧ Q (.ref x) H2) (E σ)
theorem pe_makeS {CX : CXT} {k : Nat} {C f : Addr} {fd : FuncData} {ps : List Str} {sp : Sp} {E : L2.St → XK} {x : Str} {p : Pos} {es : List Expr} {t : TA} (M : Mk X.K C f) (F : FnOk X.prog X.w X.K X.mg X.base CX k f fd ps sp) (hr : Room (k + 1) X.A) (hg : Gl X x) (hm : X.mg x = some (.ref C)) (hb : Binds X.K fd ps []) (hx : ∀ σ, PassesAt CX X σ (E σ))
    (ha : PA X (e :: es) t) (hdb : (x == ("__debug__" : Str)) = false := by decide) (he : starEach (e :: es) X.env = (false, eval e X.env) :: starEach es X.env := by rfl) (hpl : (backTo pos (starEach es X.env)).any (·.1) = false := by rfl) :
    PE X (.Call (.Name x p) (e :: es) [] pos) (tMakeS C sp E t) := by
  refine ⟨fun pins s σ H Q I h => ?_⟩
  refine wpAny_Call_Name_kw (ld_glob I hg hm ?_ hdb)
  refine PySem.W.callWith_K (h₀ := X.base) I.ok.mod.kin M.kp (thn (ha.run pos pins s σ H _ I h) fun us s1 ⟨vs, H1, I1, r, q⟩ => ⟨I1.kIn, ?_⟩) he hpl
  exact run_makeS M F hr hb (hx σ) I1 r q
def dMake (sd : Sd) (da : DA) : DE := fun ρ Q E => da ρ (fun ss => plain ss fun ds => sd ds (fun d => Q (.dat d)) E) E
def MakeOk (P : Program) (w : World) (K : PySem.W.Frag) (mg : Str → Option Value) (base : Heap) (k : Nat) (x : Str) (C : Addr) (sd : Sd) : Prop := ∃ (f : Addr) (fd : FuncData) (ps : List Str), Mk K C f ∧ FnOk P w K mg base (L2.CX P w) k f fd ps (spIn K C sd) ∧ mg x = some (.ref C) ∧ Binds K fd ps []
end
end DW

set_option Elab.async false
set_option linter.all false
set_option maxRecDepth 100000
namespace DW
open PySem PySem.Spec PyProof.Rows L2
structure IsC (K : PySem.W.Frag) (C : Addr) : Prop where
  cl : Cls K C
  ha : PySem.W.findIn K (.ref C) "__class__" = some (some (.builtin "object.__class__"))
  hn : PySem.W.specialIn K (.builtin "object.__class__") "__get__" = some (some (.builtin "getset_descriptor.__get__"))
  tk : PySem.W.takesIn K (.builtin "object.__class__") = some true
  hm : PySem.W.mroIn K C (.type "object") = some true
structure IsTbl (K : PySem.W.Frag) (D : Addr) (tbl : List (Addr × Bool)) : Prop where
  own : ∀ r ∈ tbl, IsC K r.1 ∧ PySem.W.kitOne K (.ref r.1) (.ref D) = some r.2
  pl : ∀ t : Ty6, PySem.W.kitOne K (.type t.nm) (.ref D) = some false
section
variable {K : PySem.W.Frag} {W : WX} {X : Cx}
theorem de_clsn {x : Str} {p : Pos} {D : Addr} (hg : Gl X x) (hm : X.mg x = some (.ref D)) (hd : (x == ("__debug__" : Str)) = false := by decide) : DEX X W (.Name x p) (tC (.ref D)) (dC (.ref D)) := de_pe (pe_glob hg hm rfl hd)
end
end DW

set_option Elab.async false
set_option linter.all false
set_option maxRecDepth 100000
namespace DW
open PySem PySem.Spec PyProof.Rows L2
end DW

set_option Elab.async false
set_option linter.all false
set_option maxRecDepth 100000
namespace DW
open PySem PySem.Spec PyProof.Rows L2
end DW

set_option Elab.async false
set_option linter.all false
set_option maxRecDepth 100000
namespace DW
open PySem PySem.Spec PyProof.Rows L2
theorem mfn_by {P : Program} {w : World} {K : PySem.W.Frag} {mg : Str → Option Value} {base : Heap} {x qual : Str} {st : Stmt} {N ps : List Str} {k : Nat} {sd : Sd} {ds : DS} {f : Addr} {fd : FuncData} (F : FunD K x qual (defArgs st) (defBody st) (defScope st) [] [] f fd) (S : FnScope N ps (defScope st)) (len : ∀ as Q E, sd as Q E → as.length = ps.length)
    (hbd : ∀ (kV doc pm : Value) (an : Option Addr) (cdv ct : Value) (us : List Value), us.length = ps.length → bindArgs (PySem.W.fnOf x qual (defArgs st) (defBody st) (defScope st) .none kV doc pm an cdv ct) ⟨us, []⟩ = pure (ps.zip us))
    (hb : ∀ (X : Cx) (W : WX) (f : Addr) (cdv : Value) (A : Around) (outer : List Env) (s : Shared) (H : Hp) (E : XK), X = cxOf (L2.CX P w) P w K mg base N qual (defScope st) f cdv A outer s H E → W = WX0 E → Takes (cxOf (L2.CX P w) P w K mg base N qual (defScope st) f cdv A outer s H E) (WX0 E) → PassesOwn (model P w) (cxOf (L2.CX P w) P w K mg base N qual (defScope st) f cdv A outer s H E).A (cxOf (L2.CX P w) P w K mg base N qual (defScope st) f cdv A outer s H E).env (cxOf (L2.CX P w) P w K mg base N qual (defScope st) f cdv A outer s H E).xe →
      Room k (cxOf (L2.CX P w) P w K mg base N qual (defScope st) f cdv A outer s H E).A → (cxOf (L2.CX P w) P w K mg base N qual (defScope st) f cdv A outer s H E).A.units + 64 < cLine → N.Nodup →
      ∃ ts, DSSX (cxOf (L2.CX P w) P w K mg base N qual (defScope st) f cdv A outer s H E) (WX0 E) (defBody st) ts ds)
    (hp : ∀ as Q E, sd as Q E → ds (dEnds Q E) (startD N.length as)) : FnOk P w K mg base (L2.CX P w) (k + 1) f fd ps (spOf K sd) ∧ Binds K fd ps [] :=
  ⟨fn_d F S len (fun cdv A outer s H E hr => hb _ _ f cdv A outer s H E rfl rfl tk_cx po_cx hr hr.units S.nd) hp, FunD.bindsN F (fun kV doc pm an cdv ct us hl => hbd kV doc pm an cdv ct us hl)⟩
end DW

set_option Elab.async false
set_option linter.all false
set_option maxRecDepth 100000
namespace DW
open PySem PySem.Spec PyProof.Rows L2 NdefX ClX
structure FunX (P : Program) (K : PySem.W.Frag) (F : NF) (D f : Addr) (fd : FuncData) : Prop where
  ex : ∃ (oc : Value) (od : Option Addr) (kV doc pm : Value) (an : Option Addr) (ct : Value) (osl : Array (Option Value)), fd = PySem.W.fnX F.name F.qual F.params F.body F.scope F.cl .none kV doc pm an (.ref F.c) ct ∧ K.lookup f = some ⟨oc, od, .func fd, osl⟩
  code : PySem.W.codeIn K (.ref F.c) F.qual = true
  file : ∃ (cc : Value) (cd : Option Addr) (vs : Array Value) (sl : Array (Option Value)) (fl : Str) (tf : Tok), K.lookup F.c = some ⟨cc, cd, .fields vs, sl⟩ ∧ vs[2]? = some (.str fl tf) ∧ ((P.main.file : Str) == fl) = true
  cell : ∃ c : Addr, F.cl = [(("__class__" : Str), c)] ∧ ∃ (cv : Value) (cd : Option Addr) (sl : Array (Option Value)), K.lookup c = some ⟨cv, cd, .cell (some (.ref D)), sl⟩
  cls : ∃ cd, PySem.W.clsIn K D = some cd
  sup : PySem.W.nsIn K mainGlobals "super" = some none
  kp : PySem.W.keepIn K (.ref f) = true
  top : (P.main.scope.names.lookup ("super" : Str)).isSome = false
def PSsA (X : Cx) (b : List Stmt) (l : List Stmt) (t : TS) : Prop := ∀ (pins : List (Addr × Obj)) (s : Shared) (σ : L2.St) (H : Hp) (D : Ends), Inv X pins σ H s → t D σ H → PySem.wpAt (model X.prog X.w) X.A (.func b X.env) (execs l X.env) (SP X pins D) X.xe s
def PSA (X : Cx) (b : List Stmt) (st : Stmt) (t : TS) : Prop := ∀ (pins : List (Addr × Obj)) (s : Shared) (σ : L2.St) (H : Hp) (D : Ends), Inv X pins σ H s → t D σ H → PySem.wpAt (model X.prog X.w) X.A (.func b X.env) (exec st X.env) (SP X pins D) X.xe s
def PEA (X : Cx) (b : List Stmt) (e : Expr) (t : TE) : Prop := ∀ (pins : List (Addr × Obj)) (s : Shared) (σ : L2.St) (H : Hp) (Q : VK), Inv X pins σ H s → t σ H Q → PySem.wpAt (model X.prog X.w) X.A (.func b X.env) (eval e X.env) (EP X pins σ Q) X.xe s
section
variable {X : Cx} {b l : List Stmt} {st : Stmt} {e : Expr} {t u : TS} {te : TE} {pos : Pos}
theorem pssa_of (h : PSs X l t) : PSsA X b l t := fun pins s σ H D I q => wpAt_of_wpAny (h.run pins s σ H D I q)
theorem pssa_cons (h : PSA X b st t) (k : PSsA X b l u) : PSsA X b (st :: l) (tSeq t u) := fun pins s σ H D I q => by
  refine ks_wpAt_execs_cons (ks_wpAt_mono (h pins s σ H { D with nx := u D } I q) (fun fl s' hs => ?_) fun _ _ z => z)
  cases fl with
  | next =>
    obtain ⟨σ', H', J, q'⟩ := hs
    exact k pins s' σ' H' D J q'
  | brk => exact hs
  | cont => exact hs
  | ret v => exact hs
theorem psa_expr (h : PEA X b e te) (hi : interactive X.env = false := by rfl) (hs : swapsWith e none pos.line X.env = pure false := by rfl) : PSA X b (.Expr e pos) (tDrop te) := fun pins s σ H D I q => by
  refine ks_wpAt_Expr_any (ks_wpAt_mono (h pins s σ H _ I q) (fun v s' hv => ?_) fun _ _ z => z) hi hs
  obtain ⟨x, H', J, _, q'⟩ := hv
  exact ⟨σ, H', J, q'⟩
end
theorem FunX.ok {CX : CXT} {P : Program} {w : World} {K : PySem.W.Frag} {mg : Str → Option Value} {base : Heap} {N ps : List Str} {F : NF} {D f : Addr} {fd : FuncData} {k : Nat} {sp : Sp} (Z : FunX P K F D f fd) (S : NScope N ps ["__class__"] F.scope) (len : ∀ vs H Q E, sp vs H Q E → vs.length = ps.length)
    (hbody : ∀ (A : Around) (outer : List Env) (s : Shared) (H : Hp) (vs : List V) (Q : VK) (E : XK), Room k (A.deeper (envF F f s.heap.objs.size)) → sp vs H Q E →
      ∃ t, PSsA (ncx CX P w K mg base N F f A outer s H E) F.body F.body t ∧ t { nx := fun _ H' => Q .non H', rt := Q } (startF N vs [none]) H) : FnOk P w K mg base CX (k + 1) f fd ps sp := by
  refine ⟨len, fun A outer s H args us vs Q E hr e0 hb r hsp => ?_⟩
  have hl := len _ _ _ _ hsp
  have KX : K.In s.heap := e0.mod.kin.keeps fun b o e => (e0.bs b o e).1
  have lim : s.heap.NoLimit := e0.mod.nolimit.keeps fun b o e => (e0.bs b o e).1
  obtain ⟨oc, od, kV, doc, pm, an, ct, osl, efd, lk⟩ := Z.ex
  obtain ⟨c, ecl, cv, cd, sl, hc⟩ := Z.cell
  subst efd
  have C : CellsAt F.cl ["__class__"] [none] s.heap H := by
    rw [ecl]
    have hcs := e0.bs _ _ (e0.mod.kin _ _ hc)
    have one : ∀ y c', ([("__class__", c)] : List (Str × Addr)).lookup y = some c' → y = "__class__" ∧ c' = c := fun y c' e => by
      have m := PySem.mem_of_lookup e
      simp only [List.mem_singleton, Prod.mk.injEq] at m
      exact m
    refine ⟨rfl, fun y c' e => ?_, fun x y c' e1 e2 => (one _ _ e1).1.trans (one _ _ e2).1.symm, fun i y hi => ?_⟩
    · obtain ⟨_, rfl⟩ := one _ _ e
      exact ⟨hcs.2, _, _, hcs.1, rfl⟩
    · cases i with
      | zero =>
        cases hi
        exact ⟨c, rfl, fun v hv => by cases hv⟩
      | succ i => cases hi
  refine codeAny_call_function hr.depth (KX _ _ lk) rfl S.co S.gen rfl (PySem.W.codeRec_of KX Z.code) (hb _ _ _ _ ?_)
  refine wpAny_newFunctionEnv S.nocell (fun ⟨n, _⟩ hy => S.par n (List.of_mem_zip hy).1) (fun h₁ hns hsb => ⟨lim.fresh _ hsb, ?_⟩) S.kind
  show codeAny _ _ (.func F.body (envF F f s.heap.objs.size)) _ _
  refine ks_codeAny_funcAt ?_
  have kp : ∀ b o, s.heap.get? b = some o → h₁.get? b = some o := fun b o e => hsb.extBut b o (Nat.ne_of_lt (Heap.lt_size e)) (Heap.get?_push_of_some _ e)
  obtain ⟨t, ht, hq⟩ := hbody A outer s H vs Q E (hr.deeper _) hsp
  have I : Inv (ncx CX P w K mg base N F f A outer s H E) [] (startF N vs [none]) H { s with heap := h₁, toks := s.toks + (ps.zip us).length } := inv_startN S hr.hd e0 hl r C hns kp
  refine ks_wpAt_mono (ht [] _ _ _ _ I hq) (fun fl s' hs => ?_) fun e s' hs => hs
  have fin : ∀ {σ' : L2.St} {H' : Hp} {v : V} {u : Value}, Inv (ncx CX P w K mg base N F f A outer s H E) [] σ' H' s' → L2.RelV v u → Q v H' → CE outer P w H s Q u s' := fun {σ' H' v u} J rv q => ⟨v, H', J.os, J.bare, J.base, J.hok, rv, q⟩
  cases fl with
  | ret u =>
    obtain ⟨v, σ', H', J, rv, q⟩ := hs
    exact fin J rv q
  | next =>
    obtain ⟨σ', H', J, q⟩ := hs
    exact fin (v := V.non) (u := Value.none) J rfl q
  | brk =>
    obtain ⟨_, _, _, q⟩ := hs
    exact q.elim
  | cont =>
    obtain ⟨_, _, _, q⟩ := hs
    exact q.elim
structure AtX (X : Cx) (F : NF) (D f : Addr) : Prop where
  env : ∃ L, X.env = envF F f L
  fx : ∃ fd, FunX X.prog X.K F D f fd
  sup : F.scope.names.lookup ("super" : Str) = some .globalImplicit
  cl : F.scope.names.lookup ("__class__" : Str) = some .free
  par : ∃ ar : Arg, (F.params.posonlyargs ++ F.params.args).head? = some ar ∧ X.N[0]? = some ar.arg ∧ F.scope.names.lookup ar.arg = some .local
  kind : F.scope.kind = .function
section
variable {X : Cx} {F : NF} {D f x C : Addr} {pins : List (Addr × Obj)} {σ : L2.St} {H : Hp} {s : Shared} {p0 p1 : Pos} {m : Str} {whole : Sem Value} {ox : Obj} {Q : Value → Shared → Prop} {b : List Stmt}
theorem super_at (Z : AtX X F D f) (I : Inv X pins σ H s) (h0 : σ[0]? = some (some (.ref x))) (hx : s.heap.get? x = some ox) (hc : ox.cls = .ref C) (hn : ∀ c, ox.data ≠ .cls c) (hsub : PySem.W.mroIn X.K C (.ref D) = some true) (hat : (m == ("__class__" : Str)) = false)
    (h : ∀ so h', (∀ y o, s.heap.get? y = some o → h'.get? y = some o) → s.heap.objs.size ≤ so → h'.get? so = some (PySem.W.ks_superObj D x C) → Q (.ref so) { s with heap := h' }) :
    PySem.wpAt (model X.prog X.w) X.A (.func b X.env) (attributeBase (.Call (.Name "super" p0) [] [] p1) m X.env whole) Q X.xe s := by
  obtain ⟨L, eL⟩ := Z.env
  obtain ⟨fd, Y⟩ := Z.fx
  obtain ⟨oc, od, kV, doc, pm, an, ct, osl, efd, lk⟩ := Y.ex
  obtain ⟨c, ecl, cv, cd, sl, hcell⟩ := Y.cell
  obtain ⟨cc, cdd, vs, csl, fl, tf, hcode, hvs, hfile⟩ := Y.file
  obtain ⟨cdD, hD⟩ := Y.cls
  obtain ⟨ar, hp, hN, hka⟩ := Z.par
  have KX := I.kIn
  subst efd
  obtain ⟨mL, hns, hlk⟩ := id I.loc
  have hvis : Vis X.env.scope ar.arg := by rw [eL]; exact .inl hka
  obtain ⟨u, ru, hlook⟩ := hlk 0 ar.arg (.ref x) hN h0 hvis
  obtain rfl : u = Value.ref x := ru
  have hm : mL ar.arg = some (.ref x) := by
    rcases hlook with ⟨_, z⟩ | ⟨z, _⟩
    · exact z
    · rw [eL] at z
      have z : F.scope.names.lookup ar.arg = some .cell ∨ F.scope.names.lookup ar.arg = some .free := z
      rw [hka] at z
      rcases z with z | z <;> cases z
  obtain ⟨oD, hD1, hD2⟩ : ∃ oD, s.heap.get? D = some oD ∧ oD.data = .cls cdD := by
    unfold PySem.W.clsIn at hD
    split at hD
    · rename_i c' d' cd' sl' ho
      cases hD
      exact ⟨_, KX _ _ ho, rfl⟩
    · cases hD
  have hmg : X.mg "super" = none := PySem.W.mg_none_of I.mod.kin I.mod.glob Y.sup
  obtain ⟨mb, hb1, hb2⟩ := I.mod.blt
  have eL2 : X.env.locals = L := by rw [eL]
  rw [eL2] at hns
  rw [eL]
  refine ks_wpAt_super_base (env := envF F f L) Z.sup Z.cl hat rfl (KX _ _ lk) rfl hp rfl (KX _ _ hcode) rfl hvs hfile Y.top ?_
  refine PySem.W.ks_loadName_global Z.kind Z.sup (PySem.Calls.loadGlobal_builtin (env := envF F f L) (I.mod.glob.keeps I.bk) hmg (hb1.keeps I.bk) ((hb2 _ (by decide)).trans (show bootBuiltins "super" = some (.type "super") by decide +kernel)) ⟨rfl, ?_⟩)
  refine wpAny_loadName_free Z.kind Z.cl (show (envF F f L).cells.lookup ("__class__" : Str) = some c by show F.cl.lookup ("__class__" : Str) = some c; rw [ecl]; rfl) ⟨_, KX _ _ hcell, rfl⟩ ?_
  refine wpAny_loadName_local Z.kind hka hns hm ?_
  refine ks_wpAny_isType_cls hD1 hD2 ⟨rfl, ?_⟩
  obtain ⟨hh, g, d, t, os⟩ := s
  refine ks_wpAny_call_super hD1 hD2 hx hc hn (PySem.W.looks_mroIn KX hsub) (fun h' e k => ?_)
  exact h _ _ k (Nat.le_refl _) e
end
end DW

set_option Elab.async false
set_option linter.all false
set_option maxRecDepth 100000
namespace DW
open PySem PySem.Spec PyProof.Rows L2 NdefX
theorem FunX.binds {P : Program} {K : PySem.W.Frag} {F : NF} {D f : Addr} {fd : FuncData} {ps : List Str} (Z : FunX P K F D f fd) (h : ∀ (kV doc pm : Value) (an : Option Addr) (ct : Value) (us : List Value), us.length = ps.length → bindArgs (PySem.W.fnX F.name F.qual F.params F.body F.scope F.cl .none kV doc pm an (.ref F.c) ct) ⟨us, []⟩ = pure (ps.zip us)) : Binds K fd ps [] := by
  obtain ⟨oc, od, kV, doc, pm, an, ct, osl, rfl, lk⟩ := Z.ex
  exact .all (h kV doc pm an ct)
end DW

set_option Elab.async false
set_option linter.all false
set_option maxRecDepth 100000
namespace DW
open PySem PySem.Spec PyProof.Rows L2 NdefX ClX
structure SupE (K : PySem.W.Frag) (C D : Addr) : Prop where
  sub : PySem.W.mroIn K C (.ref D) = some true
  at_ : PySem.W.ks_superIn K C D "__init__" = some (some (.builtin "ValueError.__init__"))
  ve : PySem.W.subIn K (.ref C) (.type "ValueError") = some true
  op : PySem.W.nsIn K PySem.cStatics "thirdparty.any" = some none
section
variable {X : Cx} {pins : List (Addr × Obj)} {σ : L2.St} {H : Hp} {s : Shared} {a C u : Addr}
theorem mw_call {us : List Value} {Q : Value → Shared → Prop} {E : Value → Shared → Prop} (T : OexC X.K C) (I : Inv X ((u, PySem.W.kxs_mw "ValueError.__init__" a) :: pins) σ H s) (e : H a = some (exo a C none)) (hl : us.length ≤ sizeLine) (h : ∀ s', Inv X pins σ H s' → Q .none s') :
    wpAny (model X.prog X.w) X.A (call (.ref u) us) Q E s := by
  obtain ⟨nm, q, N, bs, bm, sn, sub, ab, col, dd, k0, k1, k2, k3, k5, hC, hbm⟩ := T.cls
  obtain ⟨t1, ho⟩ := exo_at I.hok e
  have hu := pin_at I
  have I0 := unpin I
  have fin : ∀ h' t2, (∀ b o, b ≠ a → s.heap.get? b = some o → h'.get? b = some o) → h'.get? a = some (PySem.HandSPX.excO C t2) → Q .none { s with heap := h' } := fun h' t2 k hx => by
    have J := I0.write (t' := s.toks) (x := a) (e := a) (o := exo a C none) (by rw [e]; exact True.intro) (.inl rfl) k ⟨_, hx⟩ (exo_ok hx)
    have eu : upd H a (exo a C none) = H := by
      funext b
      by_cases hb : b = a
      · rw [hb, upd_same, e]
      · rw [upd_ne hb]
    rw [eu] at J
    exact h _ J
  have hCs := I.kIn _ _ hC
  obtain ⟨hp, g, d, t, os⟩ := s
  refine wpAny_call (codeAny_of_tree ?_)
  show wpAny _ X.A.in1 (callAny (.ref u) ⟨us, []⟩) _ _ _
  simp only [callAny]
  refine wpAny_bind (wpAny_load hu ?_)
  simp only [show (Value.type "method-wrapper" == Value.type "method" || Value.type "method-wrapper" == Value.type "builtin_function_or_method" || Value.type "method-wrapper" == Value.type "method-wrapper") = true by decide, if_true]
  refine PySem.W.KFB.if_so (by decide) ?_
  refine wpAny_bind (PySem.W.check_bound_init PySem.F.excBase_ValueError.toExcCallFacts hCs ho rfl ?_)
  refine wpAny_bind (wpAny_pure (wpAny_pure ?_))
  refine ⟨plainId_quiet PySem.F.excBase_ValueError.init.plain _, codeAny_builtin PySem.F.excBase_ValueError.initEntry ?_⟩
  rw [Around.under_plainId PySem.F.excBase_ValueError.init.plain _]
  wp_walk
  refine fin _ hp.objs.size (fun b o hb ho2 => ?_) ?_
  · rw [Heap.get?_update_other _ _ (Ne.symm hb)]
    exact Heap.get?_push_of_some _ ho2
  · rw [Heap.get?_update_self _ (Heap.get?_push_of_some _ ho) rfl]
    rfl
end
def tSvE (K : PySem.W.Frag) (D : Addr) (t : TA) : TE := fun σ H Q => ∃ a C, σ[0]? = some (some (.ref a)) ∧ OexC K C ∧ SupE K C D ∧ H a = some (exo a C none) ∧ t σ H fun vs H1 => vs.length ≤ 1000 ∧ H1 a = some (exo a C none) ∧ Q .non H1
section
variable {X : Cx} {F : NF} {D f : Addr} {b : List Stmt} {p0 p1 p2 p3 : Pos} {e : Expr} {es : List Expr} {t : TA}
theorem pea_svE {pl : Sem Bool} (Z : AtX X F D f) (ha : PA X (e :: es) t) (he : starEach (e :: es) X.env = (false, eval e X.env) :: starEach es X.env := by rfl) (hpl : (backTo p3 (starEach es X.env)).any (·.1) = false := by rfl)
    (ht : eval (.Call (.Attribute (.Call (.Name "super" p0) [] [] p1) "__init__" p2) (e :: es) [] p3) X.env = (do
      let ov ← attributeBase (.Call (.Name "super" p0) [] [] p1) "__init__" X.env (eval (.Call (.Name "super" p0) [] [] p1) X.env)
      standAt p2.atName
      let (fz, first) ← holding [ov] (getMethod ov "__init__" pl)
      callWith p3 fz first (backTo p3 (starEach (e :: es) X.env)) []) := by rfl) :
    PEA X b (.Call (.Attribute (.Call (.Name "super" p0) [] [] p1) "__init__" p2) (e :: es) [] p3) (tSvE X.K D t) := by
  intro pins s σ H Q I h
  obtain ⟨a, C, h0, T, S, hH, q⟩ := h
  obtain ⟨t1, ho⟩ := exo_at I.hok hH
  refine ks_wpAt_MethodCall (pl := pl) (super_at Z I h0 ho rfl (fun c z => nomatch z) S.sub (by decide) fun so h' kp hge hso => ?_) ht
  have I1 : Inv X pins σ H { s with heap := h' } := I.kept (t' := s.toks) kp
  have KX := I1.kIn
  obtain ⟨cd, hc⟩ : ∃ cd, PySem.W.clsIn X.K C = some cd := by
    cases w : PySem.W.clsIn X.K C with
    | some cd => exact ⟨cd, rfl⟩
    | none =>
      have z := S.at_
      unfold PySem.W.ks_superIn at z
      rw [w] at z
      cases z
  have z := S.at_
  unfold PySem.W.ks_superIn at z
  rw [hc] at z
  have J : PySem.W.InstAt h' a (PySem.HandSPX.excO C t1) C none := ⟨kp _ _ ho, rfl, rfl, trivial⟩
  have hxC : a ≠ C := PySem.W.ks_ne KX J hc
  have hI : PySem.W.Looks (model X.prog X.w) h' (isInstance (.ref a) (.type "ValueError")) true := J.type.andThen (PySem.W.looks_subIn KX S.ve)
  obtain ⟨hh, gg, d, tk, os⟩ := s
  refine PySem.W.kxs_getMethod PySem.W.kxs_ValueError hso (PySem.W.looks_opaque KX S.op) (l₀ := cd.mro) (fun A Q E s k q => wpAny_bind ((PySem.W.looks_clsIn KX hc) A _ E s k (wpAny_pure q))) rfl KX z hI hxC (by decide) ?_
  have I2 : Inv X ((h'.objs.size, PySem.W.kxs_mw "ValueError.__init__" a) :: pins) σ H ⟨h'.push (PySem.W.kxs_mw "ValueError.__init__" a), gg, d, tk + 1, os⟩ :=
    pin_new I1 (fun _ _ z => Heap.get?_push_of_some _ z) (Nat.le_refl _) (Heap.get?_push_size h' rfl) (fun v z => nomatch z)
  have hap : (backTo p3 (starEach (e :: es) X.env)).any (·.1) = false := by
    rw [he]
    show (false || (backTo p3 (starEach es X.env)).any (·.1)) = false
    rw [hpl]
    rfl
  refine PySem.W.kxs_callWith (i := "ValueError.__init__") (x := a) hap ?_
  have ra := fun s1 I2 q => ha.run p3 ((h'.objs.size, PySem.W.kxs_mw "ValueError.__init__" a) :: pins) s1 σ H (fun vs H1 => vs.length ≤ 1000 ∧ H1 a = some (exo a C none) ∧ Q .non H1) I2 q
  rw [he] at ra ⊢
  refine PySem.Calls.evalArgs_plain (thn (ra _ I2 q) fun us s3 ⟨vs, H1, I3, r, hz, e1, q3⟩ => ⟨pin_at I3, ?_⟩)
  have hl : us.length ≤ sizeLine := by
    rw [← r.length, sizeLine_eq]
    omega
  exact mw_call T I3 e1 hl fun s' I4 => ⟨.non, H1, I4, rfl, q3⟩
end
end DW

set_option Elab.async false
set_option linter.all false
set_option maxRecDepth 100000
namespace DW
open PySem PySem.Spec PyProof.Rows L2 NdefX ClX
def excH (H : Hp) (a C dx : Addr) (gs : List (Str × V)) : Hp := fun b => if b = a then some (exo a C (some dx)) else if b = dx then some (exd dx gs) else H b
def spExcI (C : Addr) (fs : List Str) : Sp := fun vs H Q _ => ∃ a ys, vs = V.ref a :: ys ∧ ys.length = fs.length ∧ H a = some (exo a C none) ∧ ∀ dx, H dx = none → dx ≠ a → Q .non (excH H a C dx (fs.zip ys).reverse)
theorem excH_one {H : Hp} {a C dx : Addr} {gs : List (Str × V)} : upd (upd H dx (exd dx gs)) a (exo a C (some dx)) = excH H a C dx gs := by
  funext b
  unfold excH upd
  by_cases h1 : b = a
  · simp only [if_pos h1]
  · simp only [if_neg h1]
theorem excH_more {H : Hp} {a C dx : Addr} {gs es : List (Str × V)} (n : dx ≠ a) : upd (excH H a C dx gs) dx (exd dx es) = excH H a C dx es := by
  funext b
  unfold excH upd
  by_cases h1 : b = dx
  · subst h1
    simp only [if_neg n, if_true]
  · simp only [if_neg h1]
theorem excH_a {H : Hp} {a C dx : Addr} {gs : List (Str × V)} : excH H a C dx gs a = some (exo a C (some dx)) := by unfold excH; rw [if_pos rfl]
theorem excH_d {H : Hp} {a C dx : Addr} {gs : List (Str × V)} (n : dx ≠ a) : excH H a C dx gs dx = some (exd dx gs) := by unfold excH; rw [if_neg n, if_pos rfl]
section
variable {K : PySem.W.Frag} {D C a : Addr} {N : List Str} {m f1 f2 : Str} {y1 y2 : V} {H : Hp} {R : VK} {E : Xn → Prop}
theorem exc_eval1 (T : OexC K C) (S : SupE K C D) (n1 : PySem.W.findIn K (.ref C) f1 = some none) (hH : H a = some (exo a C none)) (q : ∀ dx, H dx = none → dx ≠ a → R .non (excH H a C dx [(f1, y1)])) (hN : 3 ≤ N.length) :
    tSeq (tDrop (tSvE K D (tCons (tC (.str m)) tNil))) (tOst K f1 (tVar 0) (tVar 1)) { nx := fun _ H' => R .non H', rt := R } (startF N [.ref a, y1] [none]) H := by
  refine ⟨a, C, rfl, T, S, hH, by simp, hH, ?_⟩
  refine ⟨y1, rfl, .ref a, rfl, a, C, rfl, T, n1, .inl ⟨hH, fun dx h1 h2 => ?_⟩⟩
  show R .non _
  rw [excH_one]
  exact q dx h1 h2
theorem exc_eval2 (T : OexC K C) (S : SupE K C D) (n1 : PySem.W.findIn K (.ref C) f1 = some none) (n2 : PySem.W.findIn K (.ref C) f2 = some none) (hH : H a = some (exo a C none)) (q : ∀ dx, H dx = none → dx ≠ a → R .non (excH H a C dx [(f2, y2), (f1, y1)])) (hN : 4 ≤ N.length) :
    tSeq (tDrop (tSvE K D (tCons (tC (.str m)) tNil))) (tSeq (tOst K f1 (tVar 0) (tVar 1)) (tOst K f2 (tVar 0) (tVar 2))) { nx := fun _ H' => R .non H', rt := R } (startF N [.ref a, y1, y2] [none]) H := by
  refine ⟨a, C, rfl, T, S, hH, by simp, hH, ?_⟩
  refine ⟨y1, rfl, .ref a, rfl, a, C, rfl, T, n1, .inl ⟨hH, fun dx h1 h2 => ?_⟩⟩
  refine ⟨y2, rfl, .ref a, rfl, a, C, rfl, T, n2, .inr ⟨dx, _, upd_same, by rw [upd_ne h2, upd_same], by simp, ?_⟩⟩
  show R .non _
  rw [excH_one, excH_more h2]
  exact q dx h1 h2
end
structure ExcMk (P : Program) (w : World) (K : PySem.W.Frag) (mg : Str → Option Value) (base : Heap) (k : Nat) (x : Str) (C : Addr) (fs : List Str) : Prop where
  oc : OexC K C
  mk_ : ∃ (fI : Addr) (fd : FuncData) (ps : List Str), PySem.W.findIn K (.ref C) "__init__" = some (some (.ref fI)) ∧ PySem.W.typeIn K (.ref fI) = some (.type "function") ∧ FnOk P w K mg base (L2.CX P w) k fI fd ps (spExcI C fs) ∧ Binds K fd ps []
  mg_ : mg x = some (.ref C)
def dRaise (C : Addr) (fs : List Str) (da : DA) : DS := fun D ρ => da ρ (fun ss => plain ss fun ds => ds.length = fs.length ∧ D.ex ⟨C, (fs.zip ds).reverse⟩ ρ) fun x => D.ex x ρ
section
variable {K : PySem.W.Frag} {l0 : Addr} {F : Hp}
theorem DenF.zip : ∀ {fs : List Str} {vs : List V} {ds : List Dt}, Dens K l0 F vs ds → DenF K l0 F (fs.zip vs) (fs.zip ds)
  | [], _, _, _ => .nil
  | _ :: _, _, _, .nil => .nil
  | _ :: _, _, _, .cons h t => .cons h (DenF.zip t)
theorem DenF.app : ∀ {xs ys : List (Str × V)} {ds es : List (Str × Dt)}, DenF K l0 F xs ds → DenF K l0 F ys es → DenF K l0 F (xs ++ ys) (ds ++ es)
  | _, _, _, _, .nil, s => s
  | _, _, _, _, .cons h t, s => .cons h (DenF.app t s)
theorem DenF.rev : ∀ {xs : List (Str × V)} {ds : List (Str × Dt)}, DenF K l0 F xs ds → DenF K l0 F xs.reverse ds.reverse
  | _, _, .nil => .nil
  | _, _, .cons h t => by
    rw [List.reverse_cons, List.reverse_cons]
    exact DenF.app (DenF.rev t) (.cons h .nil)
end
section
variable {X : Cx} {W : WX} {e : Expr} {pos : Pos}
theorem no_pass : Passes (L2.CX X.prog X.w) X (fun _ _ _ => False) := fun _ _ _ _ _ _ _ ⟨_, _, _, _, _, _, _, _, _, _, _, _, z⟩ => z.elim
theorem ds_raise {k : Nat} {C : Addr} {fs : List Str} {x : Str} {p pos' : Pos} {es : List Expr} {t : TA} {da : DA} (M : ExcMk X.prog X.w X.K X.mg X.base k x C fs) (hc : X.calm = true) (tk : Takes X W) (hr : Room (k + 1) X.A) (hg : Gl X x) (ha : DAX X W (e :: es) t da)
    (hdb : (x == ("__debug__" : Str)) = false := by decide) (he : starEach (e :: es) X.env = (false, eval e X.env) :: starEach es X.env := by rfl) (hpl : (backTo pos (starEach es X.env)).any (·.1) = false := by rfl) (hfs : fs.length ≤ 1000 := by decide) :
    DSX X W (.Raise (some (.Call (.Name x p) (e :: es) [] pos)) none pos') (fun _ σ H => tMkO C (spExcI C fs) [] t σ H fun cls d H' => W cls d σ H') (dRaise C fs da) := by
  obtain ⟨oc, ⟨fI, fd, ps, h1, h2, G, hb⟩, hm⟩ := M
  refine ⟨ps_raise hc tk (pmk_oex oc h1 h2 G hr hb .nil no_pass hg hm ha.1 hdb he hpl), fun D ρ h l0 F H σ S Cn L => ?_⟩
  refine ha.2 ρ _ _ h l0 F H σ S _ (fun vs ss F1 H1 g1 r1 q1 => ?_) (L.kx S)
  obtain ⟨ds, e1, hl, q2⟩ := plain_of q1
  subst e1
  have r := dens_of r1
  refine ⟨by rw [r.length, hl]; exact hfs, fun a na => ?_⟩
  rw [List.append_nil]
  refine ⟨a, vs, rfl, by rw [r.length, hl], upd_same, fun dx n1 n2 => ⟨rfl, dx, (fs.zip vs).reverse, excH_a, excH_d n2, by rw [upd_ne n2] at n1; exact n1, ?_⟩⟩
  have n3 : H1 dx = none := by rw [upd_ne n2] at n1; exact n1
  have eH : upd (del (excH (upd H1 a (exo a C none)) a C dx (fs.zip vs).reverse) a) dx (.xd (fs.zip vs).reverse) = upd H1 dx (.xd (fs.zip vs).reverse) := by
    funext b
    unfold del excH upd
    by_cases z1 : b = dx
    · simp only [if_pos z1]
    · simp only [if_neg z1]
      by_cases z2 : b = a
      · rw [z2, na]
        simp only [if_true]
      · simp only [if_neg z2]
  rw [eH]
  have g2 := Go.fresh (p := dx) g1.bs (.xd (fs.zip vs).reverse) n3
  have g := g1.trans g2
  exact L.ex (.ref C) (some dx) ⟨C, (fs.zip ds).reverse⟩ _ _ σ ρ (.of g) .refl (S.go g) ⟨rfl, .inr ⟨dx, _, rfl, upd_same, (DenF.mono g2.ex (DenF.zip r).rev)⟩⟩ q2
end
theorem excMk1 {P : Program} {w : World} {K : PySem.W.Frag} {mg : Str → Option Value} {base : Heap} {N : List Str} {F : NF} {D f C : Addr} {fd : FuncData} {x s1 p1 f1 m : Str} (Z : FunX P K F D f fd) (S : NScope N [s1, p1] ["__class__"] F.scope) (hN : 3 ≤ N.length) (T : OexC K C) (hi : PySem.W.findIn K (.ref C) "__init__" = some (some (.ref f))) (ht : PySem.W.typeIn K (.ref f) = some (.type "function")) (hm : mg x = some (.ref C))
    (Sv : SupE K C D) (n1 : PySem.W.findIn K (.ref C) f1 = some none) (hbd : ∀ (kV doc pm : Value) (an : Option Addr) (ct : Value) (us : List Value), us.length = 2 → bindArgs (PySem.W.fnX F.name F.qual F.params F.body F.scope F.cl .none kV doc pm an (.ref F.c) ct) ⟨us, []⟩ = pure (([s1, p1] : List Str).zip us))
    (hb : ∀ (A : Around) (outer : List Env) (s : Shared) (H : Hp) (E : XK), PSsA (ncx (L2.CX P w) P w K mg base N F f A outer s H E) F.body F.body (tSeq (tDrop (tSvE K D (tCons (tC (.str m)) tNil))) (tOst K f1 (tVar 0) (tVar 1)))) : ExcMk P w K mg base 1 x C [f1] := by
  refine ⟨T, ⟨f, fd, [s1, p1], hi, ht, Z.ok (k := 0) S (fun vs H Q E h => ?_) fun A outer s H vs Q E hr h => ⟨_, hb A outer s H E, ?_⟩, Z.binds hbd⟩, hm⟩
  · obtain ⟨a, ys, rfl, hl, _⟩ := h
    simpa using hl
  · obtain ⟨a, ys, rfl, hl, hH, q⟩ := h
    match ys, hl with
    | [y1], _ => exact exc_eval1 T Sv n1 hH q hN
theorem excMk2 {P : Program} {w : World} {K : PySem.W.Frag} {mg : Str → Option Value} {base : Heap} {N : List Str} {F : NF} {D f C : Addr} {fd : FuncData} {x s1 p1 p2 f1 f2 m : Str} (Z : FunX P K F D f fd) (S : NScope N [s1, p1, p2] ["__class__"] F.scope) (hN : 4 ≤ N.length) (T : OexC K C) (hi : PySem.W.findIn K (.ref C) "__init__" = some (some (.ref f))) (ht : PySem.W.typeIn K (.ref f) = some (.type "function")) (hm : mg x = some (.ref C))
    (Sv : SupE K C D) (n1 : PySem.W.findIn K (.ref C) f1 = some none) (n2 : PySem.W.findIn K (.ref C) f2 = some none) (hbd : ∀ (kV doc pm : Value) (an : Option Addr) (ct : Value) (us : List Value), us.length = 3 → bindArgs (PySem.W.fnX F.name F.qual F.params F.body F.scope F.cl .none kV doc pm an (.ref F.c) ct) ⟨us, []⟩ = pure (([s1, p1, p2] : List Str).zip us))
    (hb : ∀ (A : Around) (outer : List Env) (s : Shared) (H : Hp) (E : XK), PSsA (ncx (L2.CX P w) P w K mg base N F f A outer s H E) F.body F.body (tSeq (tDrop (tSvE K D (tCons (tC (.str m)) tNil))) (tSeq (tOst K f1 (tVar 0) (tVar 1)) (tOst K f2 (tVar 0) (tVar 2))))) : ExcMk P w K mg base 1 x C [f1, f2] := by
  refine ⟨T, ⟨f, fd, [s1, p1, p2], hi, ht, Z.ok (k := 0) S (fun vs H Q E h => ?_) fun A outer s H vs Q E hr h => ⟨_, hb A outer s H E, ?_⟩, Z.binds hbd⟩, hm⟩
  · obtain ⟨a, ys, rfl, hl, _⟩ := h
    simpa using hl
  · obtain ⟨a, ys, rfl, hl, hH, q⟩ := h
    match ys, hl with
    | [y1, y2], _ => exact exc_eval2 T Sv n1 n2 hH q hN
end DW

set_option Elab.async false
set_option linter.all false
set_option maxRecDepth 100000
namespace DW
open PySem PySem.Spec PyProof.Rows L2
abbrev Sui := Addr → Value → Option Addr → TS
abbrev Clz := Value × Option Nat × Sui
def shut : Option Nat → Ends → Ends
  | none, D => D
  | some i, D => { nx := fun z H => D.nx (z.set i none) H, rt := D.rt, bk := fun z H => D.bk (z.set i none) H, ct := fun z H => D.ct (z.set i none) H }
def put : Option Nat → L2.St → Addr → L2.St
  | none, z, _ => z
  | some i, z, a => z.set i (some (.ref a))
def wClz (K : PySem.W.Frag) (Wo : WX) (D : Ends) : List Clz → WX
  | [] => Wo
  | (c, oi, ts) :: r => fun cls d z H => ∃ b, PySem.W.exmOne K cls c = some b ∧ (b = true → ∀ a, H a = none → ts a cls d (shut oi D) (put oi z a) H) ∧ (b = false → wClz K Wo D r cls d z H)
inductive ClzOk (X : Cx) : List ExceptHandler → List Clz → Prop
  | nil : ClzOk X [] []
  | bare {x : Str} {c : Value} {ts : Sui} {st : Stmt} {su : List Stmt} {p q : Pos} {hs : List ExceptHandler} {l : List Clz} (nm : Names X x c)
      (k : ∀ (a : Addr) (oe : Obj) (cls : Value) (d : Option Addr) (pn : List (Addr × Obj)), Zc cls d oe → (∃ vs, oe.data = .fields vs) → PSs (X.suite a ((a, oe) :: pn)) (st :: su) (ts a cls d)) (r : ClzOk X hs l) :
      ClzOk X (.ExceptHandler (some (.Name x p)) none (st :: su) q :: hs) ((c, none, ts) :: l)
  | named {x n : Str} {i : Nat} {c : Value} {ts : Sui} {st : Stmt} {su : List Stmt} {p q : Pos} {hs : List ExceptHandler} {l : List Clz} (nm : Names X x c) (hi : X.N[i]? = some n) (hn : X.env.kindOf n = some .local)
      (k : ∀ (a : Addr) (oe : Obj) (cls : Value) (d : Option Addr) (pn : List (Addr × Obj)), Zc cls d oe → (∃ vs, oe.data = .fields vs) → PSs (X.suite a ((a, oe) :: pn)) (st :: su) (ts a cls d)) (r : ClzOk X hs l) :
      ClzOk X (.ExceptHandler (some (.Name x p)) (some n) (st :: su) q :: hs) ((c, some i, ts) :: l)
section
variable {X : Cx} {body : List Stmt} {h0 : ExceptHandler} {hs : List ExceptHandler} {l : List Clz} {pos : Pos} {tb : WX → TS} {Wo : WX} {pins : List (Addr × Obj)} {z : L2.St} {H : Hp} {D : Ends}
theorem suite_end {a : Addr} {q : Addr × Obj} {f : Flow} {s : Shared} (ok : X.Ok) (y : SP (X.suite a (q :: (X.pn ++ pins))) [] D f s) : SP X pins D f s := by
  cases f with
  | ret u =>
    obtain ⟨v, z1, H1, J, r, w⟩ := y
    exact ⟨v, z1, H1, J.unsuite ok, r, w⟩
  | next => exact let ⟨z1, H1, J, w⟩ := y; ⟨z1, H1, J.unsuite ok, w⟩
  | brk => exact let ⟨z1, H1, J, w⟩ := y; ⟨z1, H1, J.unsuite ok, w⟩
  | cont => exact let ⟨z1, H1, J, w⟩ := y; ⟨z1, H1, J.unsuite ok, w⟩
theorem suite_endN {a : Addr} {q : Addr × Obj} {f : Flow} {s : Shared} {n : Str} {i : Nat} {p : Pos} (ok : X.Ok) (nd : X.N.Nodup) (hi : X.N[i]? = some n) (hn : X.env.kindOf n = some .local) (y : SP (X.suite a (q :: (X.pn ++ pins))) [] (shut (some i) D) f s) :
    wpAny (model X.prog X.w) X.A (do bindName X.env n .none; unbindBehindTheSuite X.env n p) (fun _ s7 => SP X pins D f s7) X.xe s := by
  cases f with
  | ret u =>
    obtain ⟨v, z1, H1, J, r, w⟩ := y
    exact gone_ok (J.unsuite ok) nd hi hn fun s7 J7 => ⟨v, _, H1, J7, r, w⟩
  | next =>
    obtain ⟨z1, H1, J, w⟩ := y
    exact gone_ok (J.unsuite ok) nd hi hn fun s7 J7 => ⟨_, H1, J7, w⟩
  | brk =>
    obtain ⟨z1, H1, J, w⟩ := y
    exact gone_ok (J.unsuite ok) nd hi hn fun s7 J7 => ⟨_, H1, J7, w⟩
  | cont =>
    obtain ⟨z1, H1, J, w⟩ := y
    exact gone_ok (J.unsuite ok) nd hi hn fun s7 J7 => ⟨_, H1, J7, w⟩
theorem clauses {a : Addr} {B : Heap} {sI s1 : Shared} {h3 : Heap} {cls : Value} {d : Option Addr} (ok : X.Ok) (nd : X.N.Nodup) (est : X.stack = X.env :: X.outer) (efr : X.env.frame = some X.env.locals) (tk : Takes X Wo) (J : Inv X pins z H sI) (nb : ∀ b o, sI.heap.get? b = some o → b ∉ frs X.stack → B.get? b = some o)
    (up : sI.heap.UpToSlots h3) (fl : HandSPX.FlyingZ B (X.env :: X.outer) a (Zc cls d) h3) (na : H a = none) (eos : s1.os = sI.os) (ag : AllBare s1.gens) (nL : a ≠ X.env.locals) (nF : a ∉ X.fs) :
    ∀ {hs : List ExceptHandler} {l : List Clz}, ClzOk X hs l → wClz X.K Wo D l cls d z H → wpAny (model X.prog X.w) X.A (handleBy (.ref a) X.env hs) (SP X pins D) X.xe { s1 with heap := h3 } := by
  have at_ : ∀ {h : Heap}, sI.heap.UpToSlots h → HandSPX.FlyingZ B (X.env :: X.outer) a (Zc cls d) h → Inv X pins z H { s1 with heap := h } := fun {h} u f => J.landed nb f.1 u eos ag
  have su : ∀ {h : Heap}, sI.heap.UpToSlots h → HandSPX.FlyingZ B (X.env :: X.outer) a (Zc cls d) h → ∃ (oe : Obj) (vs : Array Value), Zc cls d oe ∧ oe.data = .fields vs ∧ h.get? a = some oe ∧ Inv (X.suite a ((a, oe) :: (X.pn ++ pins))) [] z H { s1 with heap := h } := fun {h} u f => by
    obtain ⟨oe, vs, e1, e2, e3⟩ := f.there
    exact ⟨oe, vs, e2, e3, e1, (at_ u f).suite e1 e3 na nL nF⟩
  obtain ⟨oe, vs, ez, ed, eg, S3⟩ := su up fl
  have LT : PySem.W.Looks (model X.prog X.w) h3 (typeOf (.ref a)) cls := fun A Q E s k q => wpAny_typeOf_ref (k _ _ eg) (by rw [ez.1]; exact q)
  have ask : ∀ {x : Str} {c : Value} {p : Pos} {Q E : Value → Shared → Prop}, Names X x c → Q c { s1 with heap := h3 } → wpAny (model X.prog X.w) (X.A.mark (some (.ref a))) (eval (.Name x p) X.env) Q E { s1 with heap := h3 } := fun {x c p Q E} nm q => by
    obtain ⟨g1, g2, g3 | ⟨g3, g4, g5⟩⟩ := nm
    · exact ld_glob (X := X.suite a ((a, oe) :: (X.pn ++ pins))) S3 g1 g3 q g2
    · exact ld_blt (X := X.suite a ((a, oe) :: (X.pn ++ pins))) S3 g1 g3 g4 q g5 g2
  intro hs l ck
  induction ck with
  | nil =>
    intro w
    refine wpAny_handleBy_nil ?_
    obtain ⟨_, _, _, o2, vs2, T, _, _, g1, _, g2, g3, _⟩ := id fl
    unfold PySem.passOn
    refine wpAny_bind (wpAny_field g1 g2 g3 ?_)
    rw [if_neg (by simp : ¬ ((Value.ref T == Value.none) = true))]
    have go : wpAny (model X.prog X.w) X.A (setFlight (.ref a) X.env.frame) (fun _ s4 => wpAny (model X.prog X.w) X.A (throw (.ref a) : Sem Flow) (SP X pins D) X.xe s4) X.xe { s1 with heap := h3 } := by
      rw [efr]
      refine HandSPX.setFlight_upZ fl fun h4 held up4 => wpAny_throw (tk _ _ ⟨a, B, sI, pins, z, H, cls, d, rfl, J, nb, up.trans up4, .inr (.inr ?_), na, eos, ag, w⟩)
      rw [est]
      exact held
    first
      | exact wpAny_bind (wpAny_pure (wpAny_bind go))
      | exact wpAny_bind go
  | @bare x c ts st su' p q hs2 l2 nm k r ih =>
    intro w
    obtain ⟨b, e1, yes, no⟩ := w
    refine wpAny_handleBy_cons (codeAny_handlers_test ?_) (fun q => nomatch q)
    refine ask nm ((PySem.W.exm_one (M := model X.prog X.w) (at_ up fl).kIn LT e1).here ?_)
    cases b with
    | false =>
      show wpAny _ X.A (handleBy (.ref a) X.env hs2) _ _ _
      exact ih (no rfl)
    | true =>
      refine codeAny_handlers_suite (HandSPX.lands_againZ fl fun h4 fl4 up4 => ?_)
      obtain ⟨oe4, vs4, f1, f2, _, S4⟩ := su (up.trans up4) fl4
      exact wpAny_mono ((k a oe4 cls d (X.pn ++ pins) f1 ⟨_, f2⟩).run [] _ _ H _ S4 (yes rfl a na)) (fun f s6 y => suite_end ok y) fun _ _ y => False.elim y
  | @named x n i c ts st su' p q hs2 l2 nm hi hn k r ih =>
    intro w
    obtain ⟨b, e1, yes, no⟩ := w
    refine wpAny_handleBy_cons (codeAny_handlers_test ?_) (fun q => nomatch q)
    refine ask nm ((PySem.W.exm_one (M := model X.prog X.w) (at_ up fl).kIn LT e1).here ?_)
    cases b with
    | false =>
      show wpAny _ X.A (handleBy (.ref a) X.env hs2) _ _ _
      exact ih (no rfl)
    | true =>
      refine codeAny_handlers_suite_as (HandSPX.lands_againZ fl fun h4 fl4 up4 => ?_)
      obtain ⟨oe4, vs4, f1, f2, _, S4⟩ := su (up.trans up4) fl4
      refine store_ok (X := X.suite a ((a, oe4) :: (X.pn ++ pins))) (v := .ref a) S4 nd hi (.inl hn) rfl (fun s5 S5 => ?_) (.inr hn)
      exact wpAny_mono ((k a oe4 cls d (X.pn ++ pins) f1 ⟨_, f2⟩).run [] s5 _ H _ S5 (yes rfl a na)) (fun f s6 y => suite_endN ok nd hi hn y) fun _ _ y => False.elim y
theorem run_tryG {s : Shared} (est : X.stack = X.env :: X.outer) (efr : X.env.frame = some X.env.locals) (nd : X.N.Nodup) (tk : Takes X Wo) (ck : ClzOk X (h0 :: hs) l) (I : Inv X pins z H s)
    (hb : ∀ xe : Value → Shared → Prop, Takes (X.tr (X.pn ++ pins) xe) (wClz X.K Wo D l) → PassesOwn (model X.prog X.w) X.A X.env xe → wpAny (model X.prog X.w) X.A (execs body X.env) (SP (X.tr (X.pn ++ pins) xe) [] D) xe s) :
    wpAny (model X.prog X.w) X.A (exec (.Try body (h0 :: hs) [] [] pos) X.env) (SP X pins D) X.xe s := by
  have ok := I.ok
  have fr : X.A.frames = some (X.env :: X.outer) := ok.frames.trans (congrArg some est)
  refine wpAny_Try_except ?_
  refine wpAny_mono (hb (fun e s₁ => wpAny (model X.prog X.w) X.A (noteFrame e X.env) (fun _ s₂ => wpAny (model X.prog X.w) X.A (setFlight e none) (fun _ s₃ => wpAny (model X.prog X.w) X.A (handleBy e X.env (h0 :: hs)) (SP X pins D) X.xe s₃) X.xe s₂) X.xe s₁) (fun u s1 y => ?_) PassesOwn.looking) (fun f s1 y => ?_) fun _ _ y => y
  · obtain ⟨a, B, sI, pins2, z2, H2, cls, d, rfl, J', nb, up, sky, na, eos, ag, w⟩ := y
    have J : Inv X pins z2 H2 sI := J'.ofTry ok
    have sky2 : Sky B (X.env :: X.outer) a (Zc cls d) X.env.locals s1.heap := est ▸ sky
    show wpAny (model X.prog X.w) X.A (noteFrame (.ref a) X.env) _ _ _
    refine Sky.land Zc.steady fr efr sky2 fun h3 fl up3 => ?_
    obtain ⟨oe, vs, e1, _, e3⟩ := fl.there
    have nfr : a ∉ frs (X.env :: X.outer) := fun hm => by
      obtain ⟨_, o2, e4, e5⟩ := fl.2.2.1.mem hm
      rw [e1] at e4
      cases e4
      exact e5 _ e3
    refine clauses ok nd est efr tk J nb (up.trans up3) fl na eos ag (fun y => nfr ?_) (fun hm => nfr ?_) ck w
    · exact List.mem_filterMap.mpr ⟨X.env, List.mem_cons_self, by rw [efr, y]⟩
    · obtain ⟨e, m1, m2⟩ := List.mem_filterMap.mp hm
      exact List.mem_filterMap.mpr ⟨e, List.mem_cons_of_mem _ m1, m2⟩
  · cases f with
    | next => exact let ⟨z1, H1, J, w⟩ := y; wpAny_execs_nil ⟨z1, H1, J.ofTry ok, w⟩
    | brk => exact let ⟨z1, H1, J, w⟩ := y; ⟨z1, H1, J.ofTry ok, w⟩
    | cont => exact let ⟨z1, H1, J, w⟩ := y; ⟨z1, H1, J.ofTry ok, w⟩
    | ret u => exact let ⟨v, z1, H1, J, r, w⟩ := y; ⟨v, z1, H1, J.ofTry ok, r, w⟩
end
end DW

set_option Elab.async false
set_option linter.all false
set_option maxRecDepth 100000
namespace DW
open PySem PySem.Spec PyProof.Rows L2
abbrev DSui := Addr → Value → Option Addr → DS
abbrev DClz := List (Addr × Bool) × Option Nat × DSui
def shutD : Option Nat → DEnds → DEnds
  | none, D => { D with ex := fun _ _ => False }
  | some i, D => { nx := fun ρ => D.nx (ρ.set i .emp), rt := D.rt, bk := fun ρ => D.bk (ρ.set i .emp), ct := fun ρ => D.ct (ρ.set i .emp), ex := fun _ _ => False, rs := fun d ρ => D.rs d (ρ.set i .emp) }
def putX : Option Nat → En → Addr → Option Addr → Xn → En
  | none, ρ, _, _, _ => ρ
  | some i, ρ, a, dd, x => ρ.set i (.dat (.exc a dd x.cls x.fs))
def dClz : List DClz → DEnds → Xn → En → Prop
  | [], D, x, ρ => D.ex x ρ
  | (tb, oi, t) :: r, D, x, ρ => ∃ b, (x.cls, b) ∈ tb ∧ (b = true → ∀ a dd, t a (.ref x.cls) dd (shutD oi D) (putX oi ρ a dd x)) ∧ (b = false → dClz r D x ρ)
def dTry (body : DS) (cl : List DClz) : DS := fun D ρ => body { D with ex := fun x ρ' => dClz cl D x ρ' } ρ
inductive DCs (K : PySem.W.Frag) : List Clz → List DClz → Prop
  | nil : DCs K [] []
  | cons {c : Value} {oi : Option Nat} {ts : Sui} {tb : List (Addr × Bool)} {t : DSui} {l : List Clz} {dl : List DClz} (T : ∀ r ∈ tb, PySem.W.exmOne K (.ref r.1) c = some r.2) (k : ∀ a cls d, SndS K W0 (ts a cls d) (t a cls d)) (r : DCs K l dl) : DCs K ((c, oi, ts) :: l) ((tb, oi, t) :: dl)
theorem XDen.den {K : PySem.W.Frag} {l0 : Addr} {F H : Hp} {cls : Value} {d : Option Addr} {x : Xn} {a : Addr} (r : XDen K l0 F H cls d x) : Den K l0 F (.ref a) (.exc a d x.cls x.fs) := by
  obtain ⟨_, ⟨rfl, e⟩ | ⟨dd, gs, rfl, h1, h2⟩⟩ := r
  · rw [e]
    exact .exc0
  · exact .exc h1 h2
theorem OwS.forget {H : Hp} {σ : L2.St} {ρ : En} (i : Nat) : OwS H σ ρ (σ.set i none) (ρ.set i .emp) := fun a ⟨j, s, h1, h2, h3⟩ => by
  by_cases q : i = j
  · subst q
    have hl : i < ρ.length := by
      have := lt_of_get h1
      rwa [List.length_set] at this
    rw [List.getElem?_set_self hl] at h1
    cases h1
    cases h2
  · rw [List.getElem?_set_ne q] at h1 h3
    exact .inl ⟨j, s, h1, h2, h3⟩
section
variable {K : PySem.W.Frag} {W Wo : WX} {l0 : Addr} {F H : Hp} {σ : L2.St} {ρ : En} {D : DEnds} {C : Ends}
theorem lnk_shut (L : Lnk K Wo l0 F H σ ρ D C) (b : Base l0 F H) {oi : Option Nat} {a : Addr} {dd : Option Addr} {x : Xn} (r : Den K l0 F (.ref a) (.exc a dd x.cls x.fs)) (S : Stt K l0 F H σ ρ) : Stt K l0 F H (put oi σ a) (putX oi ρ a dd x) ∧ Lnk K W0 l0 F H (put oi σ a) (putX oi ρ a dd x) (shutD oi D) (shut oi C) := by
  cases oi with
  | none => exact ⟨S, L.nx, L.rt, L.bk, L.ct, fun _ _ _ _ _ _ _ _ _ _ _ q => q.elim, L.rs⟩
  | some i =>
    have w0 : OwS H σ ρ (put (some i) σ a) (putX (some i) ρ a dd x) := .put i
    have L1 := L.trans b (.of (.refl b)) w0
    refine ⟨S.put i r, fun F' H' σ' ρ' g w S' q => ?_, fun F' H' v d g r q => L1.rt F' H' v d g r q, fun F' H' σ' ρ' g w S' q => ?_, fun F' H' σ' ρ' g w S' q => ?_, fun _ _ _ _ _ _ _ _ _ _ _ q => q.elim, fun F' H' σ' ρ' v d g w S' r q => (L1.trans b g w).rs F' H' _ _ v d (.of (.refl g.bs)) (.forget i) (S'.forget i) r q⟩
    · exact (L1.trans b g w).nx F' H' _ _ (.of (.refl g.bs)) (.forget i) (S'.forget i) q
    · exact (L1.trans b g w).bk F' H' _ _ (.of (.refl g.bs)) (.forget i) (S'.forget i) q
    · exact (L1.trans b g w).ct F' H' _ _ (.of (.refl g.bs)) (.forget i) (S'.forget i) q
theorem snd_clz {l : List Clz} {dl : List DClz} (k : DCs K l dl) : ∀ {cls : Value} {d : Option Addr} {x : Xn} {F H : Hp} {σ : L2.St} {ρ : En}, Lnk K Wo l0 F H σ ρ D C → Stt K l0 F H σ ρ → XDen K l0 F H cls d x → dClz dl D x ρ → wClz K Wo C l cls d σ H := by
  induction k with
  | nil =>
    intro cls d x F H σ ρ L S r q
    exact L.ex cls d x F H σ ρ (.of (.refl S.bs)) .refl S r q
  | @cons c oi ts tb t l dl T k _ ih =>
    intro cls d x F H σ ρ L S r q
    obtain ⟨b, m, yes, no⟩ := q
    have e := r.1
    refine ⟨b, by rw [e]; exact T _ m, fun hb a na => ?_, fun hb => ih L S r (no hb)⟩
    obtain ⟨S1, L1⟩ := lnk_shut (oi := oi) (a := a) L S.bs r.den S
    rw [e]
    exact k a _ d _ _ (yes hb a d) l0 F H _ S1 _ L1
end
def DCk (X : Cx) (hs : List ExceptHandler) (l : List Clz) (dl : List DClz) : Prop := ClzOk X hs l ∧ DCs X.K l dl
section
variable {X : Cx} {W : WX} {body su : List Stmt} {st : Stmt} {hs : List ExceptHandler} {h0 : ExceptHandler} {l : List Clz} {dl : List DClz} {pos p q : Pos} {x n : Str} {C : Addr} {tb : List (Addr × Bool)} {t : DSui}
theorem dck_nil : DCk X [] [] [] := ⟨.nil, .nil⟩
def semS (K : PySem.W.Frag) (W : WX) (ds : DS) : TS := fun C σ H => ∃ D ρ l0 F, ds D ρ ∧ Stt K l0 F H σ ρ ∧ Lnk K W l0 F H σ ρ D C
theorem snd_sem {K : PySem.W.Frag} {ds : DS} : SndS K W (semS K W ds) ds := fun D ρ h l0 F H σ S C L => ⟨D, ρ, l0, F, h, S, L⟩
theorem pss_sem {ts : TS} {ds : DS} (h : DSSX X W su ts ds) : PSs X su (semS X.K W ds) := ⟨fun pins s σ H C I ⟨D, ρ, l0, F, q, S, L⟩ => h.1.run pins s σ H C I (h.2 D ρ q l0 F H σ S C L)⟩
theorem dck_bare {ts : Addr → Obj → Value → Option Addr → List (Addr × Obj) → TS} (T : ∀ r ∈ tb, PySem.W.exmOne X.K (.ref r.1) (.ref C) = some r.2) (hg : Gl X x) (hm : X.mg x = some (.ref C))
    (k : ∀ (a : Addr) (oe : Obj) (cls : Value) (d : Option Addr) (pn : List (Addr × Obj)), Zc cls d oe → (∃ vs, oe.data = .fields vs) → DSSX (X.suite a ((a, oe) :: pn)) W0 (st :: su) (ts a oe cls d pn) (t a cls d)) (r : DCk X hs l dl) (hd : (x == ("__debug__" : Str)) = false := by decide) :
    DCk X (.ExceptHandler (some (.Name x p)) none (st :: su) q :: hs) ((.ref C, none, fun a cls d => semS X.K W0 (t a cls d)) :: l) ((tb, none, t) :: dl) :=
  ⟨.bare ⟨hg, hd, .inl hm⟩ (fun a oe cls d pn hz hf => pss_sem (k a oe cls d pn hz hf)) r.1, .cons T (fun a cls d => snd_sem) r.2⟩
theorem dck_named {i : Nat} {ts : Addr → Obj → Value → Option Addr → List (Addr × Obj) → TS} (T : ∀ r ∈ tb, PySem.W.exmOne X.K (.ref r.1) (.ref C) = some r.2) (hg : Gl X x) (hm : X.mg x = some (.ref C))
    (k : ∀ (a : Addr) (oe : Obj) (cls : Value) (d : Option Addr) (pn : List (Addr × Obj)), Zc cls d oe → (∃ vs, oe.data = .fields vs) → DSSX (X.suite a ((a, oe) :: pn)) W0 (st :: su) (ts a oe cls d pn) (t a cls d)) (r : DCk X hs l dl) (hi : X.N[i]? = some n := by rfl) (hn : X.env.kindOf n = some .local := by rfl) (hd : (x == ("__debug__" : Str)) = false := by decide) :
    DCk X (.ExceptHandler (some (.Name x p)) (some n) (st :: su) q :: hs) ((.ref C, some i, fun a cls d => semS X.K W0 (t a cls d)) :: l) ((tb, some i, t) :: dl) :=
  ⟨.named ⟨hg, hd, .inl hm⟩ hi hn (fun a oe cls d pn hz hf => pss_sem (k a oe cls d pn hz hf)) r.1, .cons T (fun a cls d => snd_sem) r.2⟩
theorem ds_try {tb : WX → List (Addr × Obj) → (Value → Shared → Prop) → TS} {db : DS} (nd : X.N.Nodup) (tk : Takes X W)
    (hb : ∀ (W' : WX) (pn : List (Addr × Obj)) (xe : Value → Shared → Prop), Takes (X.tr pn xe) W' → PassesOwn (model X.prog X.w) X.A X.env xe → DSSX (X.tr pn xe) W' body (tb W' pn xe) db) (k : DCk X (h0 :: hs) l dl)
    (est : X.stack = X.env :: X.outer := by rfl) (efr : X.env.frame = some X.env.locals := by rfl) : DSX X W (.Try body (h0 :: hs) [] [] pos) (semS X.K W (dTry db dl)) (dTry db dl) := by
  refine ⟨⟨fun pins s σ H C I ⟨D, ρ, l0, F, q, S, L⟩ => ?_⟩, snd_sem⟩
  refine run_tryG est efr nd tk k.1 I fun xe t po => ?_
  obtain ⟨h1, h2⟩ := hb (wClz X.K W C l) (X.pn ++ pins) xe t po
  refine h1.run [] s σ H C (I.toTry xe) (h2 _ ρ q l0 F H σ S C ⟨L.nx, L.rt, L.bk, L.ct, fun cls d x F' H' σ' ρ' g w S' r q => snd_clz k.2 (L.trans S.bs g w) S' r q, L.rs⟩)
end
def dXf (a : Addr) (cls : Value) (d : Option Addr) (C : Addr) (f : Str) (de : DE) : DE := fun ρ Q E => de ρ (fun s => ∃ gs dt, cls = .ref C ∧ s = .dat (.exc a d C gs) ∧ gs.lookup f = some dt ∧ Q (.dat dt)) E
def dIsX (a : Addr) (cls : Value) (d : Option Addr) (D : V) (tbl : List (Addr × Bool)) : DCl := fun ss Q => ∃ C gs b, ss = [.dat (.exc a d C gs), .dat (.v D)] ∧ cls = .ref C ∧ (C, b) ∈ tbl ∧ Q (.dat (.v (.bl b)))
structure IsTblX (K : PySem.W.Frag) (D : V) (tbl : List (Addr × Bool)) : Prop where
  own : ∀ r ∈ tbl, ExcC K r.1 ∧ (PySem.W.clsIn K r.1).isSome = true
  at_ : ∃ cv : Value, (∀ u, RelV D u → u = cv) ∧ ∀ r ∈ tbl, PySem.W.kitOne K (.ref r.1) cv = some r.2
section
variable {X : Cx} {a C : Addr} {oe : Obj} {cls : Value} {d : Option Addr} {pn : List (Addr × Obj)} {e : Expr} {te : TE} {de : DE} {pos : Pos} {n : Str}
theorem de_xf (T : XfC X.K C) (hno : PySem.W.findIn X.K (.ref C) n = some none) (hz : Zc cls d oe) (hf : ∃ vs, oe.data = .fields vs) (he : DEX (X.suite a ((a, oe) :: pn)) W0 e te de) (hb : attributeBase e n X.env (eval e X.env) = eval e X.env := by rfl) :
    DEX (X.suite a ((a, oe) :: pn)) W0 (.Attribute e n pos) (tXf a cls d C n te) (dXf a cls d C n de) := by
  refine ⟨pe_xf T hno hz hf he.1 hb, fun ρ Q E q l0 F H σ S Qc k kx => ?_⟩
  refine he.2 ρ _ E q l0 F H σ S _ (fun x s F1 H1 g1 r1 q1 => ?_) kx
  obtain ⟨gs, dt, e1, e2, e3, q2⟩ := q1
  subst e2
  cases r1 with
  | @exc _ dd _ fs _ h r =>
    obtain ⟨v, h2, h3⟩ := r.look e3
    exact ⟨rfl, e1, dd, fs, v, rfl, g1.bs.sub _ _ h, h2, k v (.dat dt) F1 H1 g1 h3 q2⟩
  | exc0 => cases e3
def rIsX (K : PySem.W.Frag) (a : Addr) (cls : Value) (d : Option Addr) : List V → Hp → VK → Prop := fun xs H Q => ∃ (C : Addr) (c : V) (cv : Value) (b : Bool), cls = .ref C ∧ ExcC K C ∧ (PySem.W.clsIn K C).isSome = true ∧ (d = none ∨ ∃ dd fs, d = some dd ∧ H dd = some (.xd fs)) ∧ xs = [.ref a, c] ∧ (∀ u, RelV c u → u = cv) ∧ PySem.W.kitOne K (.ref C) cv = some b ∧ Q (.bl b) H
theorem call_isX (hz : Zc cls d oe) (hf : ∃ vs, oe.data = .fields vs) : CallR (X.suite a ((a, oe) :: pn)) (.builtin "isinstance") (rIsX X.K a cls d) := by
  intro pins s σ H xs us Q I r h
  obtain ⟨C, c, cv, b, rfl, T, hcl, hd, rfl, hcv, hk, q⟩ := h
  cases r with
  | cons rx rr =>
    cases rr with
    | cons rt rr =>
      cases rr
      cases rx
      obtain rfl := hcv _ rt
      obtain ⟨hget, _⟩ := I.pin (a, oe) (List.mem_append.mpr (.inl List.mem_cons_self))
      obtain ⟨vs, hv⟩ := hf
      have J : ∃ od, PySem.W.InstAt s.heap a oe C od := by
        rcases hd with rfl | ⟨dd, fs, rfl, hdd⟩
        · exact ⟨none, hget, hz.1, by unfold PySem.W.notCls; rw [hv] <;> rfl, by rw [hz.2]; trivial⟩
        · have hx : ObjOk X.prog X.w H s.heap dd (.xd fs) := I.hok dd _ hdd
          obtain ⟨mA, hns, hr⟩ := hx
          obtain ⟨od, ho, hl⟩ := lookIn_ns hns
          exact ⟨some od, hget, hz.1, by unfold PySem.W.notCls; rw [hv] <;> rfl, by rw [hz.2]; exact ho⟩
      obtain ⟨od, J⟩ := J
      exact PySem.W.kia_one (PySem.W.kitx_exc hcl T.hg T.hk T.hs T.ha T.hn T.ht T.hm) I.kIn J hk (fun z => nomatch z) fun tk => ⟨.bl b, H, I.kept (t' := tk) fun _ _ z => z, rfl, q⟩
theorem sc_isX {K : PySem.W.Frag} {D : V} {tbl : List (Addr × Bool)} (T : IsTblX K D tbl) : SndC K (rIsX K a cls d) (dIsX a cls d D tbl) := fun vs ss Q h l0 F H b r Qc k => by
  obtain ⟨C, gs, v, e, hc, hm, q⟩ := h
  subst e
  obtain ⟨cv, h1, h2⟩ := T.at_
  obtain ⟨h3, h4⟩ := T.own _ hm
  cases r with
  | cons r1 r =>
    cases r with
    | cons r2 r =>
      cases r
      obtain rfl := r2.val
      have e1 : (d = none ∨ ∃ dd fs, d = some dd ∧ H dd = some (.xd fs)) := by
        cases r1 with
        | exc h _ => exact .inr ⟨_, _, rfl, b.sub _ _ h⟩
        | exc0 => exact .inl rfl
      cases r1 with
      | exc h _ => exact ⟨C, _, cv, v, hc, h3, h4, e1, rfl, h1, h2 _ hm, k.here b q⟩
      | exc0 => exact ⟨C, _, cv, v, hc, h3, h4, e1, rfl, h1, h2 _ hm, k.here b q⟩
end
end DW

set_option Elab.async false
set_option linter.all false
set_option maxRecDepth 100000
namespace DW
open PySem PySem.Spec PyProof.Rows L2 NdefX
abbrev FnWX : Type := Option (Str × Str × Arguments × FuncBody × Scope × Addr × List Str × Addr)
def fnWX (K : PySem.W.Frag) (p : Str × Option Str) : FnWX := match K.lookup (He.fAd K p) with
  | some ⟨_, _, .func fd, _⟩ => some (fd.name, fd.qualname, fd.params, fd.body, fd.scope, fd.globals, fd.closure.map (·.1), fd.builtins)
  | _ => none
structure DefX where
  at_ : Str × Option Str
  name : Str
  qual : Str
  params : Arguments
  body : List Stmt
  scope : Scope
  own : Str
def DefX.val (d : DefX) : FnWX := some (d.name, d.qual, d.params, .stmts d.body, d.scope, mainGlobals, ["__class__"], builtinsNs)
def codeB (file : Str) (o : Option Obj) : Bool := match o with
  | some ⟨_, _, .fields vs, _⟩ => (match (vs[2]? : Option Value) with
    | some (Value.str fl _) => (file == fl)
    | _ => false)
  | _ => false
def cellB (D : Addr) (o : Option Obj) : Bool := match o with
  | some ⟨_, _, .cell (some (.ref E)), _⟩ => decide (E = D)
  | _ => false
def codeOf (K : PySem.W.Frag) (p : Str × Option Str) : Addr := match K.lookup (He.fAd K p) with
  | some ⟨_, _, .func fd, _⟩ => (match fd.code with
    | .ref c => c
    | _ => 0)
  | _ => 0
def cellOf (K : PySem.W.Frag) (p : Str × Option Str) : Addr := match K.lookup (He.fAd K p) with
  | some ⟨_, _, .func fd, _⟩ => (match fd.closure with
    | (_, c) :: _ => c
    | _ => 0)
  | _ => 0
def dfNone : Value → Bool
  | .none => true
  | _ => false
theorem dfNone_ok {v : Value} (h : dfNone v = true) : v = .none := by cases v <;> first | rfl | cases h
def codRef (c : Addr) : Value → Bool
  | .ref d => decide (d = c)
  | _ => false
theorem codRef_ok {c : Addr} {v : Value} (h : codRef c v = true) : v = .ref c := by
  cases v with
  | ref d => exact congrArg Value.ref (of_decide_eq_true h)
  | _ => cases h
def DefX.ok (P : Program) (K : PySem.W.Frag) (d : DefX) : Bool := PySem.W.keepIn K (.ref (He.fAd K d.at_)) && ((match K.lookup (He.fAd K d.at_) with
  | some ⟨_, _, .func fd, _⟩ => PySem.W.codeIn K fd.code d.qual && (dfNone fd.defaults && (codRef (codeOf K d.at_) fd.code && decide (fd.closure.map (·.2) = [cellOf K d.at_])))
  | _ => false) && (codeB P.main.file (K.lookup (codeOf K d.at_)) && (cellB (He.ga K d.own) (K.lookup (cellOf K d.at_)) && ((PySem.W.clsIn K (He.ga K d.own)).isSome && (He.eqO (PySem.W.nsIn K mainGlobals "super") (some none) && !(P.main.scope.names.lookup ("super" : Str)).isSome)))))
theorem zip_one {l : List (Str × Addr)} {x : Str} {c : Addr} (h1 : l.map (·.1) = [x]) (h2 : l.map (·.2) = [c]) : l = [(x, c)] := by
  match l, h1, h2 with
  | [(a, b)], h1, h2 =>
    simp only [List.map_cons, List.map_nil, List.cons.injEq, and_true] at h1 h2
    rw [h1, h2]
theorem DefX.funX {P : Program} {K : PySem.W.Frag} {d : DefX} (e : fnWX K d.at_ = d.val) (c : d.ok P K = true) : ∃ fd, FunX P K ⟨d.name, d.qual, d.params, d.body, d.scope, [("__class__", cellOf K d.at_)], codeOf K d.at_⟩ (He.ga K d.own) (He.fAd K d.at_) fd := by
  obtain ⟨kp, c⟩ := He.ba c
  obtain ⟨c2, c⟩ := He.ba c
  obtain ⟨c3, c⟩ := He.ba c
  obtain ⟨c4, c⟩ := He.ba c
  obtain ⟨c5, c⟩ := He.ba c
  obtain ⟨c6, c7⟩ := He.ba c
  unfold fnWX at e
  cases q : K.lookup (He.fAd K d.at_) with
  | none =>
    rw [q] at c2
    cases c2
  | some o =>
    obtain ⟨oc, od, dt, osl⟩ := o
    rw [q] at c2 e
    cases dt with
    | func fd =>
      obtain ⟨n1, n2, n3, n4, n5, n6, n7, n8, n9, n10, n11, n12, n13, n14, n15⟩ := fd
      have e2 : (some (n1, n2, n3, n4, n5, n6, n7.map (·.1), n15) : FnWX) = (some (d.name, d.qual, d.params, FuncBody.stmts d.body, d.scope, mainGlobals, ["__class__"], builtinsNs) : FnWX) := e
      simp only [Option.some.injEq, Prod.mk.injEq] at e2
      obtain ⟨h1, h2, h3, h4, h5, h6, h7, h8⟩ := e2
      have c3' : (PySem.W.codeIn K n13 d.qual && (dfNone n8 && (codRef (codeOf K d.at_) n13 && decide (n7.map (·.2) = [cellOf K d.at_])))) = true := c2
      obtain ⟨k1, k⟩ := He.ba c3'
      obtain ⟨k2, k⟩ := He.ba k
      obtain ⟨k3, k4⟩ := He.ba k
      have k2 := dfNone_ok k2
      have k3 := codRef_ok k3
      have k4 := zip_one h7 (of_decide_eq_true k4)
      subst k2 k3 k4 h1 h2 h3 h4 h5 h6 h8
      refine ⟨_, ⟨⟨oc, od, n9, n10, n11, n12, n14, osl, rfl, q⟩, k1, ?_, ⟨_, rfl, ?_⟩, ?_, He.eqO_ok c6, kp, ?_⟩⟩
      · unfold codeB at c3
        split at c3
        · rename_i cc cd vs sl ho
          split at c3
          · rename_i fl tf hv
            exact ⟨cc, cd, vs, sl, fl, tf, ho, hv, c3⟩
          · cases c3
        · cases c3
      · unfold cellB at c4
        split at c4
        · rename_i cv cd E sl ho
          have := of_decide_eq_true c4
          subst this
          exact ⟨cv, cd, sl, ho⟩
        · cases c4
      · cases z : PySem.W.clsIn K (He.ga K d.own) with
        | some cd => exact ⟨cd, rfl⟩
        | none => rw [z] at c5; cases c5
      · simpa using c7
    | _ => cases c2
structure DefP where
  ad : PySem.W.Frag → Addr
  name : Str
  qual : Str
  params : Arguments
  body : List Stmt
  scope : Scope
  dfl : List He.Dv := []
def fnWP (K : PySem.W.Frag) (a : Addr) : He.FnW := match K.lookup a with
  | some ⟨_, _, .func fd, _⟩ => some (fd.name, fd.qualname, fd.params, fd.body, fd.scope, fd.globals, fd.closure, fd.builtins)
  | _ => none
def DefP.val (d : DefP) : He.FnW := some (d.name, d.qual, d.params, .stmts d.body, d.scope, mainGlobals, [], builtinsNs)
def DefP.dvs (K : PySem.W.Frag) (d : DefP) : List V := d.dfl.map (He.Dv.v K)
def DefP.ok (K : PySem.W.Frag) (d : DefP) : Bool := PySem.W.keepIn K (.ref (d.ad K)) && (match K.lookup (d.ad K) with
  | some ⟨_, _, .func fd, _⟩ => PySem.W.codeIn K fd.code d.qual && He.dflB K fd.defaults (d.dvs K)
  | _ => false)
theorem DefP.funD {K : PySem.W.Frag} {d : DefP} (e : fnWP K (d.ad K) = d.val) (c : d.ok K = true) : ∃ fd, FunD K d.name d.qual d.params d.body d.scope (d.dvs K) [] (d.ad K) fd := by
  obtain ⟨kp, c2⟩ := He.ba c
  unfold fnWP at e
  cases q : K.lookup (d.ad K) with
  | none =>
    rw [q] at c2
    cases c2
  | some o =>
    obtain ⟨oc, od, dt, osl⟩ := o
    rw [q] at c2 e
    cases dt with
    | func fd =>
      obtain ⟨n1, n2, n3, n4, n5, n6, n7, n8, n9, n10, n11, n12, n13, n14, n15⟩ := fd
      have e2 : (some (n1, n2, n3, n4, n5, n6, n7, n15) : He.FnW) = some (d.name, d.qual, d.params, .stmts d.body, d.scope, mainGlobals, [], builtinsNs) := e
      simp only [Option.some.injEq, Prod.mk.injEq] at e2
      obtain ⟨h1, h2, h3, h4, h5, h6, h7, h8⟩ := e2
      subst h1 h2 h3 h4 h5 h6 h7 h8
      have c3 : (PySem.W.codeIn K n13 d.qual && He.dflB K n8 (d.dvs K)) = true := c2
      obtain ⟨k1, k3⟩ := He.ba c3
      exact ⟨_, ⟨oc, od, n8, n9, n10, n11, n12, n13, n14, osl, rfl, q, k1, He.dflB_ok k3, .inl rfl⟩, kp⟩
    | _ => cases c2
abbrev AlX : Type := He.AlD × (List Bool × List FnWX) × List Bool × List Bool × List He.FnW
structure Top where
  fa : List He.Fa
  fn : List He.DefD
  fx : List DefX
  ex : List (PySem.W.Frag → Bool)
  fp : List DefP
def Top.obs (P : Program) (t : Top) (K : PySem.W.Frag) : AlX := (He.obsD t.fa t.fn K, (t.fx.map fun d => d.ok P K, t.fx.map fun d => fnWX K d.at_), t.ex.map fun e => e K, t.fp.map fun d => d.ok K, t.fp.map fun d => fnWP K (d.ad K))
def Top.val (t : Top) : AlX := (He.valD t.fn, (t.fx.map fun _ => true, t.fx.map DefX.val), t.ex.map fun _ => true, t.fp.map fun _ => true, t.fp.map DefP.val)
section
variable {P : Program} {K : PySem.W.Frag} {t : Top}
theorem Top.sd (c : t.obs P K = t.val) : He.SaysD t.fa t.fn K := congrArg (fun z : AlX => z.1) c
theorem all_true {α : Type} {l : List α} {f : α → Bool} (h : l.map f = l.map fun _ => true) {i : Nat} {x : α} (e : l[i]? = some x) : f x = true := by
  have h2 : (l.map f)[i]? = (l.map fun _ => true)[i]? := by rw [h]
  rw [List.getElem?_map, List.getElem?_map, e] at h2
  exact Option.some.inj h2
theorem Top.e (c : t.obs P K = t.val) (i : Nat) {f : PySem.W.Frag → Bool} (e : t.ex[i]? = some f := by rfl) : f K = true :=
  all_true (f := fun f : PySem.W.Frag → Bool => f K) (congrArg (fun z : AlX => z.2.2.1) c) e
theorem Top.x (c : t.obs P K = t.val) (i : Nat) {d : DefX} (e : t.fx[i]? = some d := by rfl) : ∃ fd, FunX P K ⟨d.name, d.qual, d.params, d.body, d.scope, [("__class__", cellOf K d.at_)], codeOf K d.at_⟩ (He.ga K d.own) (He.fAd K d.at_) fd := by
  have h1 : t.fx.map (fun d => d.ok P K) = t.fx.map fun _ => true := congrArg (fun z : AlX => z.2.1.1) c
  have h2 : t.fx.map (fun d => fnWX K d.at_) = t.fx.map DefX.val := congrArg (fun z : AlX => z.2.1.2) c
  have h3 : (t.fx.map (fun d => fnWX K d.at_))[i]? = (t.fx.map DefX.val)[i]? := by rw [h2]
  rw [List.getElem?_map, List.getElem?_map, e] at h3
  exact DefX.funX (Option.some.inj h3) (all_true h1 e)
theorem Top.p (c : t.obs P K = t.val) (i : Nat) {d : DefP} (e : t.fp[i]? = some d := by rfl) : ∃ fd, FunD K d.name d.qual d.params d.body d.scope (d.dvs K) [] (d.ad K) fd := by
  have h1 : t.fp.map (fun d => d.ok K) = t.fp.map fun _ => true := congrArg (fun z : AlX => z.2.2.2.1) c
  have h2 : t.fp.map (fun d => fnWP K (d.ad K)) = t.fp.map DefP.val := congrArg (fun z : AlX => z.2.2.2.2) c
  have h3 : (t.fp.map (fun d => fnWP K (d.ad K)))[i]? = (t.fp.map DefP.val)[i]? := by rw [h2]
  rw [List.getElem?_map, List.getElem?_map, e] at h3
  exact DefP.funD (Option.some.inj h3) (all_true h1 e)
end
section
variable {K : PySem.W.Frag} {C D g : Addr} {m f : Str}
theorem all_nil {α : Type} {p : α → Prop} : ∀ r ∈ ([] : List α), p r := fun r h => nomatch h
theorem all_cons {α : Type} {p : α → Prop} {a : α} {l : List α} (h : p a) (t : ∀ r ∈ l, p r) : ∀ r ∈ a :: l, p r := fun r m => by
  rcases List.mem_cons.mp m with e | m
  · rw [e]
    exact h
  · exact t r m
def supEB (K : PySem.W.Frag) (C D : Addr) : Bool := decide (PySem.W.mroIn K C (.ref D) = some true) && (decide (PySem.W.ks_superIn K C D "__init__" = some (some (.builtin "ValueError.__init__"))) && (decide (PySem.W.subIn K (.ref C) (.type "ValueError") = some true) && He.eqO (PySem.W.nsIn K PySem.cStatics "thirdparty.any") (some none)))
theorem supEB_ok (h : supEB K C D = true) : SupE K C D := by
  obtain ⟨h1, h⟩ := He.ba h
  obtain ⟨h2, h⟩ := He.ba h
  obtain ⟨h3, h4⟩ := He.ba h
  exact ⟨of_decide_eq_true h1, of_decide_eq_true h2, of_decide_eq_true h3, He.eqO_ok h4⟩
def oexB (K : PySem.W.Frag) (C : Addr) : Bool := (match K.lookup C with
  | some ⟨.type "type", _, .cls cd, sl⟩ => (match cd.mro, sl.toList with
    | .ref E :: bm, [_, _, _, _, some (.builtin n), _] => decide (E = C) && (decide (n = "ValueError.__new__") && (!cd.hasDel && (cd.hasDict && PySem.HandSPX.refsVE bm)))
    | _, _ => false)
  | _ => false) && (He.eqO (PySem.W.findIn K (.ref C) "__setattr__") (some (some (.builtin "object.__setattr__"))) && (decide (PySem.W.subIn K (.ref C) (.type "BaseException") = some true) && (decide (PySem.W.typeIn K (.ref C) = some (.type "type")) && PySem.W.keepIn K (.ref C))))
theorem oexB_ok (h : oexB K C = true) : OexC K C := by
  obtain ⟨h1, h⟩ := He.ba h
  obtain ⟨h2, h⟩ := He.ba h
  obtain ⟨h3, h⟩ := He.ba h
  obtain ⟨h4, h5⟩ := He.ba h
  refine ⟨?_, He.eqO_ok h2, of_decide_eq_true h3, of_decide_eq_true h4, h5⟩
  split at h1
  · rename_i dd cd sl ho
    split at h1
    · rename_i E bm k0 k1 k2 k3 n k5 hm hs
      obtain ⟨c1, c⟩ := He.ba h1
      obtain ⟨c2, c⟩ := He.ba c
      obtain ⟨c3, c⟩ := He.ba c
      obtain ⟨c4, c5⟩ := He.ba c
      have c1 := of_decide_eq_true c1
      have c2 := of_decide_eq_true c2
      have w3 : cd.hasDel = false := by simpa using c3
      subst c1 c2
      obtain ⟨nm, bs, mro, ns, qn, hd, sn, sub, ab, col, del⟩ := cd
      dsimp only at hm w3 c4
      subst hm w3 c4
      have hsl : sl = #[k0, k1, k2, k3, some (.builtin "ValueError.__new__"), k5] := by
        obtain ⟨l⟩ := sl
        simp only at hs
        rw [hs]
      subst hsl
      exact ⟨nm, qn, ns, bs, bm, sn, sub, ab, col, dd, k0, k1, k2, k3, k5, ho, c5⟩
    · cases h1
  · cases h1
def initB (K : PySem.W.Frag) (C f : Addr) : Bool := He.eqO (PySem.W.findIn K (.ref C) "__init__") (some (some (.ref f))) && decide (PySem.W.typeIn K (.ref f) = some (.type "function"))
theorem initB_ok (h : initB K C g = true) : PySem.W.findIn K (.ref C) "__init__" = some (some (.ref g)) ∧ PySem.W.typeIn K (.ref g) = some (.type "function") := by
  obtain ⟨h1, h2⟩ := He.ba h
  exact ⟨He.eqO_ok h1, of_decide_eq_true h2⟩
def noatB (K : PySem.W.Frag) (C : Addr) (f : Str) : Bool := He.eqO (PySem.W.findIn K (.ref C) f) (some none)
theorem noatB_ok (h : noatB K C f = true) : PySem.W.findIn K (.ref C) f = some none := He.eqO_ok h
def excB (K : PySem.W.Frag) (C : Addr) : Bool := He.eqO (PySem.W.findIn K (.ref C) "__getattribute__") (some (some (.builtin "BaseException.__getattribute__"))) && (He.eqO (PySem.W.findIn K (.ref C) "__getattr__") (some none) && (decide (PySem.W.subIn K (.ref C) (.type "BaseException") = some true) && (PySem.W.hasDictIn K C && (He.eqO (PySem.W.findIn K (.ref C) "__class__") (some (some (.builtin "object.__class__"))) &&
  (He.eqO (PySem.W.specialIn K (.builtin "object.__class__") "__get__") (some (some (.builtin "getset_descriptor.__get__"))) && (decide (PySem.W.takesIn K (.builtin "object.__class__") = some true) && (decide (PySem.W.mroIn K C (.type "object") = some true) && (PySem.W.clsIn K C).isSome)))))))
theorem excB_ok (h : excB K C = true) : ExcC K C ∧ (PySem.W.clsIn K C).isSome = true := by
  obtain ⟨h1, h⟩ := He.ba h
  obtain ⟨h2, h⟩ := He.ba h
  obtain ⟨h3, h⟩ := He.ba h
  obtain ⟨h4, h⟩ := He.ba h
  obtain ⟨h5, h⟩ := He.ba h
  obtain ⟨h6, h⟩ := He.ba h
  obtain ⟨h7, h⟩ := He.ba h
  obtain ⟨h8, h9⟩ := He.ba h
  exact ⟨⟨He.eqO_ok h1, He.eqO_ok h2, of_decide_eq_true h3, h4, He.eqO_ok h5, He.eqO_ok h6, of_decide_eq_true h7, of_decide_eq_true h8⟩, h9⟩
theorem excB_xf (h : excB K C = true) : XfC K C := by
  obtain ⟨⟨h1, h2, h3, h4, _, _, _, _⟩, _⟩ := excB_ok h
  exact ⟨h1, h2, h3, h4⟩
def exmB (K : PySem.W.Frag) (C D : Addr) (b : Bool) : Bool := decide (PySem.W.exmOne K (.ref C) (.ref D) = some b)
theorem exmB_ok {b : Bool} (h : exmB K C D b = true) : PySem.W.exmOne K (.ref C) (.ref D) = some b := of_decide_eq_true h
def kiB (K : PySem.W.Frag) (C : Addr) (v : Value) (b : Bool) : Bool := decide (PySem.W.kitOne K (.ref C) v = some b)
theorem kiB_ok {v : Value} {b : Bool} (h : kiB K C v b = true) : PySem.W.kitOne K (.ref C) v = some b := of_decide_eq_true h
def plB (K : PySem.W.Frag) (D : Addr) : Bool := [Ty6.int, .bool, .str, .none, .list, .tuple].all fun t => decide (PySem.W.kitOne K (.type t.nm) (.ref D) = some false)
theorem plB_ok (h : plB K D = true) (t : Ty6) : PySem.W.kitOne K (.type t.nm) (.ref D) = some false := by
  have q := List.all_eq_true.mp h t (by cases t <;> simp)
  exact of_decide_eq_true q
theorem relRef {u : Value} : RelV (.ref D) u → u = .ref D := fun h => h
theorem relTy {n : String} {u : Value} : RelV (.ty n) u → u = .type n := fun h => h
end
theorem MOk.mono {P : Program} {w : World} {K : PySem.W.Frag} {mg : Str → Option Value} {base : Heap} {j k : Nat} {m : Str} {C : Addr} {sd : Sd} (h : MOk P w K mg base j m C sd) (l : j ≤ k) : MOk P w K mg base k m C sd := by
  obtain ⟨g, fd, ps, h1, h2, h3, h4⟩ := h
  exact ⟨g, fd, ps, h1, h2, h3.mono l, h4⟩
theorem MakeOk.mono {P : Program} {w : World} {K : PySem.W.Frag} {mg : Str → Option Value} {base : Heap} {j k : Nat} {x : Str} {C : Addr} {sd : Sd} (h : MakeOk P w K mg base j x C sd) (l : j ≤ k) : MakeOk P w K mg base k x C sd := by
  obtain ⟨f, fd, ps, h1, h2, h3, h4⟩ := h
  exact ⟨f, fd, ps, h1, h2.mono l, h3, h4⟩
theorem okS {d : Dt} {e : PyData} (h : okD 60 d = true) (t : toPy d = some e) : SeqAt.shaped e = true := by
  obtain ⟨e', h1, h2, h3⟩ := okD_py 60 d h
  rw [h1] at t
  cases t
  unfold SeqAt.shaped
  rw [h2, decide_eq_true (by omega)]
  rfl
end DW

set_option Elab.async false
set_option linter.all false
set_option maxRecDepth 100000
namespace DW
open PySem PySem.Spec PyProof.Rows L2 SlX
def dSeqB (a b : DS) : DS := fun D ρ => a { nx := b D, rt := fun _ => False, bk := fun _ => False, ct := fun _ => False, ex := D.ex } ρ
structure LnkB (K : PySem.W.Frag) (W : WX) (l0 : Addr) (F H : Hp) (σ : L2.St) (ρ : En) (D : DEnds) (C : Ends) : Prop where
  fin : ∀ F' H' σ' ρ' p Cl y d, GoS l0 F H σ ρ F' H' → Stt K l0 F' H' σ' ρ' → ρ'[0]? = some (.oob p Cl []) → Den K l0 F' y d → D.nx (.dat d :: ρ') → ∀ σ'', C.nx σ'' (slH H' p.1 Cl p.2 [some y])
  ex : ∀ cls d x F' H' σ' ρ', GoS l0 F H σ ρ F' H' → OwS H σ ρ σ' ρ' → Stt K l0 F' H' σ' ρ' → XDen K l0 F' H' cls d x → D.ex x ρ' → W cls d σ' H'
theorem LnkB.trans {K : PySem.W.Frag} {W : WX} {l0 : Addr} {F H F1 H1 : Hp} {σ σ1 : L2.St} {ρ ρ1 : En} {D : DEnds} {C : Ends} (L : LnkB K W l0 F H σ ρ D C) (b : Base l0 F H) (g : GoS l0 F H σ ρ F1 H1) (w : OwS H σ ρ σ1 ρ1) : LnkB K W l0 F1 H1 σ1 ρ1 D C where
  fin := fun F' H' σ' ρ' p Cl y d g' S h0 r q => L.fin F' H' σ' ρ' p Cl y d (g.trans b w g') S h0 r q
  ex := fun cls d x F' H' σ' ρ' g' w' S r q => L.ex cls d x F' H' σ' ρ' (g.trans b w g') (OwS.trans b g w w') S r q
def SndB (K : PySem.W.Frag) (W : WX) (ts : TS) (ds : DS) : Prop := ∀ D ρ, ds D ρ → ∀ l0 F H σ, Stt K l0 F H σ ρ → ∀ C : Ends, LnkB K W l0 F H σ ρ D C → ts C σ H
def DSSB (X : Cx) (W : WX) (l : List Stmt) (ts : TS) (ds : DS) : Prop := PSs X l ts ∧ SndB X.K W ts ds
def dSlF (cs : List Addr) (de : DE) : DS := fun D ρ => de ρ (datS fun d => ∃ p Cl, ρ[0]? = some (.oob p Cl []) ∧ Cl ∈ cs ∧ D.nx (.dat d :: ρ)) fun x => D.ex x ρ
def SlOk (K : PySem.W.Frag) (cs : List Addr) (f : Str) : Prop := ∀ C ∈ cs, SCls K C ∧ ∃ p, Slot1 K C f p 0
section
variable {X : Cx} {W : WX} {st : Stmt} {rest : List Stmt} {va vb : TS} {t u : DS}
theorem dssb_cons (h1 : DSX X W st va t) (h2 : DSSB X W rest vb u) : DSSB X W (st :: rest) (tSeq va vb) (dSeqB t u) := by
  obtain ⟨p1, s1⟩ := h1
  obtain ⟨p2, s2⟩ := h2
  refine ⟨pss_cons p1 p2, fun D ρ h l0 F H σ S C L => ?_⟩
  refine s1 _ ρ h l0 F H σ S { C with nx := vb C } ⟨fun F' H' σ' ρ' g w S' q => ?_, fun _ _ _ _ _ _ q => q.elim, fun _ _ _ _ _ _ _ q => q.elim, fun _ _ _ _ _ _ _ q => q.elim, L.ex, fun _ _ _ _ _ _ _ _ _ _ q => q.elim⟩
  exact s2 D ρ' q l0 F' H' σ' S' C (L.trans S.bs g w)
theorem dssb_frz (i : Nat) (h : DSSB X W rest va t) : DSSB X W rest va (dFrz i t) := by
  obtain ⟨p1, s1⟩ := h
  refine ⟨p1, fun D ρ h l0 F H σ S C L => ?_⟩
  unfold dFrz at h
  split at h
  · rename_i ds e
    obtain ⟨F', S', g, w⟩ := S.freeze (getD_own e)
    exact s1 D _ h l0 F' H σ S' C (L.trans S.bs g w)
  · exact h.elim
theorem dssb_slf {value : Expr} {te : TE} {de : DE} {cs : List Addr} {f : Str} (c : SlOk X.K cs f) {y : Str} {p1 p2 pos : Pos} (hv : DEX X W value te de) (hN : X.N[0]? = some y := by rfl) (hvis : Vis X.env.scope y := by first | exact Or.inl rfl | exact Or.inr (Or.inl rfl) | exact Or.inr (Or.inr rfl))
    (hd : (y == ("__debug__" : Str)) = false := by decide) (hcd : (y == ("__classdict__" : Str)) = false := by decide) (hs : swapsWith value (some (.Attribute (.Name y p1) f p2)) pos.line X.env = pure false := by rfl) :
    DSSB X W [.Assign [.Attribute (.Name y p1) f p2] value pos] (sSl X.K (tVar 0) te f) (dSlF cs de) := by
  refine ⟨pss_one (ps_sl (pe_var hN hvis hd hcd) hv.1 hs), fun D ρ h l0 F H σ S C L => ?_⟩
  refine hv.2 ρ _ _ h l0 F H σ S _ (fun v s F1 H1 g1 r1 q1 => ?_) (fun cls d x F' H' g r q => L.ex cls d x F' H' σ ρ (.of g) .refl (S.go g) r q)
  obtain ⟨d, e, q1⟩ := datS_of q1
  subst e
  obtain ⟨p, Cl, hρ, hm, q⟩ := q1
  have S1 := S.go g1
  obtain ⟨gs, hσ, hF, n0, hH, r, _⟩ := S1.oob hρ
  cases r
  obtain ⟨c1, dp, c2⟩ := c Cl hm
  exact ⟨.ref p.1, hσ, p.1, Cl, p.2, dp, [], 0, rfl, .inl ⟨hH, rfl⟩, c1, c2, L.fin F1 H1 σ ρ p Cl v d (.of g1) S1 hρ r1 q σ⟩
end
def spInS (K : PySem.W.Frag) (C : Addr) (sd : Sd) : Sp := fun vs H Q E => ∃ x us l0 F ds Qd Ed dx, vs = V.ref x :: us ∧ Base l0 F H ∧ F x = none ∧ x ≠ l0 ∧ H x = some (.ins C dx []) ∧ (F dx = none ∧ dx ≠ l0 ∧ H dx = some (.own x)) ∧ Dens K l0 F us ds ∧ sd ds Qd Ed ∧
  (∀ y d F' H', GoI l0 x F H F' H' → F' x = none → H' x = some (.ins C dx []) → F' dx = none → H' dx = some (.own x) → Den K l0 F' y d → Qd (.slt C d) → Q .non (slH H' x C dx [some y])) ∧ (∀ cls dct xn F' H', GoI l0 x F H F' H' → XDen K l0 F' H' cls dct xn → Ed xn → E cls dct H')
def dEndsS (p : Addr × Addr) (C : Addr) (Q : Dt → Prop) (E : Xn → Prop) : DEnds := { nx := fun ρ => ∃ d r, ρ = .dat d :: r ∧ r[0]? = some (.oob p C []) ∧ Q (.slt C d), rt := fun _ => False, bk := fun _ => False, ct := fun _ => False, ex := fun x _ => E x }
theorem fn_dSl {P : Program} {w : World} {K : PySem.W.Frag} {mg : Str → Option Value} {base : Heap} {x y qual : Str} {params : Arguments} {body : List Stmt} {scope : Scope} {dvs : List V} {kws : List (Str × V)} {f C : Addr} {fd : FuncData} {N ps : List Str} {k : Nat} {sd : Sd} {ds : DS}
    (F : FunD K x qual params body scope dvs kws f fd) (S : FnScope (y :: N) ps scope) (len : ∀ as Q E, sd as Q E → as.length + 1 = ps.length)
    (hb : ∀ (cdv : Value) (A : Around) (outer : List Env) (s : Shared) (H : Hp) (E : XK), Room k (A.deeper (envOfC qual scope s.heap.objs.size f cdv)) →
      ∃ ts, DSSB (cxOf (L2.CX P w) P w K mg base (y :: N) qual scope f cdv A outer s H E) (fun cls d _ H => E cls d H) body ts ds)
    (hp : ∀ p as Q E, sd as Q E → ds (dEndsS p C Q E) (DW.startI p C (y :: N).length as)) : FnOk P w K mg base (L2.CX P w) (k + 1) f fd ps (spInS K C sd) := by
  refine F.ok S (fun vs H Q E h => ?_) fun cdv A outer s H vs Q E hr h => ?_
  · obtain ⟨x, us, l0, F, as, Qd, Ed, dx, e, b, hF, n0, hH, hd, r, h, _, _⟩ := h
    rw [e, List.length_cons, r.length]
    exact len as Qd Ed h
  · obtain ⟨x, us, l0, F, as, Qd, Ed, dx, e, b, hF, n0, hH, hd, r, h, hq, he⟩ := h
    subst e
    obtain ⟨ts, p, sd⟩ := hb cdv A outer s H E hr
    have toI : ∀ {F' H'}, GoS l0 F H (L2.start (y :: N) (.ref x :: us)) (DW.startI (x, dx) C (y :: N).length as) F' H' → GoI l0 x F H F' H' := fun g =>
      ⟨g.bs, g.ex, fun a h1 h2 => (g.new a h1 h2).imp id startI_ow, fun a o n1 n2 e => g.keep a o n1 (fun z => n2 (startI_ow z)) e⟩
    refine ⟨ts, p, sd _ _ (hp (x, dx) as Qd Ed h) l0 F H _ (Stt.startI b hF n0 hH hd r) _ ⟨fun F' H' σ' ρ' p' Cl v d g S' h0 r q σ'' => ?_, fun cls d x F' H' σ' ρ' g w S' r q => ?_⟩⟩
    · obtain ⟨d', r', e1, e2, q⟩ := q
      cases e1
      rw [h0] at e2
      cases e2
      obtain ⟨gs, _, z1, _, z3, z4, z5, _, z6⟩ := S'.oob h0
      cases z4
      exact hq v d F' H' (toI g) z1 z3 z5 z6 r q
    · exact he cls d x F' H' (toI g) r q
theorem snd_makeSl {K : PySem.W.Frag} {W : WX} {C : Addr} {sd : Sd} {t : TA} {da : DA} (sa : SndA K W t da) : SndE K W (tMakeS C (spInS K C sd) (WE W) t) (dMake sd da) := fun ρ Q E q l0 F H σ S Qc kk kx => by
  refine sa ρ _ E q l0 F H σ S _ (fun vs ss F1 H1 g1 r1 q1 => ?_) kx
  obtain ⟨ds, e, q2⟩ := plain_of q1
  subst e
  intro x dx hx hdx hne
  have b := g1.bs
  have gl : Go l0 F1 H1 F1 (upd (upd H1 dx (.own x)) x (.ins C dx [])) := by
    have ga := Go.loose b (.own x) hdx
    exact ga.trans (Go.loose ga.bs (.ins C dx []) (by rw [upd_ne (Ne.symm hne)]; exact hx))
  have nN : ∀ {a : Addr}, H1 a = none → F1 a = none ∧ a ≠ l0 := fun {a} h => by
    refine ⟨?_, fun e => b.live (by rw [← e]; exact h)⟩
    cases e : F1 a with
    | none => rfl
    | some o => rw [b.sub a o e] at h; cases h
  -- what stood before still stands
  have keepAll : ∀ {F' H'}, GoI l0 x F1 (upd (upd H1 dx (.own x)) x (.ins C dx [])) F' H' → ∀ a o, a ≠ l0 → H1 a = some o → H' a = some o := fun {F' H'} g a o na e => by
    have nx : a ≠ x := fun z => by rw [z, hx] at e; cases e
    exact g.keep a o na nx (gl.keep a o na e)
  have newAll : ∀ {F' H'}, GoI l0 x F1 (upd (upd H1 dx (.own x)) x (.ins C dx [])) F' H' → ∀ a, F1 a = none → F' a ≠ none → H1 a = none := fun {F' H'} g a h1 h2 => by
    rcases g.new a h1 h2 with z | z
    · cases e : H1 a with
      | none => rfl
      | some o =>
        by_cases n : a = l0
        · subst n
          exact absurd z gl.bs.live
        · rw [gl.keep a o n e] at z
          cases z
    · rw [z]
      exact hx
  refine ⟨x, vs, l0, F1, ds, _, E, dx, rfl, gl.bs, (nN hx).1, (nN hx).2, upd_same, ⟨(nN hdx).1, (nN hdx).2, by rw [upd_ne hne, upd_same]⟩, dens_of r1, q2, fun y d F' H' g z1 z3 z4 z5 r q => ⟨rfl, ?_⟩, fun cls dct xn F' H' g r q => ?_⟩
  · have ex : Same F' (upd (upd F' dx (.xd [])) x (SlO x C dx [some y])) := fun a o e => by
      rw [upd_ne (ne_of_none e z1), upd_ne (ne_of_none e z4)]
      exact e
    have hd2 : slH H' x C dx [some y] dx = some (.xd []) := by
      unfold slH
      rw [upd_ne hne, upd_same]
    have hx2 : slH H' x C dx [some y] x = some (SlO x C dx [some y]) := upd_same
    have hne2 : ∀ a, a ≠ x → a ≠ dx → slH H' x C dx [some y] a = H' a := fun a h1 h2 => slH_ne h1 h2
    have go : Go l0 F1 H1 (upd (upd F' dx (.xd [])) x (SlO x C dx [some y])) (slH H' x C dx [some y]) := by
      refine ⟨⟨fun a o e => ?_, by rw [upd_ne (nN hx).2.symm, upd_ne (nN hdx).2.symm]; exact g.bs.nf, ?_⟩, fun a o e => ex a o (g.ex a o e), fun a h1 h2 => ?_, fun a o n e => ?_⟩
      · by_cases w : a = x
        · subst w
          rw [upd_same] at e
          cases e
          exact hx2
        · rw [upd_ne w] at e
          by_cases w2 : a = dx
          · subst w2
            rw [upd_same] at e
            cases e
            exact hd2
          · rw [upd_ne w2] at e
            rw [hne2 a w w2]
            exact g.bs.sub a o e
      · obtain ⟨ns, h1, h2⟩ := g.bs.dr
        exact ⟨ns, by rw [hne2 l0 (nN hx).2.symm (nN hdx).2.symm]; exact h1, h2⟩
      · by_cases w : a = x
        · rw [w]
          exact hx
        · rw [upd_ne w] at h2
          by_cases w2 : a = dx
          · rw [w2]
            exact hdx
          · rw [upd_ne w2] at h2
            exact newAll g a h1 h2
      · have w : a ≠ x := fun z => by rw [z, hx] at e; cases e
        have w2 : a ≠ dx := fun z => by rw [z, hdx] at e; cases e
        rw [hne2 a w w2]
        exact keepAll g a o n e
    refine kk (.ref x) (.dat (.slt C d)) _ _ (g1.trans go) (Den.slt (dx := dx) upd_same ?_ hne (Den.mono ex r)) q
    rw [upd_ne hne, upd_same]
  · have go : Go l0 F1 H1 F' H' := ⟨g.bs, g.ex, newAll g, keepAll g⟩
    exact kx cls dct xn F' H' (g1.trans go) r q
def MakeSl (P : Program) (w : World) (K : PySem.W.Frag) (mg : Str → Option Value) (base : Heap) (k : Nat) (x : Str) (C : Addr) (sd : Sd) : Prop := ∃ (f : Addr) (fd : FuncData) (ps : List Str), Mk K C f ∧ FnOk P w K mg base (L2.CX P w) k f fd ps (spInS K C sd) ∧ mg x = some (.ref C) ∧ Binds K fd ps []
section
variable {X : Cx} {W : WX} {e : Expr} {pos : Pos}
theorem de_makeSl {k : Nat} {C : Addr} {sd : Sd} {x : Str} {p : Pos} {es : List Expr} {t : TA} {da : DA} (M : MakeSl X.prog X.w X.K X.mg X.base k x C sd) (tk : Takes X W) (hr : Room (k + 1) X.A) (hg : Gl X x) (ha : DAX X W (e :: es) t da)
    (hdb : (x == ("__debug__" : Str)) = false := by decide) (he : starEach (e :: es) X.env = (false, eval e X.env) :: starEach es X.env := by rfl) (hpl : (backTo pos (starEach es X.env)).any (·.1) = false := by rfl) :
    DEX X W (.Call (.Name x p) (e :: es) [] pos) (tMakeS C (spInS X.K C sd) (WE W) t) (dMake sd da) := by
  obtain ⟨f, fd, ps, m, F, hm, hb⟩ := M
  exact ⟨pe_makeS m F hr hg hm hb (fun σ => passAt tk σ) ha.1 hdb he hpl, snd_makeSl ha.2⟩
def dSlA (cs : List Addr) (de : DE) : DE := fun ρ Q E => de ρ (fun s => ∃ C d, s = .dat (.slt C d) ∧ C ∈ cs ∧ Q (.dat d)) E
theorem Den.slt_of {K : PySem.W.Frag} {l0 : Addr} {F : Hp} {v : V} {C : Addr} {d : Dt} (r : Den K l0 F v (.slt C d)) : ∃ a dx x, v = .ref a ∧ F a = some (SlO a C dx [some x]) ∧ F dx = some (.xd []) ∧ dx ≠ a ∧ Den K l0 F x d := by
  cases r with
  | slt h h2 ne r => exact ⟨_, _, _, rfl, h, h2, ne, r⟩
theorem de_slA {te : TE} {de : DE} {cs : List Addr} {f : Str} (c : SlOk X.K cs f) (he : DEX X W e te de) (hb : attributeBase e f X.env (eval e X.env) = eval e X.env := by rfl) : DEX X W (.Attribute e f pos) (tSl X.K te f) (dSlA cs de) := by
  refine ⟨pe_sl he.1 hb, fun ρ Q E q l0 F H σ S Qc k kx => ?_⟩
  refine he.2 ρ _ E q l0 F H σ S _ (fun v s F1 H1 g1 r1 q1 => ?_) kx
  obtain ⟨C, d, e1, hm, q2⟩ := q1
  subst e1
  have r1 : Den X.K l0 F1 v (.slt C d) := r1
  obtain ⟨a, dx, x, ev, h, h2, ne, r⟩ := r1.slt_of
  subst ev
  obtain ⟨c1, dp, c2⟩ := c C hm
  exact ⟨a, C, dx, dp, [some x], 0, x, rfl, .inr ⟨g1.bs.sub _ _ h, g1.bs.sub _ _ h2⟩, c1, c2, rfl, k x (.dat d) F1 H1 g1 r q2⟩
end
abbrev prD (p : Int × Int) : Dt := .tup [.v (.int p.1), .v (.int p.2)]
def PrV (K : PySem.W.Frag) (H : Hp) (x : V) (p : Int × Int) : Prop := ∃ t, x = V.ref t ∧ SqT K H t [.int p.1, .int p.2]
def rSortT (K : PySem.W.Frag) : List V → Hp → VK → Prop := fun vs H Q => ∃ (a : Addr) (xs : List V) (ps : List (Int × Int)) (P : V → Int × Int → Prop), vs = [V.ref a] ∧ SqL K H a xs ∧ (∀ x p, P x p → PrV K H x p) ∧ Paired P xs ps ∧
  ∀ ys qs l, SrtO.Srtd SrtO.lexB qs → qs.Perm ps → Paired P ys qs → H l = none → Q (.ref l) (upd H l (.lst ys))
theorem isPair_one {h : Heap} {v : Value} {p q : Int × Int} (a : Srt.IsPair h v p.1 p.2) (b : Srt.IsPair h v q.1 q.2) : p = q := by
  obtain ⟨a1, o1, t1, u1, n1, e1, h1, _, d1⟩ := a
  obtain ⟨a2, o2, t2, u2, n2, e2, h2, _, d2⟩ := b
  rw [e1] at e2
  cases e2
  rw [h1] at h2
  cases h2
  rw [d1] at d2
  injection d2 with d3
  have d4 := congrArg Array.toList d3
  simp at d4
  exact Prod.ext d4.1.1 d4.2.1
theorem Paired.mapBoth {α β γ : Type} {R : β → γ → Prop} {f : α → β} {g : α → γ} : ∀ {l : List α}, (∀ x ∈ l, R (f x) (g x)) → Paired R (l.map f) (l.map g)
  | [], _ => .nil
  | x :: l, h => .cons (h x (by simp)) (Paired.mapBoth fun y hy => h y (by simp [hy]))
theorem paired_map {α β : Type} {R : α → β → Prop} {k : α → β} : ∀ {l : List α} {m : List β}, Paired R l m → (∀ x y, R x y → k x = y) → l.map k = m
  | _, _, .nil, _ => rfl
  | _, _, .cons h t, q => by rw [List.map_cons, q _ _ h, paired_map t q]
theorem paired_mem {α β : Type} {R : α → β → Prop} : ∀ {l : List α} {m : List β} {x : α}, Paired R l m → x ∈ l → ∃ y, R x y
  | _, _, _, .nil, h => by cases h
  | _, _, x, .cons h t, m => by
    rcases List.mem_cons.mp m with e | m
    · subst e
      exact ⟨_, h⟩
    · exact paired_mem t m
theorem pairs_vals {P : V → Int × Int → Prop} {R : Value → Int × Int → Prop} : ∀ {xs : List V} {its : List Value} {ps : List (Int × Int)}, Vals xs its → Paired P xs ps → (∀ x u p, RelV x u → P x p → R u p) → Paired R its ps
  | _, _, _, .nil, .nil, _ => .nil
  | _, _, _, .cons a b, .cons c d, h => .cons (h _ _ _ a c) (pairs_vals b d h)
theorem cr_sortT {X : Cx} : CallR X (.builtin "sorted") (rSortT X.K) := by
  intro pins s σ H vs us Q I r h
  obtain ⟨a, xs, ps, P, rfl, hs, hP, hp, q⟩ := h
  obtain ⟨its, rv, hl, hz⟩ := I.list hs
  obtain ⟨u, rfl, ru⟩ := vals1 r
  obtain rfl : u = Value.ref a := ru
  have one : ∀ (x : V) (u : Value) (p : Int × Int), RelV x u → P x p → Srt.IsPair s.heap u p.1 p.2 ∧ P (backV u) p := fun x u p ru hx => by
    obtain ⟨t, rfl, ht⟩ := hP x p hx
    cases (show u = Value.ref t from ru)
    obtain ⟨its2, r2, ⟨o, ho, hc, n, hd⟩, _⟩ := I.tuple ht
    obtain ⟨u1, u2, rfl, ri, rj⟩ := vals2 r2
    obtain ⟨t1, rfl⟩ := ri
    obtain ⟨t2, rfl⟩ := rj
    exact ⟨⟨t, o, t1, t2, n, rfl, ho, hc, hd⟩, hx⟩
  let k : Value → Int × Int := fun u => Classical.epsilon fun p : Int × Int => Srt.IsPair s.heap u p.1 p.2
  have hk : ∀ (u : Value) (p : Int × Int), Srt.IsPair s.heap u p.1 p.2 → k u = p := fun u p hu => isPair_one (Classical.epsilon_spec (p := fun p : Int × Int => Srt.IsPair s.heap u p.1 p.2) ⟨p, hu⟩) hu
  have pr := pairs_vals rv hp fun x u p r h => one x u p r h
  have ek : its.map k = ps := paired_map pr fun u p h => hk u p h.1
  refine SrtO.sorted_pairsO (k := k) hl.isList (by rw [← rv.length]; exact hz) (fun v hv => ?_) fun h' d out h1 h2 kp hd hn => ?_
  · obtain ⟨p, h, _⟩ := paired_mem pr hv
    rw [hk v p h]
    exact h
  · have mm : ∀ v ∈ out, ∃ p, Srt.IsPair s.heap v p.1 p.2 ∧ P (backV v) p := fun v hv => paired_mem pr (h2.perm.mem_iff.mp hv)
    have h3 : ∀ u ∈ out, ∃ a, u = Value.ref a := fun u hu => by
      obtain ⟨p, ⟨a, _, _, _, _, e, _⟩, _⟩ := mm u hu
      exact ⟨a, e⟩
    obtain ⟨n, hn⟩ := hn
    have hq : (out.map k).Perm ps := by
      rw [← ek]
      exact h2.perm.map k
    refine ⟨.ref d, upd H d (.lst (out.map backV)), I.laid (t' := s.toks) kp hd ⟨?_, out, n, vals_back h3, hn⟩, rfl, q _ _ d (SrtO.srtd_map h1) hq (Paired.mapBoth fun v hv => ?_) (I.hok.fresh hd)⟩
    · rw [List.length_map, h2.len, ← rv.length]
      exact hz
    · obtain ⟨p, h4, h5⟩ := mm v hv
      rw [hk v p h4]
      exact h5
def dSortP : DCl
  | [.dat (.lst ds)], Q => ∃ ps : List (Int × Int), ds = ps.map prD ∧ ∀ qs, SrtO.Srtd SrtO.lexB qs → qs.Perm ps → Q (.dat (.lst (qs.map prD)))
  | [.own ds], Q => ∃ ps : List (Int × Int), ds = ps.map prD ∧ ∀ qs, SrtO.Srtd SrtO.lexB qs → qs.Perm ps → Q (.dat (.lst (qs.map prD)))
  | _, _ => False
theorem den_pr {K : PySem.W.Frag} {l0 : Addr} {F H : Hp} (b : Same F H) {x : V} {p : Int × Int} (h : Den K l0 F x (prD p)) : PrV K H x p := by
  cases h with
  | tup h r =>
    cases r with
    | cons h1 t =>
      cases t with
      | cons h2 t2 =>
        cases t2
        cases h1
        cases h2
        exact ⟨_, rfl, sameT b h⟩
theorem dens_pr {K : PySem.W.Frag} {l0 : Addr} {F : Hp} : ∀ {xs : List V} {ps : List (Int × Int)}, Dens K l0 F xs (ps.map prD) → Paired (fun x p => Den K l0 F x (prD p)) xs ps
  | _, [], .nil => .nil
  | _, p :: ps, .cons h t => .cons h (dens_pr t)
theorem pr_dens {K : PySem.W.Frag} {l0 : Addr} {F : Hp} : ∀ {xs : List V} {ps : List (Int × Int)}, Paired (fun x p => Den K l0 F x (prD p)) xs ps → Dens K l0 F xs (ps.map prD)
  | _, [], .nil => .nil
  | _, p :: ps, .cons h t => .cons h (pr_dens t)
theorem sc_sortP {K : PySem.W.Frag} : SndC K (rSortT K) dSortP := fun vs ss Q h l0 F H b r Qc k => by
  have fin : ∀ {a : Addr} {xs : List V} {ds : List Dt}, SqL K H a xs → Dens K l0 F xs ds → (∃ ps : List (Int × Int), ds = ps.map prD ∧ ∀ qs, SrtO.Srtd SrtO.lexB qs → qs.Perm ps → Q (.dat (.lst (qs.map prD)))) → rSortT K [V.ref a] H Qc := fun {a xs ds} hs r q => by
    obtain ⟨ps, e, q⟩ := q
    subst e
    refine ⟨a, xs, ps, fun x p => Den K l0 F x (prD p), rfl, hs, fun x p h => den_pr b.sub h, dens_pr r, fun ys qs l h1 h2 h3 hl => ?_⟩
    have g := Go.fresh (p := l) b (.lst ys) hl
    exact k (.ref l) (.dat (.lst (qs.map prD))) _ _ g (Den.lst (.inl upd_same) (Dens.mono g.ex (pr_dens h3))) (q qs h1 h2)
  unfold dSortP at h
  split at h
  · obtain ⟨⟩ | ⟨r1, ⟨⟩⟩ := r
    obtain ⟨a, xs, e, z1, z2⟩ := r1.list b (.inl rfl)
    subst e
    exact fin z1 z2 h
  · obtain ⟨⟩ | ⟨r1, ⟨⟩⟩ := r
    obtain ⟨a, xs, e, z1, z2⟩ := r1.list b (.inr rfl)
    subst e
    exact fin z1 z2 h
  · exact h.elim
end DW

set_option Elab.async false
set_option linter.all false
set_option maxRecDepth 100000
namespace DW
open PySem PySem.Spec PyProof.Rows L2 SlX
def MSl (P : Program) (w : World) (K : PySem.W.Frag) (mg : Str → Option Value) (base : Heap) (k : Nat) (m : Str) (C : Addr) (sd : Sd) : Prop := ∃ (g : Addr) (fd : FuncData) (ps : List Str), SCls K C ∧ PySem.W.selfFirst K C = true ∧ Meth K C m g ∧ FnOk P w K mg base (L2.CX P w) k g fd ps (spOf K sd) ∧ Binds K fd ps []
theorem noX {X : Cx} {σ : L2.St} : PassesAt (L2.CX X.prog X.w) X σ (fun _ _ _ => False) := fun pins H s e s' I c => by
  obtain ⟨_, _, _, _, _, _, _, _, _, _, _, _, h⟩ := c
  exact h.elim
def IsSl (H : Hp) (C : Addr) (v : V) : Prop := ∃ a dx vs, v = V.ref a ∧ Slt H a C dx vs
theorem isSl_of {K : PySem.W.Frag} {l0 : Addr} {F H : Hp} {v : V} {C : Addr} {d : Dt} (b : Same F H) (r : Den K l0 F v (.slt C d)) : IsSl H C v := by
  obtain ⟨a, dx, x, e, h1, h2, _, _⟩ := r.slt_of
  exact ⟨a, dx, _, e, .inr ⟨b _ _ h1, b _ _ h2⟩⟩
section
variable {X : Cx} {k : Nat} {C : Addr} {sd : Sd} {m : Str}
structure IsTblS (K : PySem.W.Frag) (D : Addr) (ts : List (Addr × Bool)) : Prop where
  own : ∀ r ∈ ts, (SCls K r.1 ∧ SIsi K r.1) ∧ PySem.W.kitOne K (.ref r.1) (.ref D) = some r.2
end
section
variable {X : Cx} {W : WX} {pos : Pos}
def MakeSl0 (P : Program) (w : World) (K : PySem.W.Frag) (mg : Str → Option Value) (base : Heap) (k : Nat) (x : Str) (C : Addr) (sd : Sd) (dvs : List V) (dd : List Dt) : Prop := ∃ (f : Addr) (fd : FuncData) (ps : List Str) (ds : List Value), Mk K C f ∧ FnOk P w K mg base (L2.CX P w) k f fd ps (spInS K C sd) ∧ mg x = some (.ref C) ∧ Binds K fd ps ds ∧ Vals dvs ds ∧ ∀ l0 F, Dens K l0 F dvs dd
end
end DW

set_option Elab.async false
set_option linter.all false
set_option maxRecDepth 100000
namespace DW
open PySem PySem.Spec PyProof.Rows L2 SlX
section
variable {K : PySem.W.Frag} {C D : Addr} {f : Str}
def slcB (K : PySem.W.Frag) (C : Addr) : Bool := He.eqO (PySem.W.findIn K (.ref C) "__getattribute__") (some (some (.builtin "object.__getattribute__"))) && (He.eqO (PySem.W.findIn K (.ref C) "__getattr__") (some none) && (PySem.W.isClsIn K C && (PySem.W.plainOver K C && (He.eqO (PySem.W.findIn K (.ref C) "__setattr__") (some (some (.builtin "object.__setattr__"))) && PySem.W.selfFirst K C))))
theorem slcB_ok (h : slcB K C = true) : SCls K C ∧ PySem.W.selfFirst K C = true := by
  obtain ⟨h1, h⟩ := He.ba h
  obtain ⟨h2, h⟩ := He.ba h
  obtain ⟨h3, h⟩ := He.ba h
  obtain ⟨h4, h⟩ := He.ba h
  obtain ⟨h5, h6⟩ := He.ba h
  refine ⟨⟨?_, h3, h4, He.eqO_ok h5⟩, h6⟩
  unfold PySem.W.plainGet
  rw [He.eqO_ok h1, He.eqO_ok h2]
  rfl
def slAt (K : PySem.W.Frag) (C : Addr) (f : Str) : Addr := match PySem.W.findIn K (.ref C) f with
  | some (some (.ref p)) => p
  | _ => 0
def sl1B (K : PySem.W.Frag) (C : Addr) (f : Str) : Bool := He.eqO (PySem.W.findIn K (.ref C) f) (some (some (.ref (slAt K C f)))) && (He.eqO (PySem.W.specialIn K (.ref (slAt K C f)) "__get__") (some (some (.builtin "member_descriptor.__get__"))) && (decide (PySem.W.takesIn K (.ref (slAt K C f)) = some true) && (decide (PySem.W.typeIn K (.ref (slAt K C f)) = some (.type "member_descriptor")) && decide (PySem.W.slotIn K (slAt K C f) C = some 0))))
theorem sl1B_ok (h : sl1B K C f = true) : ∃ p, Slot1 K C f p 0 := by
  obtain ⟨h1, h⟩ := He.ba h
  obtain ⟨h2, h⟩ := He.ba h
  obtain ⟨h3, h⟩ := He.ba h
  obtain ⟨h4, h5⟩ := He.ba h
  exact ⟨slAt K C f, He.eqO_ok h1, He.eqO_ok h2, of_decide_eq_true h3, of_decide_eq_true h4, of_decide_eq_true h5, by decide⟩
theorem slOk_one (h1 : slcB K C = true) (h2 : sl1B K C f = true) : SlOk K [C] f := fun D m => by
  have e : D = C := by simpa using m
  subst e
  exact ⟨(slcB_ok h1).1, sl1B_ok h2⟩
def siB (K : PySem.W.Frag) (C : Addr) : Bool := He.eqO (PySem.W.findIn K (.ref C) "__class__") (some (some (.builtin "object.__class__"))) && (He.eqO (PySem.W.specialIn K (.builtin "object.__class__") "__get__") (some (some (.builtin "getset_descriptor.__get__"))) && (decide (PySem.W.takesIn K (.builtin "object.__class__") = some true) && decide (PySem.W.mroIn K C (.type "object") = some true)))
theorem siB_ok (h : siB K C = true) : SIsi K C := by
  obtain ⟨h1, h⟩ := He.ba h
  obtain ⟨h2, h⟩ := He.ba h
  obtain ⟨h3, h4⟩ := He.ba h
  exact ⟨He.eqO_ok h1, He.eqO_ok h2, of_decide_eq_true h3, of_decide_eq_true h4⟩
theorem isTblS_one {b : Bool} (h1 : slcB K C = true) (h2 : siB K C = true) (h3 : kiB K C (.ref D) b = true) : IsTblS K D [(C, b)] := ⟨fun r m => by
  have e : r = (C, b) := by simpa using m
  subst e
  exact ⟨⟨(slcB_ok h1).1, siB_ok h2⟩, kiB_ok h3⟩⟩
end
theorem MSl.mono {P : Program} {w : World} {K : PySem.W.Frag} {mg : Str → Option Value} {base : Heap} {j k : Nat} {m : Str} {C : Addr} {sd : Sd} (h : MSl P w K mg base j m C sd) (l : j ≤ k) : MSl P w K mg base k m C sd := by
  obtain ⟨g, fd, ps, a, b, c, F, d⟩ := h
  exact ⟨g, fd, ps, a, b, c, F.mono l, d⟩
theorem MakeSl.mono {P : Program} {w : World} {K : PySem.W.Frag} {mg : Str → Option Value} {base : Heap} {j k : Nat} {x : Str} {C : Addr} {sd : Sd} (h : MakeSl P w K mg base j x C sd) (l : j ≤ k) : MakeSl P w K mg base k x C sd := by
  obtain ⟨f, fd, ps, a, F, b, c⟩ := h
  exact ⟨f, fd, ps, a, F.mono l, b, c⟩
theorem MakeSl0.mono {P : Program} {w : World} {K : PySem.W.Frag} {mg : Str → Option Value} {base : Heap} {j k : Nat} {x : Str} {C : Addr} {sd : Sd} {dvs : List V} {dd : List Dt} (h : MakeSl0 P w K mg base j x C sd dvs dd) (l : j ≤ k) : MakeSl0 P w K mg base k x C sd dvs dd := by
  obtain ⟨f, fd, ps, ds, a, F, b, c⟩ := h
  exact ⟨f, fd, ps, ds, a, F.mono l, b, c⟩
theorem slnok_by {P : Program} {w : World} {K : PySem.W.Frag} {mg : Str → Option Value} {base : Heap} {x y qual : Str} {st : Stmt} {N ps : List Str} {k : Nat} {sd : Sd} {ds : DS} {dvs : List V} {C f : Addr} {fd : FuncData} (F : FunD K x qual (defArgs st) (defBody st) (defScope st) dvs [] f fd) (S : FnScope (y :: N) ps (defScope st)) (len : ∀ as Q E, sd as Q E → as.length + 1 = ps.length)
    (hb : ∀ (X : Cx) (W : WX) (f : Addr) (cdv : Value) (A : Around) (outer : List Env) (s : Shared) (H : Hp) (E : XK), X = cxOf (L2.CX P w) P w K mg base (y :: N) qual (defScope st) f cdv A outer s H E → W = WX0 E → Takes (cxOf (L2.CX P w) P w K mg base (y :: N) qual (defScope st) f cdv A outer s H E) (WX0 E) → PassesOwn (model P w) (cxOf (L2.CX P w) P w K mg base (y :: N) qual (defScope st) f cdv A outer s H E).A (cxOf (L2.CX P w) P w K mg base (y :: N) qual (defScope st) f cdv A outer s H E).env (cxOf (L2.CX P w) P w K mg base (y :: N) qual (defScope st) f cdv A outer s H E).xe →
      Room k (cxOf (L2.CX P w) P w K mg base (y :: N) qual (defScope st) f cdv A outer s H E).A → (cxOf (L2.CX P w) P w K mg base (y :: N) qual (defScope st) f cdv A outer s H E).A.units + 64 < cLine → (y :: N).Nodup →
      ∃ ts, DSSB (cxOf (L2.CX P w) P w K mg base (y :: N) qual (defScope st) f cdv A outer s H E) (WX0 E) (defBody st) ts ds)
    (hp : ∀ p as Q E, sd as Q E → ds (dEndsS p C Q E) (startI p C (y :: N).length as)) : FnOk P w K mg base (L2.CX P w) (k + 1) f fd ps (spInS K C sd) :=
  fn_dSl F S len (fun cdv A outer s H E hr => hb _ _ f cdv A outer s H E rfl rfl tk_cx po_cx hr hr.units S.nd) hp
theorem binds_of0 {K : PySem.W.Frag} {fd : FuncData} {ps : List Str} (h : ∃ ds : List Value, Vals [] ds ∧ Binds K fd ps ds) : Binds K fd ps [] := by
  obtain ⟨ds, r, b⟩ := h
  cases r
  exact b
end DW

set_option Elab.async false
set_option linter.all false
set_option maxRecDepth 100000
namespace DW
open PySem PySem.Spec PyProof.Rows L2 SlX
section
variable {X : Cx} {W : WX} {k : Nat} {C : Addr} {sd : Sd} {m : Str} {o e : Expr} {pos apos : Pos} {xo : TE} {dob : DE}
end
end DW

set_option Elab.async false
set_option linter.all false
set_option maxRecDepth 100000
namespace DW
open PySem PySem.Spec PyProof.Rows L2 SlX
end DW

set_option Elab.async false
set_option linter.all false
set_option maxRecDepth 100000
namespace DW
open PySem PySem.Spec PyProof.Rows L2 SlX
abbrev DF := En → (List Dt → Prop) → (Xn → Prop) → Prop
def SndF (K : PySem.W.Frag) (W : WX) (te : TE) (df : DF) : Prop := ∀ ρ Q E, df ρ Q E → ∀ l0 F H σ, Stt K l0 F H σ ρ → ∀ Qc : VK,
  (∀ xs ds F1 H1 p, Go l0 F H F1 H1 → Dens K l0 F1 xs ds → Q ds → H1 p = none → Qc (.ref p) (upd H1 p (.lst xs))) → KX K W l0 F H σ E → te σ H Qc
def DFX (X : Cx) (W : WX) (e : Expr) (te : TE) (df : DF) : Prop := PE X e te ∧ SndF X.K W te df
def seqDt : Sl → Option (List Dt)
  | .dat (.lst a) => some a
  | .dat (.tup a) => some a
  | .own a => some a
  | _ => none
def fList (a : DE) : DF := fun ρ Q E => a ρ (fun s => ∃ x, seqDt s = some x ∧ Q x) E
abbrev DOp := En → (Option Int → Prop) → (Xn → Prop) → Prop
theorem Dens.cut {K : PySem.W.Frag} {l0 : Addr} {F : Hp} : ∀ (n : Nat) {xs : List V} {ds : List Dt}, Dens K l0 F xs ds → Dens K l0 F (xs.drop n) (ds.drop n)
  | 0, _, _, r => r
  | n + 1, _, _, .nil => .nil
  | n + 1, _, _, .cons _ t => Dens.cut n t
theorem Dens.tak {K : PySem.W.Frag} {l0 : Addr} {F : Hp} : ∀ (n : Nat) {xs : List V} {ds : List Dt}, Dens K l0 F xs ds → Dens K l0 F (xs.take n) (ds.take n)
  | 0, _, _, r => .nil
  | n + 1, _, _, .nil => .nil
  | n + 1, _, _, .cons h t => .cons h (Dens.tak n t)
section
variable {X : Cx} {W : WX} {a b e : Expr} {xa xb xe : TE} {da db de : DE} {pos p2 : Pos} {lo hi : Option Expr} {tl th : TO} {dl dh : DOp}
theorem fe_list {p : Pos} (hg : Gl X "list") (hm : X.mg "list" = none) (ha : DEX X W a xa da) (he : starEach [a] X.env = [(false, eval a X.env)] := by rfl) :
    DFX X W (.Call (.Name "list" p) [a] [] pos) (tCB (fun xs H Q => ∃ p ys, xs = [.ref p] ∧ (SqL X.K H p ys ∨ SqT X.K H p ys) ∧ ∀ l, H l = none → Q (.ref l) (upd H l (.lst ys))) (tCons xa tNil)) (fList da) := by
  refine ⟨pe_callTy (x := "list") call_listS hg hm (by decide +kernel) (pa_cons ha.1 pa_nil he) (by decide) (by decide) he (by rfl), fun ρ Q E h l0 F H σ S Qc k kx => ?_⟩
  refine ha.2 ρ _ E h l0 F H σ S _ (fun x s F1 H1 g1 r1 q1 => ?_) kx
  obtain ⟨ds, e, q⟩ := q1
  unfold seqDt at e
  split at e
  · cases e
    obtain ⟨p, xs, e3, z1, z2⟩ := r1.list g1.bs (.inl rfl)
    subst e3
    exact ⟨p, xs, rfl, .inl z1, fun l hl => k _ _ F1 H1 l g1 z2 q hl⟩
  · cases e
    obtain ⟨p, xs, e3, z1, z2⟩ := r1.tuple g1.bs
    subst e3
    exact ⟨p, xs, rfl, .inr z1, fun l hl => k _ _ F1 H1 l g1 z2 q hl⟩
  · cases e
    obtain ⟨p, xs, e3, z1, z2⟩ := r1.list g1.bs (.inr rfl)
    subst e3
    exact ⟨p, xs, rfl, .inl z1, fun l hl => k _ _ F1 H1 l g1 z2 q hl⟩
  · cases e
def dSetF (i : Nat) (f : DF) : DS := fun D ρ => f ρ (fun ds => D.nx (ρ.set i (.own ds))) fun x => D.ex x ρ
theorem ds_setF (i : Nat) {x : Str} {p : Pos} {df : DF} (hN : X.N.Nodup) (ha : DFX X W e xe df) (hi : X.N[i]? = some x := by rfl) (hx : Loc X.env.scope x := by first | exact .inl rfl | exact .inr rfl)
    (hf : X.fn x = true ∨ X.env.scope.names.lookup x = some .local := by first | exact .inl rfl | exact .inr rfl | assumption) (hs : swapsWithSole [.Name x p] e pos.line X.env = pure false := by rfl) (hw : swappedStores [.Name x p] e X.env = pure none := by rfl) :
    DSX X W (.Assign [.Name x p] e pos) (tAsg xe (gName i)) (dSetF i df) := by
  refine ⟨ps_asg ha.1 (pg_name hN hi hx hf) hs hw, fun D ρ h l0 F H σ S C L => ?_⟩
  refine ha.2 ρ _ _ h l0 F H σ S _ (fun xs ds F1 H1 l g1 r1 q1 hl => ?_) (L.kx S)
  exact (L.trans S.bs (.of g1) .refl).nx F1 _ _ _ (.of (Go.loose g1.bs (.lst xs) hl)) (.putOwn i hl) ((S.go g1).putOwn i hl r1) q1
theorem Dens.set {K : PySem.W.Frag} {l0 : Addr} {F : Hp} {x : V} {d : Dt} (h : Den K l0 F x d) : ∀ {xs : List V} {ds : List Dt} (j : Nat), Dens K l0 F xs ds → Dens K l0 F (xs.set j x) (ds.set j d)
  | _, _, _, .nil => .nil
  | _, _, 0, .cons _ t => .cons h t
  | _, _, j + 1, .cons g t => .cons g (Dens.set h j t)
theorem Dens.rev {K : PySem.W.Frag} {l0 : Addr} {F : Hp} : ∀ {xs : List V} {ds : List Dt}, Dens K l0 F xs ds → Dens K l0 F xs.reverse ds.reverse
  | _, _, .nil => .nil
  | _, _, .cons h t => by
    rw [List.reverse_cons, List.reverse_cons]
    exact (Dens.rev t).append (Dens.one h)
def dIns (i : Nat) (dk de : DE) : DS := fun D ρ => match ρ.getD i .emp with
  | .own ds => dk ρ (fun s => de ρ (fun t => ∃ k d, s = .dat (.v (.int k)) ∧ t = .dat d ∧ 0 ≤ k ∧ k ≤ 100000 ∧ ds.length ≤ 90000 ∧ D.nx (ρ.set i (.own (ds.take k.toNat ++ [d] ++ ds.drop k.toNat)))) fun x => D.ex x ρ) fun x => D.ex x ρ
  | _ => False
theorem ds_ins (i : Nat) {x : Str} {p pa pc : Pos} {ke : Expr} {xk : TE} {dk : DE} (hk : DEX X W ke xk dk) (he : DEX X W e xe de) (hN : X.N[i]? = some x := by rfl) (hv : Vis X.env.scope x := by first | exact Or.inl rfl | exact Or.inr (Or.inl rfl) | exact Or.inr (Or.inr rfl)) (hd : (x == ("__debug__" : Str)) = false := by decide)
    (hcd : (x == ("__classdict__" : Str)) = false := by decide) (hst2 : starEach (e :: []) X.env = (false, eval e X.env) :: starEach [] X.env := by rfl) (hst : starEach (ke :: [e]) X.env = (false, eval ke X.env) :: starEach [e] X.env := by rfl) (hpl : (backTo pc (starEach [e] X.env)).any (·.1) = false := by rfl)
    (hbase : attributeBase (.Name x p) "insert" X.env (eval (.Name x p) X.env) = eval (.Name x p) X.env := by rfl)
    (hfew : ((backTo pc (starEach (ke :: [e]) X.env)).all (fun x => !x.1) && (backToKw pc (keywordEach [] X.env)).all (fun x => x.1.isSome)
      && decide ((ke :: [e]).length + ([] : List Keyword).length + (if ([] : List Keyword).isEmpty then 0 else 1) < 30)) = true := by rfl) (hline : (pa.endLine == pc.line) = true := by rfl)
    (hs : swapsWith (.Call (.Attribute (.Name x p) "insert" pa) [ke, e] [] pc) none pos.line X.env = pure false := by rfl) :
    DSX X W (.Expr (.Call (.Attribute (.Name x p) "insert" pa) [ke, e] [] pc) pos) (tDrop (tBM X.K "list" (fun x vs H Q => ∃ (l : Addr) (xs : List V) (i : Int) (y : V), x = .ref l ∧ vs = [.int i, y] ∧ H l = some (.lst xs) ∧ xs.length < sizeLine ∧ 0 ≤ i ∧ i < 2 ^ 63 ∧
    Q .non (upd H l (.lst (xs.take i.toNat ++ [y] ++ xs.drop i.toNat)))) (tVar i) (tCons xk (tCons xe tNil)))) (dIns i dk de) := by
  refine ⟨ps_expr (pe_bm PySem.F.plainAttrs_list PySem.F.slot_list_insert PySem.F.type_list_insert mt_insert (pe_var hN hv hd hcd) (pa_cons hk.1 (pa_cons he.1 pa_nil hst2) hst) hbase hfew hline hst hpl) hs, fun D ρ h l0 F H σ S C L => ?_⟩
  unfold dIns at h
  split at h
  · rename_i ds e0
    have e1 := getD_own e0
    obtain ⟨l, xs, hσ, hF, n0, hl, r⟩ := S.own e1
    refine ⟨_, hσ, .inl ⟨rfl, xs, SqL.of hl⟩, ?_⟩
    refine hk.2 ρ _ _ h l0 F H σ S _ (fun v s F1 H1 g1 r1 q1 => ?_) (L.kx S)
    have S1 := S.go g1
    refine he.2 ρ _ _ q1 l0 F1 H1 σ S1 _ (fun w t F2 H2 g2 r2 q2 => ?_) ((L.kx S).go g1)
    obtain ⟨k, d, e2, e3, h0, h1, hz, q⟩ := q2
    subst e2 e3
    obtain rfl := r1.val
    have S2 := S1.go g2
    obtain ⟨l', xs', hσ', hF', n0', hl', r'⟩ := S2.own e1
    have el : l' = l := by
      rw [hσ] at hσ'
      cases hσ'
      rfl
    subst el
    obtain ⟨S3, g3, w3⟩ := S2.mut (ys := xs'.take k.toNat ++ [w] ++ xs'.drop k.toNat) (xs := xs') e1 hσ hF' n0' (((r'.tak _).append (Dens.one r2)).append (r'.cut _))
    refine ⟨l', xs', k, w, rfl, rfl, hl', by rw [r'.length]; exact Nat.lt_of_le_of_lt hz (by decide), h0, Int.lt_of_le_of_lt h1 (by decide), ?_⟩
    exact (L.trans S.bs (.of (g1.trans g2)) .refl).nx F2 _ σ _ g3 w3 S3 q
  · exact h.elim
variable {k : Nat} {C : Addr} {sd : Sd}
end
end DW

set_option Elab.async false
set_option linter.all false
set_option maxRecDepth 100000
namespace DW
open PySem PySem.Spec PyProof.Rows L2 ClX StX
theorem Dens.split {K : PySem.W.Frag} {l0 : Addr} {F : Hp} : ∀ {ws rs : List Dt} {vs : List V}, Dens K l0 F vs (ws ++ rs) → ∃ us ts, vs = us ++ ts ∧ Dens K l0 F us ws ∧ Dens K l0 F ts rs
  | [], rs, vs, r => ⟨[], vs, rfl, .nil, r⟩
  | w :: ws, rs, _, .cons h t => by
    obtain ⟨us, ts, e, r1, r2⟩ := Dens.split t
    exact ⟨_ :: us, ts, by rw [e]; rfl, .cons h r1, r2⟩
end DW

set_option Elab.async false
set_option linter.all false
set_option maxRecDepth 100000
set_option maxHeartbeats 2000000
namespace DW
open PySem PySem.Spec PyProof.Rows L2 SlX
def TItO (t it : Addr) (i : Nat) : HO := .ext fun h => h.IsTupleIter it t i
section
variable {X : Cx} {pins : List (Addr × Obj)} {σ : L2.St} {H : Hp} {s : Shared} {t it q a : Addr} {ys : List V}
def spIt (K : PySem.W.Frag) (f : Str) : Sp := fun vs H Q _ => ∃ (a C dx t p : Addr) (ys : List V), vs = [V.ref a] ∧ Slt H a C dx [some (.ref t)] ∧ SCls K C ∧ Slot1 K C f p 0 ∧ SqT K H t ys ∧ ∀ it, H it = none → Q (.ref it) (upd H it (TItO t it 0))
def MIt (P : Program) (w : World) (K : PySem.W.Frag) (mg : Str → Option Value) (base : Heap) (k : Nat) (f : Str) (C : Addr) : Prop := ∃ (g : Addr) (fd : FuncData) (ps : List Str) (p : Addr), SCls K C ∧ Slot1 K C f p 0 ∧ Meth K C "__iter__" g ∧ FnOk P w K mg base (L2.CX P w) k g fd ps (spIt K f) ∧ Binds K fd ps []
end
end DW

set_option Elab.async false
set_option linter.all false
set_option maxRecDepth 100000
set_option maxHeartbeats 2000000
namespace DW
open PySem PySem.Spec PyProof.Rows L2 SlX
section
variable {X : Cx} {pins : List (Addr × Obj)} {σ : L2.St} {H : Hp} {s : Shared} {a C dx g : Addr} {k : Nat} {sd : Sd} {f : Str}
theorem MIt.mono {P : Program} {w : World} {K : PySem.W.Frag} {mg : Str → Option Value} {base : Heap} {j k : Nat} (M : MIt P w K mg base j f C) (h : j ≤ k) : MIt P w K mg base k f C := by
  obtain ⟨g, fd, ps, p, h1, h2, h3, F, b⟩ := M
  exact ⟨g, fd, ps, p, h1, h2, h3, F.mono h, b⟩
end
end DW

set_option Elab.async false
set_option linter.all false
set_option maxRecDepth 100000
set_option maxHeartbeats 2000000
namespace DW
open PySem PySem.Spec PyProof.Rows L2 SlX
section
variable {X : Cx} {pins : List (Addr × Obj)} {σ : L2.St} {H : Hp} {s : Shared} {a C dx g : Addr} {k : Nat} {sd : Sd} {f : Str}
end
end DW

set_option Elab.async false
set_option linter.all false
set_option maxRecDepth 100000
namespace DW
open PySem PySem.Spec PyProof.Rows L2 ClX
theorem PE.imp {X : Cx} {e : Expr} {t t' : TE} (h : PE X e t) (k : ∀ σ H Q, t' σ H Q → t σ H Q) : PE X e t' := ⟨fun pins s σ H Q I q => h.run pins s σ H Q I (k σ H Q q)⟩
section
variable {X : Cx} {W : WX} {k : Nat} {C : Addr} {sd : Sd} {x : Str} {p pos kpos : Pos} {e : Expr} {es : List Expr} {t : TA} {da : DA} {dvs : List V} {dd : List Dt} {kws : List Keyword} {tk : TA} {dk : DA} {nm : Option Str} {te : TE} {de : DE}
def MakeOkD (P : Program) (w : World) (K : PySem.W.Frag) (mg : Str → Option Value) (base : Heap) (k : Nat) (x : Str) (C : Addr) (sd : Sd) (dvs : List V) (dd : List Dt) : Prop := ∃ (f : Addr) (fd : FuncData) (ps : List Str) (ds : List Value), Mk K C f ∧ FnOk P w K mg base (L2.CX P w) k f fd ps (spIn K C sd) ∧
  mg x = some (.ref C) ∧ Binds K fd ps ds ∧ Vals dvs ds ∧ ∀ l0 F, Dens K l0 F dvs dd
def MakeOkK (P : Program) (w : World) (K : PySem.W.Frag) (mg : Str → Option Value) (base : Heap) (k : Nat) (x : Str) (C : Addr) (sd : Sd) (ks : List Str) (f : List V → List V) : Prop := ∃ (g : Addr) (fd : FuncData) (ps : List Str) (u : List Value → List Value → List Value) (gV : List V → List V → List V),
  Mk K C g ∧ FnOk P w K mg base (L2.CX P w) k g fd ps (spIn K C sd) ∧ mg x = some (.ref C) ∧ KBn K fd ps 1 ks u gV ∧ ∀ y zs, zs.length = ks.length → gV [y] zs = y :: f zs
end
theorem MakeOkD.mono {P : Program} {w : World} {K : PySem.W.Frag} {mg : Str → Option Value} {base : Heap} {j k : Nat} {x : Str} {C : Addr} {sd : Sd} {dvs : List V} {dd : List Dt} (M : MakeOkD P w K mg base j x C sd dvs dd) (h : j ≤ k) : MakeOkD P w K mg base k x C sd dvs dd := by
  obtain ⟨f, fd, ps, ds, h1, F, h2⟩ := M
  exact ⟨f, fd, ps, ds, h1, F.mono h, h2⟩
theorem MakeOkK.mono {P : Program} {w : World} {K : PySem.W.Frag} {mg : Str → Option Value} {base : Heap} {j k : Nat} {x : Str} {C : Addr} {sd : Sd} {ks : List Str} {f : List V → List V} (M : MakeOkK P w K mg base j x C sd ks f) (h : j ≤ k) : MakeOkK P w K mg base k x C sd ks f := by
  obtain ⟨g, fd, ps, u, gV, h1, F, h2⟩ := M
  exact ⟨g, fd, ps, u, gV, h1, F.mono h, h2⟩
end DW

set_option Elab.async false
set_option linter.all false
set_option maxRecDepth 100000
namespace DW
open PySem PySem.Spec PyProof.Rows L2 StX SlX
def MakeOkR (P : Program) (w : World) (K : PySem.W.Frag) (mg : Str → Option Value) (base : Heap) (k : Nat) (x : Str) (C : Addr) (sd : Sd) : Prop := ∃ f, Mk K C f ∧ FnR P w K mg base (L2.CX P w) k f (spIn K C sd) ∧ mg x = some (.ref C)
theorem MakeOkR.mono {P : Program} {w : World} {K : PySem.W.Frag} {mg : Str → Option Value} {base : Heap} {j k : Nat} {x : Str} {C : Addr} {sd : Sd} (M : MakeOkR P w K mg base j x C sd) (h : j ≤ k) : MakeOkR P w K mg base k x C sd := by
  obtain ⟨f, h1, F, h2⟩ := M
  exact ⟨f, h1, F.mono h, h2⟩
section
variable {X : Cx} {W : WX} {k : Nat} {C : Addr} {sd : Sd} {x : Str} {p pos p1 p2 : Pos} {e e1 e2 : Expr} {es : List Expr} {t : TA} {da : DA}
def CallM (P : Program) (w : World) (K : PySem.W.Frag) (mg : Str → Option Value) (base : Heap) (k : Nat) (C : Addr) (sd : Sd) : Prop := ∃ (g : Addr) (fd : FuncData) (ps : List Str), CallO K C g ∧ FnOk P w K mg base (L2.CX P w) k g fd ps (spOf K sd) ∧ Binds K fd ps []
def OpM (P : Program) (w : World) (K : PySem.W.Frag) (mg : Str → Option Value) (base : Heap) (k : Nat) (m : Str) (C : Addr) (sd : Sd) : Prop := PySem.W.selfFirst K C = true ∧ MOk P w K mg base k m C sd
end
end DW

set_option Elab.async false
set_option linter.all false
set_option maxRecDepth 100000
namespace DW
open PySem PySem.Spec PyProof.Rows L2 StX SlX
theorem CallM.mono {P : Program} {w : World} {K : PySem.W.Frag} {mg : Str → Option Value} {base : Heap} {j k : Nat} {C : Addr} {sd : Sd} (M : CallM P w K mg base j C sd) (h : j ≤ k) : CallM P w K mg base k C sd := by
  obtain ⟨g, fd, ps, c, F, b⟩ := M
  exact ⟨g, fd, ps, c, F.mono h, b⟩
theorem OpM.mono {P : Program} {w : World} {K : PySem.W.Frag} {mg : Str → Option Value} {base : Heap} {j k : Nat} {m : Str} {C : Addr} {sd : Sd} (M : OpM P w K mg base j m C sd) (h : j ≤ k) : OpM P w K mg base k m C sd := ⟨M.1, M.2.mono h⟩
end DW

set_option Elab.async false
set_option linter.all false
set_option maxRecDepth 100000
namespace DW
open PySem PySem.Spec PyProof.Rows L2 StX SlX
end DW

set_option Elab.async false
set_option linter.all false
set_option maxRecDepth 100000
namespace DW
open PySem PySem.Spec PyProof.Rows L2 StX SlX
def OwnK : HO → Prop
  | .lst _ => True
  | .ins _ _ _ => True
  | .own _ => True
  | .dK _ => True
  | .ext φ => ∃ w a ep es, φ = rawN w a ep es
  | _ => False
section
variable {K : PySem.W.Frag} {l0 : Addr} {F H F' H' : Hp} {σ : L2.St} {ρ : En}
mutual
theorem TreV.kin : ∀ {v : V} {t : OT}, TreV K l0 F H v t → ∀ a ∈ t.ads, ∃ o, H a = some o ∧ OwnK o
  | _, _, .dat _, a, m => nomatch m
  | _, _, .lst h1 h2 h3 r, a, m => (List.mem_cons.mp m).elim (fun e => by subst e; exact ⟨_, h3, trivial⟩) (TreVs.kin r a)
  | _, _, .ins h1 h2 h3 k1 k2 k3 r, a, m => (List.mem_cons.mp m).elim (fun e => by subst e; exact ⟨_, h3, trivial⟩) fun m => (List.mem_cons.mp m).elim (fun e => by subst e; exact ⟨_, k3, trivial⟩) (TreVf.kin r a)
  | _, _, .dct h1 h2 h3 r, a, m => (List.mem_cons.mp m).elim (fun e => by subst e; exact ⟨_, h3, _, _, _, _, rfl⟩) (TreVk.kin r a)
theorem TreVs.kin : ∀ {v : List V} {t : List OT}, TreVs K l0 F H v t → ∀ a ∈ adsL t, ∃ o, H a = some o ∧ OwnK o
  | _, _, .nil, a, m => nomatch m
  | _, _, .cons h r, a, m => (List.mem_append.mp m).elim (TreV.kin h a) (TreVs.kin r a)
theorem TreVf.kin : ∀ {v : List (Str × V)} {t : List (Str × OT)}, TreVf K l0 F H v t → ∀ a ∈ adsF t, ∃ o, H a = some o ∧ OwnK o
  | _, _, .nil, a, m => nomatch m
  | _, _, .cons h r, a, m => (List.mem_append.mp m).elim (TreV.kin h a) (TreVf.kin r a)
theorem TreVk.kin : ∀ {v : List NEnt} {t : List (Dt × OT)}, TreVk K l0 F H v t → ∀ a ∈ adsK t, ∃ o, H a = some o ∧ OwnK o
  | _, _, .nil, a, m => nomatch m
  | _, _, .cons _ _ h r, a, m => (List.mem_append.mp m).elim (TreV.kin h a) (TreVk.kin r a)
end
open Classical in
open Classical in
end
section
variable {X : Cx} {W : WX} {e : Expr} {xe : TE} {de : DE} {yt : TT} {dt : DTt}
end
abbrev SdM := List (Str × Dt) → List Dt → (List (Str × Dt) → Prop) → (Xn → Prop) → Prop
def spMu (K : PySem.W.Frag) (C : Addr) (sd : SdM) : Sp := fun vs H Q E => ∃ x us l0 F fs gs ds Qd Ed dx, vs = V.ref x :: us ∧ Base l0 F H ∧ F x = none ∧ x ≠ l0 ∧ H x = some (.ins C dx gs) ∧ DenF K l0 F gs fs ∧ (F dx = none ∧ dx ≠ l0 ∧ H dx = some (.own x)) ∧ Dens K l0 F us ds ∧ sd fs ds Qd Ed ∧
  (∀ gs' fs' F' H', GoI l0 x F H F' H' → F' x = none → H' x = some (.ins C dx gs') → DenF K l0 F' gs' fs' → Qd fs' → Q .non H') ∧ (∀ cls dct xn F' H', GoI l0 x F H F' H' → XDen K l0 F' H' cls dct xn → Ed xn → E cls dct H')
end DW

set_option Elab.async false
set_option linter.all false
set_option maxRecDepth 100000
namespace DW
open PySem PySem.Spec PyProof.Rows L2 StX SlX ClX
def MuM (P : Program) (w : World) (K : PySem.W.Frag) (mg : Str → Option Value) (base : Heap) (k : Nat) (m : Str) (C : Addr) (sd : SdM) : Prop := ∃ (g : Addr) (fd : FuncData) (ps : List Str), Cls K C ∧ Meth K C m g ∧ FnOk P w K mg base (L2.CX P w) k g fd ps (spMu K C sd) ∧ Binds K fd ps []
theorem MuM.mono {P : Program} {w : World} {K : PySem.W.Frag} {mg : Str → Option Value} {base : Heap} {j k : Nat} {m : Str} {C : Addr} {sd : SdM} (M : MuM P w K mg base j m C sd) (h : j ≤ k) : MuM P w K mg base k m C sd := by
  obtain ⟨g, fd, ps, c, me, F, b⟩ := M
  exact ⟨g, fd, ps, c, me, F.mono h, b⟩
section
variable {X : Cx} {W : WX} {k : Nat} {C : Addr} {m x y : Str} {p1 p pos apos epos : Pos} {e : Expr} {es : List Expr} {kws : List Keyword} {t : TA} {da : DA} {tk : TA} {dk : DA}
def MakeOkN (P : Program) (w : World) (K : PySem.W.Frag) (mg : Str → Option Value) (base : Heap) (k : Nat) (x : Str) (C : Addr) (sd : Sd) (n : Nat) (ks : List Str) (f : List V → List V → List V) : Prop := ∃ (g : Addr) (fd : FuncData) (ps : List Str) (u : List Value → List Value → List Value) (gV : List V → List V → List V),
  Mk K C g ∧ FnOk P w K mg base (L2.CX P w) k g fd ps (spIn K C sd) ∧ mg x = some (.ref C) ∧ KBn K fd ps (n + 1) ks u gV ∧ ∀ y vs zs, vs.length = n → zs.length = ks.length → gV (y :: vs) zs = y :: f vs zs
end
end DW

set_option Elab.async false
set_option linter.all false
set_option maxRecDepth 100000
namespace DW
open PySem PySem.Spec PyProof.Rows L2 StX SlX ClX
def PrOb (P : Program) (w : World) (K : PySem.W.Frag) (mg : Str → Option Value) (base : Heap) (k : Nat) (f : Str) (C : Addr) (sd : Sd) : Prop := ∃ (p g : Addr) (fd : FuncData) (ps : List Str), Cls K C ∧ PropOf K C f p g ∧ FnOk P w K mg base (L2.CX P w) k g fd ps (spOf K sd) ∧ Binds K fd ps []
theorem PrOb.mono {P : Program} {w : World} {K : PySem.W.Frag} {mg : Str → Option Value} {base : Heap} {j k : Nat} {f : Str} {C : Addr} {sd : Sd} (M : PrOb P w K mg base j f C sd) (h : j ≤ k) : PrOb P w K mg base k f C sd := by
  obtain ⟨p, g, fd, ps, c, o, F, b⟩ := M
  exact ⟨p, g, fd, ps, c, o, F.mono h, b⟩
theorem MakeOkN.mono {P : Program} {w : World} {K : PySem.W.Frag} {mg : Str → Option Value} {base : Heap} {j k : Nat} {x : Str} {C : Addr} {sd : Sd} {n : Nat} {ks : List Str} {f : List V → List V → List V} (M : MakeOkN P w K mg base j x C sd n ks f) (h : j ≤ k) : MakeOkN P w K mg base k x C sd n ks f := by
  obtain ⟨g, fd, ps, u, gV, h1, F, h2⟩ := M
  exact ⟨g, fd, ps, u, gV, h1, F.mono h, h2⟩
end DW

set_option Elab.async false
set_option linter.all false
set_option maxRecDepth 100000
namespace DW
open PySem PySem.Spec PyProof.Rows L2 StX SlX ClX
section
variable {X : Cx} {k : Nat} {C : Addr} {sd : Sd}
def rNiS (K : PySem.W.Frag) (C : Addr) (sd : Sd) : R2 := fun x y H Q => IsSl H C y ∧ spOf K sd [y, x] H (fun v H' => ∃ b : Bool, v = .bl b ∧ Q (.bl (!b)) H') (fun _ _ _ => False)
theorem op_niS (M : MSl X.prog X.w X.K X.mg X.base k "__contains__" C sd) (hr : Room k X.A) : L2.OpR X (compareOp .NotIn) (rNiS X.K C sd) := by
  intro pins s σ H x y v u Q I rx ry h
  obtain ⟨⟨b, dy, ws, rfl, hb⟩, q⟩ := h
  obtain ⟨g, fd, ps, sc, sf, me, F, bd⟩ := M
  cases (show u = Value.ref b from ry)
  obtain ⟨_, _, _, J, _⟩ := slt_inst I hb
  obtain ⟨_, hF⟩ := I.fr
  refine PySem.W.notIn_K hF I.ok.mod.kin J me.at_ me.fn (wpAny_mono (run_fnS (us := [.ref b, v]) (vs := [.ref b, x]) (E := fun _ _ _ _ => False) F hr bd noX I (.cons rfl (.cons rx .nil)) q) (fun w s' z => ?_) fun _ _ x => x)
  obtain ⟨_, H', I', rz, c, e, qz⟩ := z
  subst e
  cases (show w = Value.bool c from rz)
  exact wpAny_of_eq (by rfl) ⟨.bl (!c), H', I', rfl, qz⟩
def dNiS (C : Addr) (sd : Sd) (rd : D2) : D2 := fun x y Q => match y with
  | .dat (.slt C' d) => C' = C ∧ ∃ e, x = .dat e ∧ sd [.slt C d, e] (fun z => ∃ b : Bool, z = .v (.bl b) ∧ Q (.dat (.v (.bl (!b))))) (fun _ => False)
  | _ => rd x y Q
theorem sr_niS {K : PySem.W.Frag} {r : R2} {rd : D2} (h : SndR K r rd) : SndR K (fun x y H Q => rNiS K C sd x y H Q ∨ r x y H Q) (dNiS C sd rd) := fun x y s t Q q l0 F H b r1 r2 Qc kk => by
  unfold dNiS at q
  split at q
  · obtain ⟨e1, e, e2, q⟩ := q
    subst e1 e2
    refine .inl ⟨isSl_of b.sub r2, l0, F, _, _, _, b, .cons r2 (.cons r1 .nil), q, fun v d F' H' g r q => ?_, fun _ _ _ _ _ _ _ q => q.elim⟩
    obtain ⟨c, e, q⟩ := q
    subst e
    have rv : v = .bl c := by cases r; rfl
    subst rv
    exact ⟨c, rfl, kk (.bl (!c)) (.dat (.v (.bl (!c)))) F' H' g (Den.v _) q⟩
  · exact .inr (h x y s t Q q l0 F H b r1 r2 Qc kk)
end
end DW

set_option Elab.async false
set_option linter.all false
set_option maxRecDepth 100000
namespace DW
open PySem PySem.Spec PyProof.Rows L2 StX SlX ClX
def dctOf : List Str → List Dt → List (Key × Dt)
  | k :: ks, d :: ds => (.inr k, d) :: dctOf ks ds
  | _, _ => []
def vtOf : List Str → List V → List (Key × V)
  | k :: ks, d :: ds => (.inr k, d) :: vtOf ks ds
  | _, _ => []
def atS : List (Key × Dt) → Str → Option Dt
  | (.inr x, d) :: r, k => if x = k then some d else atS r k
  | _ :: r, k => atS r k
  | [], _ => none
theorem dVar_ap {i : Nat} {ρ : En} {d : Dt} {Q : Sl → Prop} {E : Xn → Prop} (h : ρ.getD i .emp = .dat d) (q : Q (.dat d)) : dVar i ρ Q E := by
  unfold dVar
  rw [h]
  exact q
section
variable {X : Cx} {W : WX} {K : PySem.W.Frag} {l0 : Addr} {F H : Hp} {pos : Pos}
theorem DenK.at : ∀ {xs : List (Key × V)} {ds : List (Key × Dt)} {k : Str} {d : Dt}, DenK K l0 F xs ds → atS ds k = some d → ∃ v, valV xs (.inr k : Key) = some v ∧ Den K l0 F v d
  | _, _, _, _, .nil, e => by simp [atS] at e
  | _, _, k, d, .cons (f := .inl i) (x := y) (d := b) h t, e => by
    have e : atS _ k = some d := e
    obtain ⟨v, h1, h2⟩ := DenK.at t e
    exact ⟨v, by rw [valV_neg (by simp)]; exact h1, h2⟩
  | _, _, k, d, .cons (f := .inr g) (x := y) (d := b) h t, e => by
    by_cases q : g = k
    · subst q
      simp only [atS, if_true] at e
      cases e
      exact ⟨y, by unfold valV; simp, h⟩
    · simp only [atS, if_neg q] at e
      obtain ⟨v, h1, h2⟩ := DenK.at t e
      exact ⟨v, by rw [valV_neg (by simpa using q)]; exact h1, h2⟩
theorem DenK.of : ∀ {ks : List Str} {vs : List V} {ds : List Dt}, Dens K l0 F vs ds → DenK K l0 F (vtOf ks vs) (dctOf ks ds)
  | [], _, _, .nil => .nil
  | [], _, _, .cons _ _ => .nil
  | _ :: _, _, _, .nil => .nil
  | _ :: ks, _, _, .cons h t => .cons h (DenK.of t)
end
end DW

set_option Elab.async false
set_option linter.all false
set_option maxRecDepth 100000
namespace DW
open PySem PySem.Spec PyProof.Rows L2 NdefX ClX
end DW

set_option Elab.async false
set_option linter.all false
set_option maxRecDepth 100000
namespace DW
open PySem PySem.Spec PyProof.Rows L2
def refsZ (o : Obj) : List Addr := match o.data with
  | .seq its _ => its.toList.flatMap He.refV
  | .dict es _ => es.toList.flatMap fun e => He.refV e.val
  | .func fd => He.refV fd.code ++ He.refV fd.defaults ++ He.refV fd.kwdefaults ++ fd.closure.map (·.2)
  | .cls cd => [cd.ns]
  | .fields vs => vs.toList.flatMap He.refV
  | _ => []
def nxZ (g : Addr → Option Obj) (as : List Addr) : List Addr := as.flatMap fun a => match g a with
  | some o => refsZ o
  | none => []
end DW

set_option Elab.async false
set_option linter.all false
set_option maxRecDepth 100000
namespace DW
open PySem L2
end DW

set_option Elab.async false
set_option linter.all false
set_option maxRecDepth 100000
namespace DW
open PySem PySem.Spec PyProof.Rows L2
end DW

set_option Elab.async false
set_option linter.all false
set_option maxRecDepth 100000
namespace DW
open PySem PySem.Spec PyProof.Rows L2
end DW

set_option Elab.async false
set_option linter.all false
set_option maxRecDepth 100000
namespace DW
open PySem PySem.Spec PyProof.Rows L2 SlX
end DW

set_option Elab.async false
set_option linter.all false
set_option maxRecDepth 100000
namespace DW
open PySem PySem.Spec PyProof.Rows L2 SlX
end DW

set_option Elab.async false
set_option linter.all false
set_option maxRecDepth 100000
namespace DW
open PySem PySem.Spec PyProof.Rows L2
end DW

set_option Elab.async false
set_option linter.all false
set_option maxRecDepth 100000
namespace DW
open PySem PySem.Spec PyProof.Rows L2 StX SlX ClX
inductive NoDct : Dt → Prop
  | v (x : V) : NoDct (.v x)
  | lst {ds : List Dt} (h : ∀ d ∈ ds, NoDct d) : NoDct (.lst ds)
  | tup {ds : List Dt} (h : ∀ d ∈ ds, NoDct d) : NoDct (.tup ds)
  | obj {C : Addr} {fs : List (Str × Dt)} (h : ∀ x ∈ fs, NoDct x.2) : NoDct (.obj C fs)
  | slt {C : Addr} {d : Dt} (h : NoDct d) : NoDct (.slt C d)
  | drw : NoDct .drw
section
variable {K : PySem.W.Frag} {l0 : Addr} {F F2 : Hp}
def putKD (kvs : List (Key × Dt)) (k : Key) (d : Dt) : List (Key × Dt) :=
  if (kvs.any fun kv => decide (kv.1 = k)) = true then kvs.map (fun kv => if kv.1 = k then (kv.1, d) else kv) else kvs ++ [(k, d)]
theorem DenK.any (k : Key) : ∀ {xs : List (Key × V)} {kvs : List (Key × Dt)}, DenK K l0 F xs kvs → (xs.any fun kv => decide (kv.1 = k)) = (kvs.any fun kv => decide (kv.1 = k))
  | _, _, .nil => rfl
  | _, _, .cons h t => by rw [List.any_cons, List.any_cons, DenK.any k t]
theorem DenK.mapP {k : Key} {v : V} {d : Dt} (r : Den K l0 F v d) : ∀ {xs : List (Key × V)} {kvs : List (Key × Dt)}, DenK K l0 F xs kvs → DenK K l0 F (xs.map fun kv => if kv.1 = k then (kv.1, v) else kv) (kvs.map fun kv => if kv.1 = k then (kv.1, d) else kv)
  | _, _, .nil => .nil
  | _, _, .cons (f := f) h t => by
    rw [List.map_cons, List.map_cons]
    by_cases c : f = k
    · rw [if_pos c, if_pos c]
      exact .cons r (DenK.mapP r t)
    · rw [if_neg c, if_neg c]
      exact .cons h (DenK.mapP r t)
theorem DenK.snoc {k : Key} {v : V} {d : Dt} (r : Den K l0 F v d) : ∀ {xs : List (Key × V)} {kvs : List (Key × Dt)}, DenK K l0 F xs kvs → DenK K l0 F (xs ++ [(k, v)]) (kvs ++ [(k, d)])
  | _, _, .nil => .cons r .nil
  | _, _, .cons h t => .cons h (DenK.snoc r t)
theorem DenK.put {k : Key} {v : V} {d : Dt} (r : Den K l0 F v d) {xs : List (Key × V)} {kvs : List (Key × Dt)} (h : DenK K l0 F xs kvs) : DenK K l0 F (putK xs k v) (putKD kvs k d) := by
  unfold putK putKD
  rw [h.any k]
  split
  · exact h.mapP r
  · exact h.snoc r
theorem DenK.length : ∀ {xs : List (Key × V)} {kvs : List (Key × Dt)}, DenK K l0 F xs kvs → xs.length = kvs.length
  | _, _, .nil => rfl
  | _, _, .cons _ t => congrArg (· + 1) (DenK.length t)
end
def NoDS : Sl → Prop
  | .emp => True
  | .dat d => NoDct d
  | _ => False
theorem NoDS.own {s : Sl} (h : NoDS s) : s.isOwn = false := by
  cases s with
  | emp => rfl
  | dat d => rfl
  | own ds => exact h.elim
  | oob p C fs => exact h.elim
  | odc kvs => exact h.elim
  | tre t => exact h.elim
theorem NoDct.put {kvs : List (Key × Dt)} {k : Key} {d : Dt} (h : ∀ x ∈ kvs, NoDct x.2) (n : NoDct d) : ∀ x ∈ putKD kvs k d, NoDct x.2 := fun x m => by
  unfold putKD at m
  split at m
  · obtain ⟨y, my, rfl⟩ := List.mem_map.mp m
    split
    · exact n
    · exact h y my
  · rcases List.mem_append.mp m with m | m
    · exact h x m
    · rw [List.mem_singleton.mp m]
      exact n
end DW

set_option Elab.async false
set_option linter.all false
set_option maxRecDepth 100000
set_option maxHeartbeats 2000000
namespace DW
open PySem PySem.Spec PySem.Froz PyProof.Rows L2 PpSet
def txtOf (v : Value) : Str := match v with | .str x _ => x | _ => Str.empty
def WlkD (w : World) (D : SD) : Prop := Ris D.2.2.place.toList ∧ (w.params.followText "set-order" = true ∨ D.2.2.led = true)
structure SetT (P : Program) (w : World) (h : Heap) (a : Addr) (l : List Str) : Prop where
  ok : ∃ D, h.get? a = some (sObj "set" D) ∧ TxOk P w D l ∧ WlkD w D ∧ List.Perm (D.1.toList.map fun e => txtOf e.2) l ∧ l.Nodup
section
variable {P : Program} {w : World} {A : Around} {E : Value → Shared → Prop} {s : Shared} {a : Addr} {l : List Str}
theorem SetT.at {h h' : Heap} (R : SetT P w h a l) (k : ∀ o, h.get? a = some o → h'.get? a = some o) : SetT P w h' a l := by
  obtain ⟨D, ho, r⟩ := R
  exact ⟨D, k _ ho, r⟩
theorem SetT.live {h : Heap} (R : SetT P w h a l) : ∃ o, h.get? a = some o := by
  obtain ⟨D, ho, r⟩ := R
  exact ⟨_, ho⟩
end
end DW

set_option Elab.async false
set_option linter.all false
set_option maxRecDepth 100000
namespace DW
open PySem PySem.Spec PyProof.Rows L2
end DW

set_option Elab.async false
set_option linter.all false
set_option maxRecDepth 100000
namespace DW
open PySem PySem.Spec PyProof.Rows L2 StX
end DW

set_option Elab.async false
set_option linter.all false
set_option maxRecDepth 100000
namespace DW
open PySem PySem.Spec PyProof.Rows L2
def PrTb (P : Program) (w : World) (K : PySem.W.Frag) (mg : Str → Option Value) (base : Heap) (k : Nat) (f : Str) (tbl : List (Addr × Sd)) : Prop := ∀ r ∈ tbl, PrOb P w K mg base k f r.1 r.2
theorem PrTb.mono {P : Program} {w : World} {K : PySem.W.Frag} {mg : Str → Option Value} {base : Heap} {j k : Nat} {f : Str} {tbl : List (Addr × Sd)} (M : PrTb P w K mg base j f tbl) (h : j ≤ k) : PrTb P w K mg base k f tbl := fun r m => (M r m).mono h
end DW

set_option Elab.async false
set_option linter.all false
set_option maxRecDepth 100000
namespace DW
open PySem PySem.Spec PyProof.Rows L2
theorem DenK.keys {K : PySem.W.Frag} {l0 : Addr} {F : Hp} : ∀ {xs : List (Key × V)} {kvs : List (Key × Dt)}, DenK K l0 F xs kvs → xs.map (·.1) = kvs.map (·.1)
  | _, _, .nil => rfl
  | _, _, .cons _ t => by
    rw [List.map_cons, List.map_cons, DenK.keys t]
theorem DenK.flat {K : PySem.W.Frag} {l0 : Addr} {F : Hp} : ∀ {xs : List (Key × V)} {kvs : List (Key × Dt)}, DenK K l0 F xs kvs → (∀ p ∈ kvs, ∃ i : Int, p.2 = .v (.int i)) → ∀ q ∈ xs, ∃ i : Int, q.2 = .int i
  | _, _, .nil, _ => fun q h => nomatch h
  | _, _, .cons h t, g => fun q m => by
    rcases List.mem_cons.mp m with e | m
    · subst e
      obtain ⟨i, e⟩ := g _ (.head _)
      cases e
      cases h
      exact ⟨i, rfl⟩
    · exact DenK.flat t (fun p hp => g p (.tail _ hp)) q m
theorem DenK.same {K : PySem.W.Frag} {l0 : Addr} {F : Hp} : ∀ {xs ys : List (Key × V)} {kvs : List (Key × Dt)}, DenK K l0 F xs kvs → DenK K l0 F ys kvs → (∀ p ∈ kvs, ∃ i : Int, p.2 = .v (.int i)) → xs = ys
  | _, _, _, .nil, .nil, _ => rfl
  | _, _, _, .cons h t, .cons h2 t2, g => by
    obtain ⟨i, e⟩ := g _ (.head _)
    cases e
    cases h
    cases h2
    rw [DenK.same t t2 fun p hp => g p (.tail _ hp)]
end DW
namespace DW
open PySem PySem.W
open PySem.Sem (wp)
end DW
namespace DW
open PySem PySem.Spec PyProof.Rows L2
section
variable {K : PySem.W.Frag} {W : WX} {l0 : Addr} {F H F' H' : Hp} {σ : L2.St} {ρ : En}
theorem GoI.refl {x : Addr} (b : Base l0 F H) : GoI l0 x F H F H := ⟨b, fun _ _ h => h, fun _ h1 h2 => absurd h1 h2, fun _ _ _ _ h => h⟩
theorem GoI.trans {x : Addr} {F1 H1 F2 H2 : Hp} {o : HO} (hx : F1 x = none) (g : GoI l0 x F H F1 H1) (k : Go l0 F1 H1 F2 H2) : GoI l0 x F H F2 H2 where
  bs := k.bs
  ex := fun a o h => k.ex a o (g.ex a o h)
  new := fun a h1 h2 => by
    by_cases q : F1 a = none
    · have z := k.new a q h2
      cases e : H a with
      | none => exact .inl rfl
      | some o =>
        by_cases w : a = l0
        · subst w
          exact absurd z g.bs.live
        · by_cases w2 : a = x
          · exact .inr w2
          · rw [g.keep a o w w2 e] at z
            cases z
    · exact g.new a h1 q
  keep := fun a o n1 n2 h => k.keep a o n1 (g.keep a o n1 n2 h)
theorem GoI.mod {x : Addr} {o : HO} (g : GoI l0 x F H F' H') (hF : F' x = none) (n0 : x ≠ l0) : GoI l0 x F H F' (upd H' x o) := by
  refine ⟨⟨fun a u e => ?_, g.bs.nf, ?_⟩, g.ex, g.new, fun a u n1 n2 e => ?_⟩
  · rw [upd_ne (ne_of_none e hF)]
    exact g.bs.sub a u e
  · obtain ⟨ns, h1, h2⟩ := g.bs.dr
    exact ⟨ns, by rw [upd_ne n0.symm]; exact h1, h2⟩
  · rw [upd_ne n2]
    exact g.keep a u n1 n2 e
end
end DW

set_option Elab.async false
set_option linter.all false
set_option maxRecDepth 100000
namespace DW
theorem gdN {i : Nat} {d : Dt} {ρ : En} {R : En → Prop} (h : R (ρ.set i (.dat d))) : gdName i (.dat d) ρ R := h
theorem nxN {K : En → Prop} {rt : Dt → Prop} {bk ct : En → Prop} {ex : Xn → En → Prop} {rs : Dt → En → Prop} {ρ : En} (h : K ρ) : DEnds.nx { nx := K, rt := rt, bk := bk, ct := ct, ex := ex, rs := rs } ρ := h
theorem if_cut {c : DTt} {t1 t2 u : DS} {D : DEnds} {ρ : En} (P : En → Prop) (h1 : ∀ K : En → Prop, (∀ ρ', P ρ' → K ρ') → dIfS c t1 t2 { D with nx := K } ρ) (h2 : ∀ ρ', P ρ' → u D ρ') : dSeq (dIfS c t1 t2) u D ρ := h1 _ h2
end DW

set_option Elab.async false
set_option linter.all false
set_option maxRecDepth 100000
namespace DW
open PySem PySem.Spec PyProof.Rows L2 StX
section
variable {K : PySem.W.Frag} {l0 : Addr} {F H F' H' : Hp} {σ : L2.St} {ρ : En} {s s' : Sl} {i : Nat} {l p : Addr} {o : HO} {v : V}
mutual
theorem TreV.hold : ∀ {v : V} {t : OT}, TreV K l0 F H v t → ∀ x ∈ t.ads, ∀ a, H x = some (.own a) → a ∈ t.ads
  | _, _, .dat _, x, m, _, _ => nomatch m
  | _, _, .lst h1 h2 h3 r, x, m, a, e => by
    rcases List.mem_cons.mp m with rfl | m
    · rw [h3] at e; cases e
    · exact List.mem_cons_of_mem _ (TreVs.hold r x m a e)
  | _, _, .ins h1 h2 h3 k1 k2 k3 r, x, m, a, e => by
    rcases List.mem_cons.mp m with rfl | m
    · rw [h3] at e; cases e
    · rcases List.mem_cons.mp m with rfl | m
      · rw [k3] at e; cases e; exact List.mem_cons_self
      · exact List.mem_cons_of_mem _ (List.mem_cons_of_mem _ (TreVf.hold r x m a e))
  | _, _, .dct h1 h2 h3 r, x, m, a, e => by
    rcases List.mem_cons.mp m with rfl | m
    · rw [h3] at e; cases e
    · exact List.mem_cons_of_mem _ (TreVk.hold r x m a e)
theorem TreVs.hold : ∀ {v : List V} {t : List OT}, TreVs K l0 F H v t → ∀ x ∈ adsL t, ∀ a, H x = some (.own a) → a ∈ adsL t
  | _, _, .nil, x, m, _, _ => nomatch m
  | _, _, .cons h r, x, m, a, e => (List.mem_append.mp m).elim (fun m => List.mem_append_left _ (TreV.hold h x m a e)) fun m => List.mem_append_right _ (TreVs.hold r x m a e)
theorem TreVf.hold : ∀ {v : List (Str × V)} {t : List (Str × OT)}, TreVf K l0 F H v t → ∀ x ∈ adsF t, ∀ a, H x = some (.own a) → a ∈ adsF t
  | _, _, .nil, x, m, _, _ => nomatch m
  | _, _, .cons h r, x, m, a, e => (List.mem_append.mp m).elim (fun m => List.mem_append_left _ (TreV.hold h x m a e)) fun m => List.mem_append_right _ (TreVf.hold r x m a e)
theorem TreVk.hold : ∀ {v : List NEnt} {t : List (Dt × OT)}, TreVk K l0 F H v t → ∀ x ∈ adsK t, ∀ a, H x = some (.own a) → a ∈ adsK t
  | _, _, .nil, x, m, _, _ => nomatch m
  | _, _, .cons _ _ h r, x, m, a, e => (List.mem_append.mp m).elim (fun m => List.mem_append_left _ (TreV.hold h x m a e)) fun m => List.mem_append_right _ (TreVk.hold r x m a e)
end
theorem SlV.hold {x a : Addr} (h : SlV K l0 F H v s) (w : s.owns (some (some v)) x) (e : H x = some (.own a)) : s.owns (some (some v)) a := by
  obtain ⟨o, w⟩ := w
  cases s with
  | emp => cases o
  | dat d => cases o
  | own ds =>
    obtain ⟨l, xs, e', h1, h2, h3, _⟩ := h
    rcases w with w | w
    · subst e'; cases w; rw [h3] at e; cases e
    · exact nomatch w
  | oob p0 C fs =>
    obtain ⟨l, dx, gs, e', h1, h2, h3, _⟩ := h
    rcases w with w | w
    · subst e'; cases w; rw [h3] at e; cases e
    · exact nomatch w
  | odc kvs =>
    obtain ⟨l, xs, e', h1, h2, h3, _⟩ := h
    rcases w with w | w
    · subst e'; cases w; rw [h3] at e; cases e
    · exact nomatch w
  | tre t =>
    obtain ⟨r, _, n⟩ := h
    refine ⟨rfl, .inr ?_⟩
    rcases w with w | w
    · obtain ⟨b, e', m⟩ := r.root n
      subst e'; cases w
      exact r.hold _ m a e
    · exact r.hold x w a e
theorem SlV.far {A : Addr → Prop} (h : SlV K l0 F H v s) (ex : Same F F') (new : ∀ a, F a = none → F' a ≠ none → H a = none ∨ A a) (keep : ∀ a u, a ≠ l0 → ¬ A a → H a = some u → H' a = some u)
    (no : ∀ a, s.owns (some (some v)) a → ¬ A a) (hd : ∀ x a, A x → H x = some (.own a) → A a) : SlV K l0 F' H' v s := by
  have stay : ∀ {l : Addr} {o : HO}, F l = none → H l = some o → ¬ A l → F' l = none := fun {l o} h1 h2 h3 => by
    cases e : F' l with
    | none => rfl
    | some u =>
      rcases new l h1 (by rw [e]; exact fun z => nomatch z) with z | z
      · rw [h2] at z
        cases z
      · exact absurd z h3
  cases s with
  | emp => exact h
  | dat d => exact Den.mono ex h
  | own ds =>
    obtain ⟨l', xs, e, a1, a2, a3, a4⟩ := h
    have ne : ¬ A l' := no l' ⟨rfl, .inl (by rw [e])⟩
    exact ⟨l', xs, e, stay a1 a3 ne, a2, keep _ _ a2 ne a3, Dens.mono ex a4⟩
  | oob p0 C fs =>
    obtain ⟨l', dx, gs, e, a1, a2, a3, a4, e1, e2, a5, a6, a7⟩ := h
    have ne : ¬ A l' := no l' ⟨rfl, .inl (by rw [e])⟩
    have nd : ¬ A dx := fun z => ne (hd dx l' z a7)
    exact ⟨l', dx, gs, e, stay a1 a3 ne, a2, keep _ _ a2 ne a3, DenF.mono ex a4, e1, e2, stay a5 a7 nd, a6, keep _ _ a6 nd a7⟩
  | odc kvs =>
    obtain ⟨l', xs, e, a1, a2, a3, a4⟩ := h
    have ne : ¬ A l' := no l' ⟨rfl, .inl (by rw [e])⟩
    exact ⟨l', xs, e, stay a1 a3 ne, a2, keep _ _ a2 ne a3, DenK.mono ex a4⟩
  | tre t =>
    obtain ⟨r, nd, n⟩ := h
    have ne : ∀ a ∈ t.ads, ¬ A a := fun a m => no a ⟨rfl, .inr m⟩
    exact ⟨r.frm ex (fun a m => by obtain ⟨h1, _, o, h3⟩ := r.liv a m; exact stay h1 h3 (ne a m)) fun a m o e => keep a o (r.liv a m).2.1 (ne a m) e, nd, n⟩
end
section
variable {K : PySem.W.Frag} {l0 : Addr} {F H : Hp} {σ : L2.St} {ρ : En} {X : Cx} {W : WX} {i : Nat} {e ke : Expr} {xe tk : TE} {de dk dv : DE} {pos : Pos}
theorem Stt.odc {kvs : List (Key × Dt)} (S : Stt K l0 F H σ ρ) (h : ρ[i]? = some (.odc kvs)) : ∃ l xs, σ[i]? = some (some (.ref l)) ∧ F l = none ∧ l ≠ l0 ∧ H l = some (.dK xs) ∧ DenK K l0 F xs kvs := by
  rcases S.sl i _ h with z | ⟨v, h1, l, xs, e, h2, h3, h4, h5⟩
  · cases z
  · subst e
    exact ⟨l, xs, h1, h2, h3, h4, h5⟩
end
end DW

set_option Elab.async false
set_option linter.all false
set_option maxRecDepth 100000
namespace DW
open PySem PySem.Spec PyProof.Rows L2
end DW

set_option Elab.async false
set_option linter.all false
set_option maxRecDepth 100000
namespace PySem.W
open Lean Elab Tactic Meta PySem PySem.Calls PyProof.Rows
end PySem.W
namespace DW
open PySem PySem.Spec PyProof.Rows L2 StX SlX
structure OpTb (P : Program) (w : World) (K : PySem.W.Frag) (mg : Str → Option Value) (base : Heap) (k : Nat) (m r : Str) (tbl : List (Addr × Sd)) : Prop where
  row : ∀ t ∈ tbl, OpM P w K mg base k m t.1 t.2 ∧ ∃ rc, PySem.W.findIn K (.ref t.1) r = some rc ∧ (rc = none ∨ ∃ g : Addr, rc = some (.ref g))
  sub : ∀ t ∈ tbl, ∀ u ∈ tbl, t.1 ≠ u.1 → PySem.W.subIn K (.ref u.1) (.ref t.1) = some false
theorem OpTb.mono {P : Program} {w : World} {K : PySem.W.Frag} {mg : Str → Option Value} {base : Heap} {j k : Nat} {m r : Str} {tbl : List (Addr × Sd)} (M : OpTb P w K mg base j m r tbl) (h : j ≤ k) : OpTb P w K mg base k m r tbl := ⟨fun t ht => ⟨⟨(M.row t ht).1.1, (M.row t ht).1.2.mono h⟩, (M.row t ht).2⟩, M.sub⟩
section
variable {X : Cx} {W : WX} {k : Nat} {e1 e2 e : Expr} {pos : Pos}
end
end DW

set_option Elab.async false
set_option linter.all false
set_option maxRecDepth 100000
namespace DW
open PySem PySem.Spec PyProof.Rows L2 StX SlX
end DW

set_option Elab.async false
set_option linter.all false
set_option maxRecDepth 100000
namespace DW
open PySem PySem.Spec PyProof.Rows L2 StX SlX
inductive OKd where
  | l
  | i (C : Addr)
  | d
mutual
def OT.kinds : OT → List OKd
  | .dat _ => []
  | .lst _ xs => .l :: kindsL xs
  | .ins _ _ C fs => .i C :: kindsF fs
  | .dct _ _ kvs => .d :: kindsK kvs
def kindsL : List OT → List OKd
  | [] => []
  | t :: r => t.kinds ++ kindsL r
def kindsF : List (Str × OT) → List OKd
  | [] => []
  | (_, t) :: r => t.kinds ++ kindsF r
def kindsK : List (Dt × OT) → List OKd
  | [] => []
  | (_, t) :: r => t.kinds ++ kindsK r
end
def Sl.kinds : Sl → List OKd
  | .own _ => [.l]
  | .oob _ C _ => [.i C]
  | .odc _ => [.d]
  | .tre t => t.kinds
  | _ => []
def noL (ρ : En) : Prop := ∀ s ∈ ρ, OKd.l ∉ s.kinds
def noC (C : Addr) (ρ : En) : Prop := ∀ s ∈ ρ, OKd.i C ∉ s.kinds
def noI (ρ : En) : Prop := ∀ C, noC C ρ
def noD (ρ : En) : Prop := ∀ s ∈ ρ, OKd.d ∉ s.kinds
inductive CleanR (ρ : En) : Dt → Prop
  | v (x : V) : CleanR ρ (.v x)
  | tup {ds : List Dt} (h : ∀ d ∈ ds, CleanR ρ d) : CleanR ρ (.tup ds)
  | slt {C : Addr} {d : Dt} (h : CleanR ρ d) : CleanR ρ (.slt C d)
  | lst {ds : List Dt} (n : noL ρ) (h : ∀ d ∈ ds, CleanR ρ d) : CleanR ρ (.lst ds)
  | obj {C : Addr} {gs : List (Str × Dt)} (n : noI ρ) (h : ∀ f ∈ gs, CleanR ρ f.2) : CleanR ρ (.obj C gs)
  | objC {C : Addr} {gs : List (Str × Dt)} (n : noC C ρ) (h : ∀ f ∈ gs, CleanR ρ f.2) : CleanR ρ (.obj C gs)
  | dct {kvs : List (Key × Dt)} (n : noD ρ) (h : ∀ f ∈ kvs, CleanR ρ f.2) : CleanR ρ (.dct kvs)
theorem CleanR.lst_inv {ρ : En} {ds : List Dt} : CleanR ρ (.lst ds) → noL ρ ∧ ∀ d ∈ ds, CleanR ρ d
  | .lst n h => ⟨n, h⟩
theorem CleanR.obj_inv {ρ : En} {C : Addr} {gs : List (Str × Dt)} : CleanR ρ (.obj C gs) → noC C ρ ∧ ∀ f ∈ gs, CleanR ρ f.2
  | .obj n h => ⟨n C, h⟩
  | .objC n h => ⟨n, h⟩
theorem CleanR.dct_inv {ρ : En} {gs : List (Key × Dt)} : CleanR ρ (.dct gs) → noD ρ ∧ ∀ f ∈ gs, CleanR ρ f.2
  | .dct n h => ⟨n, h⟩
def KdOf : OKd → HO → Prop
  | .l, o => ∃ xs, o = .lst xs
  | .i C, o => (∃ dx fs, o = .ins C dx fs) ∨ ∃ a, o = .own a
  | .d, o => (∃ xs, o = .dK xs) ∨ ∃ w a ep es, o = .ext (rawN w a ep es)
def KdIn (ks : List OKd) (o : HO) : Prop := ∃ k ∈ ks, KdOf k o
theorem KdIn.mono {ks ls : List OKd} (h : ∀ k ∈ ks, k ∈ ls) {o : HO} : KdIn ks o → KdIn ls o := fun ⟨k, m, z⟩ => ⟨k, h k m, z⟩
section
variable {K : PySem.W.Frag} {l0 : Addr} {F H F' H' : Hp} {σ : L2.St} {ρ : En}
mutual
theorem TreV.kd : ∀ {v : V} {t : OT}, TreV K l0 F H v t → ∀ a ∈ t.ads, ∃ o, H a = some o ∧ KdIn t.kinds o
  | _, _, .dat _, a, m => nomatch m
  | _, _, .lst h1 h2 h3 r, a, m => (List.mem_cons.mp m).elim (fun e => by subst e; exact ⟨_, h3, .l, List.mem_cons_self, _, rfl⟩) fun m => (TreVs.kd r a m).imp fun _ z => ⟨z.1, z.2.mono fun _ q => List.mem_cons_of_mem _ q⟩
  | _, _, .ins h1 h2 h3 k1 k2 k3 r, a, m => (List.mem_cons.mp m).elim (fun e => by subst e; exact ⟨_, h3, .i _, List.mem_cons_self, .inl ⟨_, _, rfl⟩⟩) fun m => (List.mem_cons.mp m).elim (fun e => by subst e; exact ⟨_, k3, .i _, List.mem_cons_self, .inr ⟨_, rfl⟩⟩) fun m => (TreVf.kd r a m).imp fun _ z => ⟨z.1, z.2.mono fun _ q => List.mem_cons_of_mem _ q⟩
  | _, _, .dct h1 h2 h3 r, a, m => (List.mem_cons.mp m).elim (fun e => by subst e; exact ⟨_, h3, .d, List.mem_cons_self, .inr ⟨_, _, _, _, rfl⟩⟩) fun m => (TreVk.kd r a m).imp fun _ z => ⟨z.1, z.2.mono fun _ q => List.mem_cons_of_mem _ q⟩
theorem TreVs.kd : ∀ {v : List V} {t : List OT}, TreVs K l0 F H v t → ∀ a ∈ adsL t, ∃ o, H a = some o ∧ KdIn (kindsL t) o
  | _, _, .nil, a, m => nomatch m
  | _, _, .cons h r, a, m => (List.mem_append.mp m).elim (fun m => (TreV.kd h a m).imp fun _ z => ⟨z.1, z.2.mono fun _ q => List.mem_append_left _ q⟩) fun m => (TreVs.kd r a m).imp fun _ z => ⟨z.1, z.2.mono fun _ q => List.mem_append_right _ q⟩
theorem TreVf.kd : ∀ {v : List (Str × V)} {t : List (Str × OT)}, TreVf K l0 F H v t → ∀ a ∈ adsF t, ∃ o, H a = some o ∧ KdIn (kindsF t) o
  | _, _, .nil, a, m => nomatch m
  | _, _, .cons h r, a, m => (List.mem_append.mp m).elim (fun m => (TreV.kd h a m).imp fun _ z => ⟨z.1, z.2.mono fun _ q => List.mem_append_left _ q⟩) fun m => (TreVf.kd r a m).imp fun _ z => ⟨z.1, z.2.mono fun _ q => List.mem_append_right _ q⟩
theorem TreVk.kd : ∀ {v : List NEnt} {t : List (Dt × OT)}, TreVk K l0 F H v t → ∀ a ∈ adsK t, ∃ o, H a = some o ∧ KdIn (kindsK t) o
  | _, _, .nil, a, m => nomatch m
  | _, _, .cons _ _ h r, a, m => (List.mem_append.mp m).elim (fun m => (TreV.kd h a m).imp fun _ z => ⟨z.1, z.2.mono fun _ q => List.mem_append_left _ q⟩) fun m => (TreVk.kd r a m).imp fun _ z => ⟨z.1, z.2.mono fun _ q => List.mem_append_right _ q⟩
end
end
end DW

set_option Elab.async false
set_option linter.all false
set_option maxRecDepth 100000
namespace DW
open PySem PySem.Spec PyProof.Rows L2 StX SlX
end DW

set_option Elab.async false
set_option linter.all false
set_option maxRecDepth 100000
namespace DW
open PySem PySem.Spec PyProof.Rows L2 StX SlX ClX
abbrev SdX := List (Str × Dt) → List Dt → (Dt → List (Str × Dt) → Prop) → (Xn → List (Str × Dt) → Prop) → Prop
def spMX (K : PySem.W.Frag) (C : Addr) (sd : SdX) : Sp := fun vs H Q E => ∃ x us l0 F fs gs ds Qd Ed dx, vs = V.ref x :: us ∧ Base l0 F H ∧ F x = none ∧ x ≠ l0 ∧ H x = some (.ins C dx gs) ∧ DenF K l0 F gs fs ∧ (F dx = none ∧ dx ≠ l0 ∧ H dx = some (.own x)) ∧ Dens K l0 F us ds ∧ sd fs ds Qd Ed ∧
  (∀ v d gs' fs' F' H', GoI l0 x F H F' H' → F' x = none → H' x = some (.ins C dx gs') → DenF K l0 F' gs' fs' → Den K l0 F' v d → Qd d fs' → Q v H') ∧ (∀ cls dct xn gs' fs' F' H', GoI l0 x F H F' H' → F' x = none → H' x = some (.ins C dx gs') → DenF K l0 F' gs' fs' → XDen K l0 F' H' cls dct xn → Ed xn fs' → E cls dct H')
def MuX (P : Program) (w : World) (K : PySem.W.Frag) (mg : Str → Option Value) (base : Heap) (k : Nat) (m : Str) (C : Addr) (sd : SdX) : Prop := ∃ (g : Addr) (fd : FuncData) (ps : List Str), Cls K C ∧ Meth K C m g ∧ FnOk P w K mg base (L2.CX P w) k g fd ps (spMX K C sd) ∧ Binds K fd ps []
theorem MuX.mono {P : Program} {w : World} {K : PySem.W.Frag} {mg : Str → Option Value} {base : Heap} {j k : Nat} {m : Str} {C : Addr} {sd : SdX} (M : MuX P w K mg base j m C sd) (h : j ≤ k) : MuX P w K mg base k m C sd := by
  obtain ⟨g, fd, ps, c, me, F, b⟩ := M
  exact ⟨g, fd, ps, c, me, F.mono h, b⟩
end DW

set_option Elab.async false
set_option linter.all false
set_option maxRecDepth 100000
namespace DW
open PySem PySem.Spec PyProof.Rows L2 StX SlX ClX
end DW

set_option Elab.async false
set_option linter.all false
set_option maxRecDepth 100000
namespace DW
open PySem PySem.Spec PyProof.Rows L2 StX SlX ClX
abbrev DES := En → (Sl → En → Prop) → (Xn → En → Prop) → Prop
def KXS (K : PySem.W.Frag) (W : WX) (l0 : Addr) (F H : Hp) (σ : L2.St) (ρ : En) (E : Xn → En → Prop) : Prop := ∀ cls d x ρ' F' H', GoS l0 F H σ ρ F' H' → OwS H σ ρ σ ρ' → Stt K l0 F' H' σ ρ' → XDen K l0 F' H' cls d x → E x ρ' → W cls d σ H'
abbrev DTS := En → (Bool → En → Prop) → (Xn → En → Prop) → Prop
section
variable {X : Cx} {W : WX} {k : Nat} {C : Addr} {f x y : Str} {p1 p pos apos epos : Pos} {e a b : Expr} {es : List Expr} {t : TA} {da : DA} {xa xb te : TE} {de db : DE} {ds : DES} {yt yu : TT} {dt du : DTt} {dts : DTS}
theorem KXS.kx {K : PySem.W.Frag} {l0 : Addr} {F H : Hp} {σ : L2.St} {ρ : En} {E : Xn → En → Prop} (k : KXS K W l0 F H σ ρ E) (S : Stt K l0 F H σ ρ) : KX K W l0 F H σ (fun x => E x ρ) := fun cls d x F' H' g r q => k cls d x ρ F' H' (.of g) .refl (S.go g) r q
theorem KXS.trans {K : PySem.W.Frag} {l0 : Addr} {F H F1 H1 : Hp} {σ : L2.St} {ρ ρ1 : En} {E : Xn → En → Prop} (k : KXS K W l0 F H σ ρ E) (b : Base l0 F H) (g : GoS l0 F H σ ρ F1 H1) (w : OwS H σ ρ σ ρ1) : KXS K W l0 F1 H1 σ ρ1 E := fun cls d x ρ' F' H' g' w' S r q => k cls d x ρ' F' H' (g.trans b w g') (OwS.trans b g w w') S r q
end
end DW

set_option Elab.async false
set_option linter.all false
set_option maxRecDepth 100000
namespace DW
open PySem PySem.Spec PyProof.Rows L2 StX SlX ClX
end DW

set_option Elab.async false
set_option linter.all false
set_option maxRecDepth 100000
namespace DW
open PySem PySem.Spec PyProof.Rows L2 StX SlX ClX
end DW

set_option Elab.async false
set_option linter.all false
set_option maxRecDepth 100000
namespace DW
open PySem PySem.Spec PyProof.Rows L2 StX SlX ClX
end DW

set_option Elab.async false
set_option linter.all false
set_option maxRecDepth 100000
namespace DW
open PySem PySem.Spec PyProof.Rows L2 StX SlX
theorem DenK.len {K : PySem.W.Frag} {l0 : Addr} {F : Hp} : ∀ {xs : List (Key × V)} {kvs : List (Key × Dt)}, DenK K l0 F xs kvs → xs.length = kvs.length
  | _, _, .nil => rfl
  | _, _, .cons _ t => by rw [List.length_cons, List.length_cons, DenK.len t]
end DW

set_option Elab.async false
set_option linter.all false
set_option maxRecDepth 100000
set_option maxHeartbeats 2000000
namespace DW
open PySem PySem.Spec PyProof.Rows L2 StX SlX ClX
def KItO (d it : Addr) (i n ep : Nat) : HO := .ext fun h => h.IsKeyIter it d i n ep
section
variable {X : Cx} {pins : List (Addr × Obj)} {σ : L2.St} {H : Hp} {s : Shared} {d it q a C dx g : Addr} {i n ep : Nat} {kvs : List (Key × V)} {k : Nat} {f : Str} {o : Obj}
def spItK (K : PySem.W.Frag) (f : Str) : Sp := fun vs H Q _ => ∃ (a C dx d : Addr) (fs : List (Str × V)) (o : Obj) (kvs : List (Key × V)), vs = [V.ref a] ∧ H a = some (.ins C dx fs) ∧ Cls K C ∧ NoAttr K C f ∧ fs.lookup f = some (.ref d) ∧ H d = some (.frz o (.dK kvs)) ∧ ∀ it es ep, H it = none → o.data = .dict es ep → Q (.ref it) (upd H it (KItO d it 0 es.size ep))
def spLnK (K : PySem.W.Frag) (f : Str) : Sp := fun vs H Q _ => ∃ (a C dx d : Addr) (fs : List (Str × V)) (kvs : List (Key × V)), vs = [V.ref a] ∧ H a = some (.ins C dx fs) ∧ Cls K C ∧ NoAttr K C f ∧ fs.lookup f = some (.ref d) ∧ Rd H d (.dK kvs) ∧ Q (.int kvs.length) H
def MItK (P : Program) (w : World) (K : PySem.W.Frag) (mg : Str → Option Value) (base : Heap) (k : Nat) (f : Str) (C : Addr) : Prop := ∃ (g : Addr) (fd : FuncData) (ps : List Str), Cls K C ∧ NoAttr K C f ∧ Meth K C "__iter__" g ∧ FnOk P w K mg base (L2.CX P w) k g fd ps (spItK K f) ∧ Binds K fd ps []
def MLnK (P : Program) (w : World) (K : PySem.W.Frag) (mg : Str → Option Value) (base : Heap) (k : Nat) (f : Str) (C : Addr) : Prop := ∃ (g : Addr) (fd : FuncData) (ps : List Str), Cls K C ∧ NoAttr K C f ∧ Meth K C "__len__" g ∧ FnOk P w K mg base (L2.CX P w) k g fd ps (spLnK K f) ∧ Binds K fd ps []
theorem MItK.mono {P : Program} {w : World} {K : PySem.W.Frag} {mg : Str → Option Value} {base : Heap} {j k : Nat} (M : MItK P w K mg base j f C) (h : j ≤ k) : MItK P w K mg base k f C := by
  obtain ⟨g, fd, ps, h1, h2, h3, F, b⟩ := M
  exact ⟨g, fd, ps, h1, h2, h3, F.mono h, b⟩
theorem MLnK.mono {P : Program} {w : World} {K : PySem.W.Frag} {mg : Str → Option Value} {base : Heap} {j k : Nat} (M : MLnK P w K mg base j f C) (h : j ≤ k) : MLnK P w K mg base k f C := by
  obtain ⟨g, fd, ps, h1, h2, h3, F, b⟩ := M
  exact ⟨g, fd, ps, h1, h2, h3, F.mono h, b⟩
end
end DW

set_option Elab.async false
set_option linter.all false
set_option maxRecDepth 100000
set_option maxHeartbeats 2000000
namespace DW
open PySem PySem.Spec PyProof.Rows L2 StX SlX ClX
end DW

set_option Elab.async false
set_option linter.all false
set_option maxRecDepth 100000
set_option maxHeartbeats 2000000
namespace DW
open PySem PySem.Spec PyProof.Rows L2 StX SlX ClX
end DW

set_option Elab.async false
set_option linter.all false
set_option maxRecDepth 100000
namespace DW
open PySem PySem.Spec PyProof.Rows L2 StX SlX ClX
end DW

set_option Elab.async false
set_option linter.all false
set_option maxRecDepth 100000
namespace DW
open PySem PySem.Spec PyProof.Rows L2 StX SlX ClX
end DW

set_option Elab.async false
set_option linter.all false
set_option maxRecDepth 100000
namespace DW
open PySem PySem.Spec PyProof.Rows L2 StX SlX ClX
def SetX (P : Program) (w : World) (K : PySem.W.Frag) (mg : Str → Option Value) (base : Heap) (k : Nat) (C : Addr) (sd : SdX) : Prop := ∃ (g : Addr) (fd : FuncData) (ps : List Str), Cls K C ∧ Meth K C "__setitem__" g ∧ PySem.W.noSeq K C = true ∧ FnOk P w K mg base (L2.CX P w) k g fd ps (spMX K C sd) ∧ Binds K fd ps []
def GetX (P : Program) (w : World) (K : PySem.W.Frag) (mg : Str → Option Value) (base : Heap) (k : Nat) (C : Addr) (sd : SdX) : Prop := ∃ (g : Addr) (fd : FuncData) (ps : List Str), Cls K C ∧ Meth K C "__getitem__" g ∧ PySem.W.fnIn K g = true ∧ FnOk P w K mg base (L2.CX P w) k g fd ps (spMX K C sd) ∧ Binds K fd ps []
section
variable {X : Cx} {W : WX} {k : Nat} {C : Addr} {sd : SdX} {y : Str} {p1 pos pos' : Pos} {a b v : Expr} {tv tb : TE} {dv db : DE}
end
theorem SetX.mono {P : Program} {w : World} {K : PySem.W.Frag} {mg : Str → Option Value} {base : Heap} {j k : Nat} {C : Addr} {sd : SdX} (M : SetX P w K mg base j C sd) (h : j ≤ k) : SetX P w K mg base k C sd := by
  obtain ⟨g, fd, ps, c, me, q, F, b⟩ := M
  exact ⟨g, fd, ps, c, me, q, F.mono h, b⟩
theorem GetX.mono {P : Program} {w : World} {K : PySem.W.Frag} {mg : Str → Option Value} {base : Heap} {j k : Nat} {C : Addr} {sd : SdX} (M : GetX P w K mg base j C sd) (h : j ≤ k) : GetX P w K mg base k C sd := by
  obtain ⟨g, fd, ps, c, me, q, F, b⟩ := M
  exact ⟨g, fd, ps, c, me, q, F.mono h, b⟩
end DW

set_option Elab.async false
set_option linter.all false
set_option maxRecDepth 100000
namespace DW
open PySem PySem.Spec PyProof.Rows L2 StX SlX ClX
end DW

set_option Elab.async false
set_option linter.all false
set_option maxRecDepth 100000
set_option maxHeartbeats 3200000
namespace DW
open PySem PySem.Spec PyProof.Rows L2
end DW

set_option Elab.async false
set_option linter.all false
set_option maxRecDepth 100000
namespace DW
open PySem PySem.Spec PyProof.Rows L2
end DW

set_option Elab.async false
set_option linter.all false
set_option maxRecDepth 100000
namespace DW
open PySem PySem.Spec PyProof.Rows L2
end DW

set_option Elab.async false
set_option linter.all false
set_option maxRecDepth 100000
namespace DW
open PySem PySem.Spec PyProof.Rows L2 StX SlX ClX
end DW

set_option Elab.async false
set_option linter.all false
set_option maxRecDepth 100000
namespace DW
open PySem PySem.Spec PyProof.Rows L2
end DW

set_option Elab.async false
set_option linter.all false
set_option maxRecDepth 100000
namespace DW
open PySem PySem.Spec PyProof.Rows L2 StX SlX
inductive CleanI (C0 : Addr) : Dt → Prop
  | v (x : V) : CleanI C0 (.v x)
  | tup {ds : List Dt} (h : ∀ d ∈ ds, CleanI C0 d) : CleanI C0 (.tup ds)
  | lst {ds : List Dt} (h : ∀ d ∈ ds, CleanI C0 d) : CleanI C0 (.lst ds)
  | slt {C : Addr} {d : Dt} (h : CleanI C0 d) : CleanI C0 (.slt C d)
  | obj {C : Addr} {gs : List (Str × Dt)} (n : C ≠ C0) (h : ∀ f ∈ gs, CleanI C0 f.2) : CleanI C0 (.obj C gs)
  | dct {kvs : List (Key × Dt)} (h : ∀ f ∈ kvs, CleanI C0 f.2) : CleanI C0 (.dct kvs)
theorem CleanI.obj_inv {C0 C : Addr} {gs : List (Str × Dt)} : CleanI C0 (.obj C gs) → C ≠ C0 ∧ ∀ f ∈ gs, CleanI C0 f.2
  | .obj n h => ⟨n, h⟩
theorem CleanI.tup_inv {C0 : Addr} {gs : List Dt} : CleanI C0 (.tup gs) → ∀ f ∈ gs, CleanI C0 f
  | .tup h => h
theorem CleanI.lst_inv {C0 : Addr} {gs : List Dt} : CleanI C0 (.lst gs) → ∀ f ∈ gs, CleanI C0 f
  | .lst h => h
theorem CleanI.slt_inv {C0 C : Addr} {d : Dt} : CleanI C0 (.slt C d) → CleanI C0 d
  | .slt h => h
theorem CleanI.dct_inv {C0 : Addr} {gs : List (Key × Dt)} : CleanI C0 (.dct gs) → ∀ f ∈ gs, CleanI C0 f.2
  | .dct h => h
def Isp (p : Addr × Addr) (a : Addr) : Prop := a = p.1 ∨ a = p.2
instance (p : Addr × Addr) (a : Addr) : Decidable (Isp p a) := inferInstanceAs (Decidable (_ ∨ _))
def lndF (F H : Hp) (p : Addr × Addr) : Hp := fun a => if Isp p a then H a else F a
def lndB (F' : Hp) (p : Addr × Addr) : Hp := fun a => if Isp p a then none else F' a
section
variable {K : PySem.W.Frag} {l0 : Addr} {F H F' H' : Hp} {σ : L2.St} {ρ : En} {p : Addr × Addr}
theorem lndF_own {a : Addr} (h : Isp p a) : lndF F H p a = H a := if_pos h
theorem lndF_not {a : Addr} (h : ¬ Isp p a) : lndF F H p a = F a := if_neg h
theorem lndB_own {a : Addr} (h : Isp p a) : lndB F' p a = none := if_pos h
theorem lndB_not {a : Addr} (h : ¬ Isp p a) : lndB F' p a = F' a := if_neg h
structure Lent (l0 : Addr) (F H : Hp) (p : Addr × Addr) (C : Addr) : Prop where
  f1 : F p.1 = none
  n1 : p.1 ≠ l0
  h1 : ∃ gs, H p.1 = some (.ins C p.2 gs)
  f2 : F p.2 = none
  n2 : p.2 ≠ l0
  h2 : H p.2 = some (.own p.1)
theorem Stt.lent {j : Nat} {C : Addr} {fs : List (Str × Dt)} (S : Stt K l0 F H σ ρ) (h : ρ[j]? = some (.oob p C fs)) : Lent l0 F H p C := by
  obtain ⟨gs, _, hF, n0, hH, _, w1, w2, w3⟩ := S.oob h
  exact ⟨hF, n0, ⟨gs, hH⟩, w1, w2, w3⟩
theorem Lent.none {C : Addr} (L : Lent l0 F H p C) {a : Addr} (h : Isp p a) : F a = none := by
  rcases h with e | e <;> subst e
  · exact L.f1
  · exact L.f2
theorem Lent.same {C : Addr} (L : Lent l0 F H p C) : Same F (lndF F H p) := fun a o e => by
  by_cases q : Isp p a
  · rw [L.none q] at e
    cases e
  · rw [lndF_not q]
    exact e
theorem Lent.base {C : Addr} (L : Lent l0 F H p C) (b : Base l0 F H) : Base l0 (lndF F H p) H := by
  refine ⟨fun a o e => ?_, ?_, b.dr⟩
  · by_cases q : Isp p a
    · rwa [lndF_own q] at e
    · rw [lndF_not q] at e
      exact b.sub a o e
  · rw [lndF_not fun q => ?_]
    · exact b.nf
    · rcases q with e | e
      · exact L.n1 e.symm
      · exact L.n2 e.symm
theorem Lent.go {C : Addr} (L : Lent l0 F H p C) (g : Go l0 (lndF F H p) H F' H') : Go l0 F H (lndB F' p) H' := by
  refine ⟨⟨fun a o e => ?_, ?_, g.bs.dr⟩, fun a o e => ?_, fun a h1 h2 => ?_, g.keep⟩
  · by_cases q : Isp p a
    · rw [lndB_own q] at e
      cases e
    · rw [lndB_not q] at e
      exact g.bs.sub a o e
  · by_cases q : Isp p l0
    · exact lndB_own q
    · rw [lndB_not q]
      exact g.bs.nf
  · have q : ¬ Isp p a := fun q => by
      rw [L.none q] at e
      cases e
    rw [lndB_not q]
    exact g.ex a o (by rw [lndF_not q]; exact e)
  · have q : ¬ Isp p a := fun q => h2 (lndB_own q)
    rw [lndB_not q] at h2
    exact g.new a (by rw [lndF_not q]; exact h1) h2
theorem Lent.at_ {C : Addr} (L : Lent l0 F H p C) (g : Go l0 (lndF F H p) H F' H') {a : Addr} {o : HO} (h : F' a = some o) (n1 : ∀ dx gs, o ≠ .ins C dx gs) (n2 : ∀ x, o ≠ .own x) : lndB F' p a = some o := by
  have q : ¬ Isp p a := fun q => by
    have e : ∀ u, H a = some u → o = u := fun u hu => by
      have := g.ex a u (by rw [lndF_own q]; exact hu)
      rw [h] at this
      exact Option.some.inj this
    rcases q with z | z
    · subst z
      obtain ⟨gs, hh⟩ := L.h1
      exact n1 _ _ (e _ hh)
    · subst z
      exact n2 _ (e _ L.h2)
  rw [lndB_not q]
  exact h
mutual
theorem Lent.den {C : Addr} (L : Lent l0 F H p C) (g : Go l0 (lndF F H p) H F' H') : ∀ {v : V} {d : Dt}, Den K l0 F' v d → CleanI C d → Den K l0 (lndB F' p) v d
  | _, _, .v x, _ => .v x
  | _, _, .tup h r, c => by
    refine .tup ?_ (Lent.dens L g r c.tup_inv)
    rcases h with (h | ⟨o, h⟩) | h
    · exact .inl (.inl (L.at_ g h (fun _ _ z => nomatch z) fun _ z => nomatch z))
    · exact .inl (.inr ⟨o, L.at_ g h (fun _ _ z => nomatch z) fun _ z => nomatch z⟩)
    · exact .inr h
  | _, _, .slt h h2 ne r, c => .slt (L.at_ g h (fun _ _ z => nomatch z) fun _ z => nomatch z) (L.at_ g h2 (fun _ _ z => nomatch z) fun _ z => nomatch z) ne (Lent.den L g r c.slt_inv)
  | _, _, .lst h r, c => by
    refine .lst ?_ (Lent.dens L g r c.lst_inv)
    rcases h with h | h
    · exact .inl (L.at_ g h (fun _ _ z => nomatch z) fun _ z => nomatch z)
    · exact .inr h
  | _, _, .obj h r, c => .obj (L.at_ g h (fun _ _ z => by cases z; exact c.obj_inv.1 rfl) fun _ z => nomatch z) (Lent.denF L g r c.obj_inv.2)
  | _, _, .exc h r, c => nomatch c
  | _, _, .exc0, c => nomatch c
  | _, _, .dct h r, c => .dct (L.at_ g h (fun _ _ z => nomatch z) fun _ z => nomatch z) (Lent.denK L g r c.dct_inv)
  | _, _, .dcn h r, c => nomatch c
  | _, _, .brw h r, c => nomatch c
  | _, _, .xv h h2 r, c => nomatch c
  | _, _, .xv0 h, c => nomatch c
  | _, _, .drw, c => nomatch c
theorem Lent.dens {C : Addr} (L : Lent l0 F H p C) (g : Go l0 (lndF F H p) H F' H') : ∀ {vs : List V} {ds : List Dt}, Dens K l0 F' vs ds → (∀ d ∈ ds, CleanI C d) → Dens K l0 (lndB F' p) vs ds
  | _, _, .nil, _ => .nil
  | _, _, .cons h t, c => .cons (Lent.den L g h (c _ List.mem_cons_self)) (Lent.dens L g t fun d m => c d (List.mem_cons_of_mem _ m))
theorem Lent.denF {C : Addr} (L : Lent l0 F H p C) (g : Go l0 (lndF F H p) H F' H') : ∀ {gs : List (Str × V)} {fs : List (Str × Dt)}, DenF K l0 F' gs fs → (∀ f ∈ fs, CleanI C f.2) → DenF K l0 (lndB F' p) gs fs
  | _, _, .nil, _ => .nil
  | _, _, .cons h t, c => .cons (Lent.den L g h (c _ List.mem_cons_self)) (Lent.denF L g t fun d m => c d (List.mem_cons_of_mem _ m))
theorem Lent.denK {C : Addr} (L : Lent l0 F H p C) (g : Go l0 (lndF F H p) H F' H') : ∀ {gs : List (Key × V)} {fs : List (Key × Dt)}, DenK K l0 F' gs fs → (∀ f ∈ fs, CleanI C f.2) → DenK K l0 (lndB F' p) gs fs
  | _, _, .nil, _ => .nil
  | _, _, .cons h t, c => .cons (Lent.den L g h (c _ List.mem_cons_self)) (Lent.denK L g t fun d m => c d (List.mem_cons_of_mem _ m))
end
def CleanXI (C0 : Addr) (x : Xn) : Prop := ∀ f ∈ x.fs, CleanI C0 f.2
theorem Lent.x {C : Addr} (L : Lent l0 F H p C) (g : Go l0 (lndF F H p) H F' H') {cls : Value} {d : Option Addr} {x : Xn} (h : XDen K l0 F' H' cls d x) (c : CleanXI C x) : XDen K l0 (lndB F' p) H' cls d x := by
  obtain ⟨e, h | ⟨dd, gs, e2, h2, r⟩⟩ := h
  · exact ⟨e, .inl h⟩
  · exact ⟨e, .inr ⟨dd, gs, e2, L.at_ g h2 (fun _ _ z => nomatch z) (fun _ z => nomatch z), L.denF g r c⟩⟩
end
end DW

set_option Elab.async false
set_option linter.all false
set_option maxRecDepth 100000
namespace DW
open PySem PySem.Spec PyProof.Rows L2 StX SlX
def NeL (ds ds0 : List Dt) : Prop := ds.length ≠ ds0.length ∨ ∃ n t, ds.head? = some (.v (.int n)) ∧ ds0.head? = some (.tup t)
inductive CleanL (ds0 : List Dt) : Dt → Prop
  | v (x : V) : CleanL ds0 (.v x)
  | tup {ds : List Dt} (h : ∀ d ∈ ds, CleanL ds0 d) : CleanL ds0 (.tup ds)
  | lst {ds : List Dt} (n : NeL ds ds0) (h : ∀ d ∈ ds, CleanL ds0 d) : CleanL ds0 (.lst ds)
  | slt {C : Addr} {d : Dt} (h : CleanL ds0 d) : CleanL ds0 (.slt C d)
  | obj {C : Addr} {gs : List (Str × Dt)} (h : ∀ f ∈ gs, CleanL ds0 f.2) : CleanL ds0 (.obj C gs)
  | dct {kvs : List (Key × Dt)} (h : ∀ f ∈ kvs, CleanL ds0 f.2) : CleanL ds0 (.dct kvs)
theorem CleanL.obj_inv {C0 : List Dt} {C : Addr} {gs : List (Str × Dt)} : CleanL C0 (.obj C gs) → ∀ f ∈ gs, CleanL C0 f.2
  | .obj h => h
theorem CleanL.tup_inv {C0 : List Dt} {gs : List Dt} : CleanL C0 (.tup gs) → ∀ f ∈ gs, CleanL C0 f
  | .tup h => h
theorem CleanL.lst_inv {C0 : List Dt} {gs : List Dt} : CleanL C0 (.lst gs) → NeL gs C0 ∧ ∀ f ∈ gs, CleanL C0 f
  | .lst n h => ⟨n, h⟩
theorem CleanL.slt_inv {C0 : List Dt} {C : Addr} {d : Dt} : CleanL C0 (.slt C d) → CleanL C0 d
  | .slt h => h
theorem CleanL.dct_inv {C0 : List Dt} {gs : List (Key × Dt)} : CleanL C0 (.dct gs) → ∀ f ∈ gs, CleanL C0 f.2
  | .dct h => h
section
variable {K : PySem.W.Frag} {l0 : Addr} {F H F' H' : Hp} {σ : L2.St} {ρ : En} {l : Addr}
structure LentL (K : PySem.W.Frag) (l0 : Addr) (F H : Hp) (l : Addr) (ds : List Dt) : Prop where
  f1 : F l = none
  n1 : l ≠ l0
  h1 : ∃ xs, H l = some (.lst xs) ∧ Dens K l0 F xs ds
theorem isp2 {a : Addr} (h : Isp (l, l) a) : a = l := h.elim id id
theorem LentL.none {ds : List Dt} (L : LentL K l0 F H l ds) {a : Addr} (h : Isp (l, l) a) : F a = none := by
  rw [isp2 h]
  exact L.f1
theorem LentL.same {ds : List Dt} (L : LentL K l0 F H l ds) : Same F (lndF F H (l, l)) := fun a o e => by
  by_cases q : Isp (l, l) a
  · rw [L.none q] at e
    cases e
  · rw [lndF_not q]
    exact e
theorem LentL.base {ds : List Dt} (L : LentL K l0 F H l ds) (b : Base l0 F H) : Base l0 (lndF F H (l, l)) H := by
  refine ⟨fun a o e => ?_, ?_, b.dr⟩
  · by_cases q : Isp (l, l) a
    · rwa [lndF_own q] at e
    · rw [lndF_not q] at e
      exact b.sub a o e
  · rw [lndF_not fun q => L.n1 (isp2 q).symm]
    exact b.nf
theorem LentL.go {ds : List Dt} (L : LentL K l0 F H l ds) (g : Go l0 (lndF F H (l, l)) H F' H') : Go l0 F H (lndB F' (l, l)) H' := by
  refine ⟨⟨fun a o e => ?_, ?_, g.bs.dr⟩, fun a o e => ?_, fun a h1 h2 => ?_, g.keep⟩
  · by_cases q : Isp (l, l) a
    · rw [lndB_own q] at e
      cases e
    · rw [lndB_not q] at e
      exact g.bs.sub a o e
  · by_cases q : Isp (l, l) l0
    · exact lndB_own q
    · rw [lndB_not q]
      exact g.bs.nf
  · have q : ¬ Isp (l, l) a := fun q => by
      rw [L.none q] at e
      cases e
    rw [lndB_not q]
    exact g.ex a o (by rw [lndF_not q]; exact e)
  · have q : ¬ Isp (l, l) a := fun q => h2 (lndB_own q)
    rw [lndB_not q] at h2
    exact g.new a (by rw [lndF_not q]; exact h1) h2
theorem LentL.same2 {ds : List Dt} (L : LentL K l0 F H l ds) (g : Go l0 (lndF F H (l, l)) H F' H') : Same F F' := fun a o e => g.ex a o (L.same a o e)
theorem LentL.at_ {ds : List Dt} (L : LentL K l0 F H l ds) (g : Go l0 (lndF F H (l, l)) H F' H') {a : Addr} {o : HO} (h : F' a = some o) (n : ∀ xs, Dens K l0 F' xs ds → o ≠ .lst xs) : lndB F' (l, l) a = some o := by
  have q : ¬ Isp (l, l) a := fun q => by
    obtain rfl := isp2 q
    obtain ⟨xs, hh, r⟩ := L.h1
    have := g.ex a _ (by rw [lndF_own q]; exact hh)
    rw [h] at this
    exact n xs (Dens.mono (L.same2 g) r) (Option.some.inj this)
  rw [lndB_not q]
  exact h
theorem dens_len {K : PySem.W.Frag} {l0 : Addr} {F : Hp} : ∀ {xs : List V} {ds : List Dt}, Dens K l0 F xs ds → xs.length = ds.length
  | _, _, .nil => rfl
  | _, _, .cons _ t => congrArg (· + 1) (dens_len t)
theorem ne_lst {K : PySem.W.Frag} {l0 : Addr} {F : Hp} {xs : List V} {ds ds0 : List Dt} (n : NeL ds ds0) (h : Dens K l0 F xs ds) (h0 : Dens K l0 F xs ds0) : False := by
  rcases n with n | ⟨m, t, e1, e2⟩
  · exact n ((dens_len h).symm.trans (dens_len h0))
  · cases h with
    | nil => cases e1
    | cons a b =>
      cases Option.some.inj e1
      cases a
      cases h0 with
      | cons a0 b0 =>
        cases Option.some.inj e2
        cases a0
mutual
theorem LentL.den {ds0 : List Dt} (L : LentL K l0 F H l ds0) (g : Go l0 (lndF F H (l, l)) H F' H') : ∀ {v : V} {d : Dt}, Den K l0 F' v d → CleanL ds0 d → Den K l0 (lndB F' (l, l)) v d
  | _, _, .v x, _ => .v x
  | _, _, .tup h r, c => by
    refine .tup ?_ (LentL.dens L g r c.tup_inv)
    rcases h with (h | ⟨o, h⟩) | h
    · exact .inl (.inl (L.at_ g h fun _ _ z => nomatch z))
    · exact .inl (.inr ⟨o, L.at_ g h fun _ _ z => nomatch z⟩)
    · exact .inr h
  | _, _, .slt h h2 ne r, c => .slt (L.at_ g h fun _ _ z => nomatch z) (L.at_ g h2 fun _ _ z => nomatch z) ne (LentL.den L g r c.slt_inv)
  | _, _, .lst h r, c => by
    refine .lst ?_ (LentL.dens L g r c.lst_inv.2)
    rcases h with h | h
    · exact .inl (L.at_ g h fun xs r0 z => by cases z; exact ne_lst c.lst_inv.1 r r0)
    · exact .inr h
  | _, _, .obj h r, c => .obj (L.at_ g h fun _ _ z => nomatch z) (LentL.denF L g r c.obj_inv)
  | _, _, .exc h r, c => nomatch c
  | _, _, .exc0, c => nomatch c
  | _, _, .dct h r, c => .dct (L.at_ g h fun _ _ z => nomatch z) (LentL.denK L g r c.dct_inv)
  | _, _, .dcn h r, c => nomatch c
  | _, _, .brw h r, c => nomatch c
  | _, _, .xv h h2 r, c => nomatch c
  | _, _, .xv0 h, c => nomatch c
  | _, _, .drw, c => nomatch c
theorem LentL.dens {ds0 : List Dt} (L : LentL K l0 F H l ds0) (g : Go l0 (lndF F H (l, l)) H F' H') : ∀ {vs : List V} {ds : List Dt}, Dens K l0 F' vs ds → (∀ d ∈ ds, CleanL ds0 d) → Dens K l0 (lndB F' (l, l)) vs ds
  | _, _, .nil, _ => .nil
  | _, _, .cons h t, c => .cons (LentL.den L g h (c _ List.mem_cons_self)) (LentL.dens L g t fun d m => c d (List.mem_cons_of_mem _ m))
theorem LentL.denF {ds0 : List Dt} (L : LentL K l0 F H l ds0) (g : Go l0 (lndF F H (l, l)) H F' H') : ∀ {gs : List (Str × V)} {fs : List (Str × Dt)}, DenF K l0 F' gs fs → (∀ f ∈ fs, CleanL ds0 f.2) → DenF K l0 (lndB F' (l, l)) gs fs
  | _, _, .nil, _ => .nil
  | _, _, .cons h t, c => .cons (LentL.den L g h (c _ List.mem_cons_self)) (LentL.denF L g t fun f m => c f (List.mem_cons_of_mem _ m))
theorem LentL.denK {ds0 : List Dt} (L : LentL K l0 F H l ds0) (g : Go l0 (lndF F H (l, l)) H F' H') : ∀ {gs : List (Key × V)} {fs : List (Key × Dt)}, DenK K l0 F' gs fs → (∀ f ∈ fs, CleanL ds0 f.2) → DenK K l0 (lndB F' (l, l)) gs fs
  | _, _, .nil, _ => .nil
  | _, _, .cons h t, c => .cons (LentL.den L g h (c _ List.mem_cons_self)) (LentL.denK L g t fun f m => c f (List.mem_cons_of_mem _ m))
end
def CleanXL (ds0 : List Dt) (x : Xn) : Prop := ∀ f ∈ x.fs, CleanL ds0 f.2
theorem LentL.x {ds0 : List Dt} (L : LentL K l0 F H l ds0) (g : Go l0 (lndF F H (l, l)) H F' H') {cls : Value} {d : Option Addr} {x : Xn} (h : XDen K l0 F' H' cls d x) (c : CleanXL ds0 x) : XDen K l0 (lndB F' (l, l)) H' cls d x := by
  obtain ⟨e, h | ⟨dd, gs, e2, h2, r⟩⟩ := h
  · exact ⟨e, .inl h⟩
  · exact ⟨e, .inr ⟨dd, gs, e2, L.at_ g h2 (fun _ _ z => nomatch z), L.denF g r c⟩⟩
end
end DW

set_option Elab.async false
set_option linter.all false
set_option maxRecDepth 100000
namespace DW
open PySem PySem.Spec PyProof.Rows L2 StX SlX ClX
end DW

set_option Elab.async false
set_option linter.all false
set_option maxRecDepth 100000
namespace DW
open PySem PySem.Spec PyProof.Rows L2 StX SlX ClX
end DW

set_option Elab.async false
set_option linter.all false
set_option maxRecDepth 100000
namespace DW
open PySem PySem.Spec PyProof.Rows L2 StX SlX ClX
def NkV (X : Cx) (H : Hp) (k : NestedKey) (y : V) : Prop := ∀ pins σ s u, Inv X pins σ H s → RelV y u → NestedIs s.heap k u
section
variable {X : Cx} {l0 : Addr} {F H : Hp}
theorem nk_v {s : Shared} {x : V} {k : NestedKey} {u : Value} (e : nkOf (.v x) = some k) (r : RelV x u) : NestedIs s.heap k u := by
  cases x with
  | bl b =>
    cases e
    obtain rfl : u = Value.bool b := r
    exact .bool rfl
  | int i =>
    cases e
    obtain ⟨t, rfl⟩ : ∃ t, u = Value.int i t := r
    exact .int i t
  | str x =>
    cases e
    obtain ⟨t, rfl⟩ : ∃ t, u = Value.str x t := r
    exact .text x t
  | non => cases e
  | byt b => cases e
  | flt f => cases e
  | ref a => cases e
  | ty t => cases e
mutual
theorem nk_is {pins : List (Addr × Obj)} {σ : L2.St} {s : Shared} (I : Inv X pins σ H s) (sub : Same F H) : ∀ (d : Dt) (y : V) (k : NestedKey) (u : Value), Den X.K l0 F y d → nkOf d = some k → RelV y u → NestedIs s.heap k u
  | .v x, y, k, u, h, e, r => by
    cases h
    exact nk_v e r
  | .tup ds, y, k, u, h, e, q => by
    cases h with
    | tup h r =>
      rename_i a xs
      obtain rfl : u = Value.ref a := q
      obtain ⟨ks, e1, e2⟩ := Option.map_eq_some_iff.mp (show (nkOfs ds).map NestedKey.tup = some k from e)
      subst e2
      obtain ⟨its, rv, ⟨o, ho, hc, n, hd⟩, hz⟩ := I.tuple (sameT sub h)
      exact .tup ho hc hd (by simpa using nk_all I sub ds xs ks its r e1 rv)
  | .lst _, _, _, _, _, e, _ => by cases e
  | .obj _ _, _, _, _, _, e, _ => by cases e
  | .slt _ _, _, _, _, _, e, _ => by cases e
  | .exc _ _ _ _, _, _, _, _, e, _ => by cases e
  | .dct _, _, _, _, _, e, _ => by cases e
  | .dcn _ _, _, _, _, _, e, _ => by cases e
  | .drw, _, _, _, _, e, _ => by cases e
theorem nk_all {pins : List (Addr × Obj)} {σ : L2.St} {s : Shared} (I : Inv X pins σ H s) (sub : Same F H) : ∀ (ds : List Dt) (ys : List V) (ks : List NestedKey) (us : List Value), Dens X.K l0 F ys ds → nkOfs ds = some ks → Vals ys us → NestedAll s.heap ks us
  | [], ys, ks, us, h, e, r => by
    cases h
    cases r
    cases e
    exact .nil
  | d :: ds, ys, ks, us, h, e, r => by
    cases h with
    | cons h t =>
      rename_i y ys
      cases r with
      | cons r rs =>
        rename_i u us
        have e : (match nkOf d, nkOfs ds with | some k, some ks => some (k :: ks) | _, _ => none) = some ks := e
        split at e
        · rename_i k1 ks1 e1 e2
          cases e
          exact .cons (nk_is I sub d y k1 u h e1 r) (nk_all I sub ds ys ks1 us t e2 rs)
        · cases e
end
theorem NkV.of {d : Dt} {y : V} {k : NestedKey} (b : Base l0 F H) (h : Den X.K l0 F y d) (e : nkOf d = some k) : NkV X H k y := fun pins σ s u I r => nk_is I b.sub d y k u h e r
end
def nkAt (es : List NEnt) (k : NestedKey) : Option NEnt := es.find? fun e => decide (e.key = k)
def nkPut (es : List NEnt) (k : NestedKey) (ka va : Addr) : List NEnt := if (nkAt es k).isSome then es.map (fun e => if e.key = k then { e with va := va } else e) else es ++ [⟨k, ka, va⟩]
end DW

set_option Elab.async false
set_option linter.all false
set_option maxRecDepth 100000
namespace DW
open PySem PySem.Spec PyProof.Rows L2 StX SlX ClX
def atNk {α : Type} : List (Dt × α) → NestedKey → Option α
  | [], _ => none
  | (d, x) :: r, k => if nkOf d = some k then some x else atNk r k
def repNk {α : Type} (k : NestedKey) (x : α) : List (Dt × α) → List (Dt × α)
  | [] => []
  | (d, y) :: r => if nkOf d = some k then (d, x) :: repNk k x r else (d, y) :: repNk k x r
def putNk {α : Type} (kvs : List (Dt × α)) (kd : Dt) (k : NestedKey) (x : α) : List (Dt × α) := if (atNk kvs k).isSome then repNk k x kvs else kvs ++ [(kd, x)]
theorem nkAt_cons (e : NEnt) (es : List NEnt) (k : NestedKey) : nkAt (e :: es) k = if e.key = k then some e else nkAt es k := by
  unfold nkAt
  rw [List.find?_cons]
  by_cases q : e.key = k
  · rw [decide_eq_true q, if_pos q]
  · rw [decide_eq_false q, if_neg q]
section
variable {K : PySem.W.Frag} {l0 : Addr} {F H : Hp}
theorem DenN.at (k : NestedKey) : ∀ {es : List NEnt} {kvs : List (Dt × Dt)}, DenN K l0 F es kvs → (nkAt es k).isSome = (atNk kvs k).isSome ∧ ∀ d, atNk kvs k = some d → ∃ e, nkAt es k = some e ∧ Den K l0 F (.ref e.va) d
  | _, _, .nil => ⟨rfl, fun d h => nomatch h⟩
  | _, _, .cons (e := e) hk hd h t => by
    obtain ⟨z1, z2⟩ := DenN.at k t
    rw [nkAt_cons]
    unfold atNk
    rw [hk]
    by_cases q : e.key = k
    · rw [if_pos q, if_pos (congrArg some q)]
      exact ⟨rfl, fun d e1 => by cases e1; exact ⟨e, rfl, h⟩⟩
    · rw [if_neg q, if_neg (fun z => q (Option.some.inj z))]
      exact ⟨z1, z2⟩
theorem TreVk.at (k : NestedKey) : ∀ {es : List NEnt} {kvs : List (Dt × OT)}, TreVk K l0 F H es kvs → (nkAt es k).isSome = (atNk kvs k).isSome ∧ ∀ d, atNk kvs k = some d → ∃ e, nkAt es k = some e ∧ TreV K l0 F H (.ref e.va) d
  | _, _, .nil => ⟨rfl, fun d h => nomatch h⟩
  | _, _, .cons (e := e) hk hd h t => by
    obtain ⟨z1, z2⟩ := TreVk.at k t
    rw [nkAt_cons]
    unfold atNk
    rw [hk]
    by_cases q : e.key = k
    · rw [if_pos q, if_pos (congrArg some q)]
      exact ⟨rfl, fun d e1 => by cases e1; exact ⟨e, rfl, h⟩⟩
    · rw [if_neg q, if_neg (fun z => q (Option.some.inj z))]
      exact ⟨z1, z2⟩
theorem DenN.keys {X : Cx} (b : Base l0 F H) : ∀ {es : List NEnt} {kvs : List (Dt × Dt)}, DenN X.K l0 F es kvs → ∀ e ∈ es, NkV X H e.key (.ref e.ka)
  | _, _, .nil, _, m => nomatch m
  | _, _, .cons hk hd h t, e, m => (List.mem_cons.mp m).elim (fun q => by subst q; exact NkV.of b hd hk) (DenN.keys b t e)
theorem TreVk.keys {X : Cx} (b : Base l0 F H) : ∀ {es : List NEnt} {kvs : List (Dt × OT)}, TreVk X.K l0 F H es kvs → ∀ e ∈ es, NkV X H e.key (.ref e.ka)
  | _, _, .nil, _, m => nomatch m
  | _, _, .cons hk hd h t, e, m => (List.mem_cons.mp m).elim (fun q => by subst q; exact NkV.of b hd hk) (TreVk.keys b t e)
theorem TreVk.length : ∀ {es : List NEnt} {kvs : List (Dt × OT)}, TreVk K l0 F H es kvs → es.length = kvs.length
  | _, _, .nil => rfl
  | _, _, .cons _ _ _ t => congrArg (· + 1) (TreVk.length t)
theorem TreVk.snoc {e : NEnt} {d : Dt} {t : OT} (hk : nkOf d = some e.key) (hd : Den K l0 F (.ref e.ka) d) (h : TreV K l0 F H (.ref e.va) t) : ∀ {es : List NEnt} {kvs : List (Dt × OT)}, TreVk K l0 F H es kvs → TreVk K l0 F H (es ++ [e]) (kvs ++ [(d, t)])
  | _, _, .nil => .cons hk hd h .nil
  | _, _, .cons a b c r => .cons a b c (TreVk.snoc hk hd h r)
theorem TreVk.rep {k : NestedKey} {va : Addr} {t : OT} (h : TreV K l0 F H (.ref va) t) : ∀ {es : List NEnt} {kvs : List (Dt × OT)}, TreVk K l0 F H es kvs → TreVk K l0 F H (es.map fun e => if e.key = k then { e with va := va } else e) (repNk k t kvs)
  | _, _, .nil => .nil
  | _, _, .cons (e := e) hk hd c r => by
    unfold repNk
    rw [List.map_cons, hk]
    by_cases q : e.key = k
    · rw [if_pos q, if_pos (congrArg some q)]
      exact .cons (e := { e with va := va }) hk hd h (TreVk.rep h r)
    · rw [if_neg q, if_neg (fun z => q (Option.some.inj z))]
      exact .cons hk hd c (TreVk.rep h r)
theorem TreVk.put {k : NestedKey} {kd : Dt} {ka va : Addr} {t : OT} (hk : nkOf kd = some k) (hd : Den K l0 F (.ref ka) kd) (h : TreV K l0 F H (.ref va) t) {es : List NEnt} {kvs : List (Dt × OT)} (r : TreVk K l0 F H es kvs) : TreVk K l0 F H (nkPut es k ka va) (putNk kvs kd k t) := by
  unfold nkPut putNk
  rw [(r.at k).1]
  by_cases q : (atNk kvs k).isSome = true
  · rw [if_pos q, if_pos q]
    exact r.rep h
  · rw [if_neg q, if_neg q]
    exact r.snoc (e := ⟨k, ka, va⟩) hk hd h
theorem TreVf.look {f : Str} : ∀ {gs : List (Str × V)} {fs : List (Str × OT)} {t : OT}, TreVf K l0 F H gs fs → fs.lookup f = some t → ∃ v, gs.lookup f = some v ∧ TreV K l0 F H v t
  | _, _, _, .nil, e => nomatch e
  | _, _, t, .cons (f := g) h r, e => by
    rw [List.lookup_cons] at e ⊢
    cases q : f == g with
    | true =>
      rw [q] at e
      cases e
      exact ⟨_, rfl, h⟩
    | false =>
      rw [q] at e
      exact TreVf.look r e
theorem TreVf.none {f : Str} : ∀ {gs : List (Str × V)} {fs : List (Str × OT)}, TreVf K l0 F H gs fs → fs.lookup f = none → gs.lookup f = none
  | _, _, .nil, _ => rfl
  | _, _, .cons (f := g) h r, e => by
    rw [List.lookup_cons] at e ⊢
    cases q : f == g with
    | true =>
      rw [q] at e
      cases e
    | false =>
      rw [q] at e
      exact TreVf.none r e
theorem TreVf.split {f : Str} {t : OT} {fs2 : List (Str × OT)} : ∀ {fs1 : List (Str × OT)} {gs : List (Str × V)}, TreVf K l0 F H gs (fs1 ++ (f, t) :: fs2) → ∃ g1 v g2, gs = g1 ++ (f, v) :: g2 ∧ TreVf K l0 F H g1 fs1 ∧ TreV K l0 F H v t ∧ TreVf K l0 F H g2 fs2
  | [], _, .cons h r => ⟨[], _, _, rfl, .nil, h, r⟩
  | _ :: _, _, .cons h r => by
    obtain ⟨g1, v, g2, e, a, b, c⟩ := TreVf.split r
    subst e
    exact ⟨_ :: g1, v, g2, rfl, .cons h a, b, c⟩
theorem TreVf.app {fs2 : List (Str × OT)} {g2 : List (Str × V)} (b : TreVf K l0 F H g2 fs2) : ∀ {fs1 : List (Str × OT)} {g1 : List (Str × V)}, TreVf K l0 F H g1 fs1 → TreVf K l0 F H (g1 ++ g2) (fs1 ++ fs2)
  | _, _, .nil => b
  | _, _, .cons h r => .cons h (TreVf.app b r)
theorem TreVk.split {d : Dt} {t : OT} {k2 : List (Dt × OT)} : ∀ {k1 : List (Dt × OT)} {es : List NEnt}, TreVk K l0 F H es (k1 ++ (d, t) :: k2) → ∃ e1 e e2, es = e1 ++ e :: e2 ∧ TreVk K l0 F H e1 k1 ∧ nkOf d = some e.key ∧ Den K l0 F (.ref e.ka) d ∧ TreV K l0 F H (.ref e.va) t ∧ TreVk K l0 F H e2 k2
  | [], _, .cons hk hd h r => ⟨[], _, _, rfl, .nil, hk, hd, h, r⟩
  | _ :: _, _, .cons hk hd h r => by
    obtain ⟨g1, v, g2, e, a, b⟩ := TreVk.split r
    subst e
    exact ⟨_ :: g1, v, g2, rfl, .cons hk hd h a, b⟩
theorem TreVk.app {k2 : List (Dt × OT)} {e2 : List NEnt} (b : TreVk K l0 F H e2 k2) : ∀ {k1 : List (Dt × OT)} {e1 : List NEnt}, TreVk K l0 F H e1 k1 → TreVk K l0 F H (e1 ++ e2) (k1 ++ k2)
  | _, _, .nil => b
  | _, _, .cons hk hd h r => .cons hk hd h (TreVk.app b r)
end
theorem adsF_app (a b : List (Str × OT)) : adsF (a ++ b) = adsF a ++ adsF b := by
  induction a with
  | nil => rfl
  | cons x r ih =>
    obtain ⟨f, t⟩ := x
    show t.ads ++ adsF (r ++ b) = (t.ads ++ adsF r) ++ adsF b
    rw [ih, List.append_assoc]
theorem adsK_app (a b : List (Dt × OT)) : adsK (a ++ b) = adsK a ++ adsK b := by
  induction a with
  | nil => rfl
  | cons x r ih =>
    obtain ⟨f, t⟩ := x
    show t.ads ++ adsK (r ++ b) = (t.ads ++ adsK r) ++ adsK b
    rw [ih, List.append_assoc]
theorem adsL_app (a b : List OT) : adsL (a ++ b) = adsL a ++ adsL b := by
  induction a with
  | nil => rfl
  | cons x r ih =>
    show x.ads ++ adsL (r ++ b) = (x.ads ++ adsL r) ++ adsL b
    rw [ih, List.append_assoc]
inductive Ctx : (OT → OT) → Prop
  | hole : Ctx fun t => t
  | ins {c : OT → OT} (h : Ctx c) (a dx C : Addr) (fs1 : List (Str × OT)) (f : Str) (fs2 : List (Str × OT)) : Ctx fun t => .ins a dx C (fs1 ++ (f, c t) :: fs2)
  | dct {c : OT → OT} (h : Ctx c) (a : Addr) (w : World) (k1 : List (Dt × OT)) (d : Dt) (k2 : List (Dt × OT)) : Ctx fun t => .dct a w (k1 ++ (d, c t) :: k2)
section
variable {K : PySem.W.Frag} {l0 : Addr} {F H F' H' : Hp}
structure Part (K : PySem.W.Frag) (l0 : Addr) (F H : Hp) (v u : V) (c : OT → OT) (n : OT) : Prop where
  at_ : TreV K l0 F H u n
  nd : n.ads.Nodup
  sub : ∀ b ∈ n.ads, b ∈ (c n).ads
  put : ∀ (n' : OT) (F' H' : Hp), Same F F' → (∀ b ∈ (c n).ads, b ∉ n.ads → F' b = none) → (∀ b ∈ (c n).ads, b ∉ n.ads → ∀ o, H b = some o → H' b = some o) → TreV K l0 F' H' u n' → n'.ads.Nodup → (∀ b ∈ n'.ads, b ∈ n.ads ∨ b ∉ (c n).ads) → TreV K l0 F' H' v (c n') ∧ (c n').ads.Nodup ∧ ∀ b ∈ (c n').ads, b ∈ (c n).ads ∨ b ∈ n'.ads
theorem nodup_mid {α : Type} {l m r m' : List α} (h : (l ++ (m ++ r)).Nodup) (h' : m'.Nodup) (q : ∀ b ∈ m', b ∈ m ∨ b ∉ l ++ (m ++ r)) : (l ++ (m' ++ r)).Nodup := by
  rw [List.nodup_append] at h ⊢
  obtain ⟨h1, h2, h3⟩ := h
  rw [List.nodup_append] at h2 ⊢
  obtain ⟨h4, h5, h6⟩ := h2
  refine ⟨h1, ⟨h', h5, fun x mx y my e => ?_⟩, fun x mx y my e => ?_⟩
  · subst e
    rcases q x mx with z | z
    · exact h6 x z x my rfl
    · exact z (List.mem_append_right _ (List.mem_append_right _ my))
  · subst e
    rcases List.mem_append.mp my with my | my
    · rcases q x my with z | z
      · exact h3 x mx x (List.mem_append_left _ z) rfl
      · exact z (List.mem_append_left _ mx)
    · exact h3 x mx x (List.mem_append_right _ my) rfl
theorem Ctx.part {c : OT → OT} (h : Ctx c) : ∀ {v : V} {n : OT}, TreV K l0 F H v (c n) → (c n).ads.Nodup → ∃ u, Part K l0 F H v u c n := by
  induction h with
  | hole => exact fun {v n} t nd => ⟨v, t, nd, fun b m => m, fun n' F' H' e q1 q2 t' nd' q => ⟨t', nd', fun b m => .inr m⟩⟩
  | @ins c h a dx C fs1 f fs2 ih =>
    intro v n t nd
    cases t with
    | ins h1 h2 h3 k1 k2 k3 r =>
      obtain ⟨g1, v1, g2, e, r1, rt, r2⟩ := r.split
      subst e
      have ea : ∀ m, (OT.ins a dx C (fs1 ++ (f, c m) :: fs2)).ads = (a :: dx :: adsF fs1) ++ ((c m).ads ++ adsF fs2) := fun m => by
        show a :: dx :: adsF (fs1 ++ (f, c m) :: fs2) = _
        rw [adsF_app]
        rfl
      rw [ea] at nd
      have nd2 := nd
      rw [List.nodup_append] at nd2
      have nd3 := nd2.2.1
      rw [List.nodup_append] at nd3
      obtain ⟨u, p⟩ := ih rt nd3.1
      have out : ∀ b, b ∈ (a :: dx :: adsF fs1) ∨ b ∈ adsF fs2 → b ∈ (OT.ins a dx C (fs1 ++ (f, c n) :: fs2)).ads ∧ b ∉ (c n).ads := fun b m => by
        rw [ea]
        rcases m with m | m
        · exact ⟨List.mem_append_left _ m, fun z => nd2.2.2 b m b (List.mem_append_left _ z) rfl⟩
        · exact ⟨List.mem_append_right _ (List.mem_append_right _ m), fun z => nd3.2.2 b z b m rfl⟩
      refine ⟨u, p.at_, p.nd, fun b m => by rw [ea]; exact List.mem_append_right _ (List.mem_append_left _ (p.sub b m)), fun n' F' H' e q1 q2 t' nd' q => ?_⟩
      have inn : ∀ b ∈ (c n).ads, b ∈ (OT.ins a dx C (fs1 ++ (f, c n) :: fs2)).ads := fun b m => by rw [ea]; exact List.mem_append_right _ (List.mem_append_left _ m)
      have far : ∀ b, b ∈ (a :: dx :: adsF fs1) ∨ b ∈ adsF fs2 → F' b = none ∧ ∀ o, H b = some o → H' b = some o := fun b m => by
        obtain ⟨z1, z2⟩ := out b m
        exact ⟨q1 b z1 fun z => z2 (p.sub b z), q2 b z1 fun z => z2 (p.sub b z)⟩
      obtain ⟨p1, p2, p3⟩ := p.put n' F' H' e (fun b m => q1 b (inn b m)) (fun b m => q2 b (inn b m)) t' nd' fun b m => (q b m).imp id fun z y => z (inn b y)
      refine ⟨.ins (far a (.inl List.mem_cons_self)).1 h2 ((far a (.inl List.mem_cons_self)).2 _ h3) (far dx (.inl (List.mem_cons_of_mem _ List.mem_cons_self))).1 k2 ((far dx (.inl (List.mem_cons_of_mem _ List.mem_cons_self))).2 _ k3)
        (TreVf.app (.cons p1 (r2.frm e (fun b m => (far b (.inr m)).1) fun b m => (far b (.inr m)).2)) (r1.frm e (fun b m => (far b (.inl (List.mem_cons_of_mem _ (List.mem_cons_of_mem _ m)))).1) fun b m => (far b (.inl (List.mem_cons_of_mem _ (List.mem_cons_of_mem _ m)))).2)), ?_, fun b m => ?_⟩
      · rw [ea]
        refine nodup_mid nd p2 fun b m => ?_
        rcases p3 b m with z | z
        · exact .inl z
        · rcases q b z with y | y
          · exact .inl (p.sub b y)
          · rw [ea] at y
            exact .inr y
      · rw [ea] at m
        rcases List.mem_append.mp m with m | m
        · exact .inl (out b (.inl m)).1
        · rcases List.mem_append.mp m with m | m
          · exact (p3 b m).imp (inn b) id
          · exact .inl (out b (.inr m)).1
  | @dct c h a w k1 d k2 ih =>
    intro v n t nd
    cases t with
    | dct h1 h2 h3 r =>
      obtain ⟨e1, en, e2, e, r1, hk, hd, rt, r2⟩ := r.split
      subst e
      have ea : ∀ m, (OT.dct a w (k1 ++ (d, c m) :: k2)).ads = (a :: adsK k1) ++ ((c m).ads ++ adsK k2) := fun m => by
        show a :: adsK (k1 ++ (d, c m) :: k2) = _
        rw [adsK_app]
        rfl
      rw [ea] at nd
      have nd2 := nd
      rw [List.nodup_append] at nd2
      have nd3 := nd2.2.1
      rw [List.nodup_append] at nd3
      obtain ⟨u, p⟩ := ih rt nd3.1
      have out : ∀ b, b ∈ (a :: adsK k1) ∨ b ∈ adsK k2 → b ∈ (OT.dct a w (k1 ++ (d, c n) :: k2)).ads ∧ b ∉ (c n).ads := fun b m => by
        rw [ea]
        rcases m with m | m
        · exact ⟨List.mem_append_left _ m, fun z => nd2.2.2 b m b (List.mem_append_left _ z) rfl⟩
        · exact ⟨List.mem_append_right _ (List.mem_append_right _ m), fun z => nd3.2.2 b z b m rfl⟩
      refine ⟨u, p.at_, p.nd, fun b m => by rw [ea]; exact List.mem_append_right _ (List.mem_append_left _ (p.sub b m)), fun n' F' H' e q1 q2 t' nd' q => ?_⟩
      have inn : ∀ b ∈ (c n).ads, b ∈ (OT.dct a w (k1 ++ (d, c n) :: k2)).ads := fun b m => by rw [ea]; exact List.mem_append_right _ (List.mem_append_left _ m)
      have far : ∀ b, b ∈ (a :: adsK k1) ∨ b ∈ adsK k2 → F' b = none ∧ ∀ o, H b = some o → H' b = some o := fun b m => by
        obtain ⟨z1, z2⟩ := out b m
        exact ⟨q1 b z1 fun z => z2 (p.sub b z), q2 b z1 fun z => z2 (p.sub b z)⟩
      obtain ⟨p1, p2, p3⟩ := p.put n' F' H' e (fun b m => q1 b (inn b m)) (fun b m => q2 b (inn b m)) t' nd' fun b m => (q b m).imp id fun z y => z (inn b y)
      refine ⟨.dct (far a (.inl List.mem_cons_self)).1 h2 ((far a (.inl List.mem_cons_self)).2 _ h3)
        (TreVk.app (.cons hk (Den.mono e hd) p1 (r2.frm e (fun b m => (far b (.inr m)).1) fun b m => (far b (.inr m)).2)) (r1.frm e (fun b m => (far b (.inl (List.mem_cons_of_mem _ m))).1) fun b m => (far b (.inl (List.mem_cons_of_mem _ m))).2)), ?_, fun b m => ?_⟩
      · rw [ea]
        refine nodup_mid nd p2 fun b m => ?_
        rcases p3 b m with z | z
        · exact .inl z
        · rcases q b z with y | y
          · exact .inl (p.sub b y)
          · rw [ea] at y
            exact .inr y
      · rw [ea] at m
        rcases List.mem_append.mp m with m | m
        · exact .inl (out b (.inl m)).1
        · rcases List.mem_append.mp m with m | m
          · exact (p3 b m).imp (inn b) id
          · exact .inl (out b (.inr m)).1
end
end DW

set_option Elab.async false
set_option linter.all false
set_option maxRecDepth 100000
namespace DW
open PySem PySem.Spec PyProof.Rows L2 StX SlX ClX
section
variable {K : PySem.W.Frag} {l0 : Addr} {F H F' H' : Hp} {σ : L2.St} {ρ : En} {i : Nat} {v u : V} {c : OT → OT} {n n' : OT}
theorem Stt.tre {t : OT} (S : Stt K l0 F H σ ρ) (h : ρ[i]? = some (.tre t)) : ∃ v, σ[i]? = some (some v) ∧ TreV K l0 F H v t ∧ t.ads.Nodup ∧ t.isDat = false := by
  rcases S.sl i _ h with z | ⟨v, h1, h2⟩
  · cases z
  · exact ⟨v, h1, h2⟩
theorem Ctx.isDat (h : Ctx c) (z : n'.isDat = false) : (c n').isDat = false := by
  cases h with
  | hole => exact z
  | ins h => rfl
  | dct h => rfl
theorem TreVs.length : ∀ {vs : List V} {xs : List OT}, TreVs K l0 F H vs xs → vs.length = xs.length
  | _, _, .nil => rfl
  | _, _, .cons _ t => congrArg (· + 1) (TreVs.length t)
end
def putTf (f : Str) (v : OT) : List (Str × OT) → List (Str × OT)
  | [] => [(f, v)]
  | (g, x) :: r => if g = f then (g, v) :: r else (g, x) :: putTf f v r
section
variable {K : PySem.W.Frag} {l0 : Addr} {F H F' H' : Hp} {σ : L2.St} {ρ : En} {i : Nat} {v u : V} {c : OT → OT} {n n' tv : OT}
theorem TreVf.put {f : Str} (r : TreV K l0 F H v tv) : ∀ {gs : List (Str × V)} {fs : List (Str × OT)}, TreVf K l0 F H gs fs → TreVf K l0 F H (putF f v gs) (putTf f tv fs)
  | _, _, .nil => .cons r .nil
  | _, _, .cons (f := g) h t => by
    unfold putF putTf
    by_cases q : g = f
    · rw [if_pos q, if_pos q]
      exact .cons r t
    · rw [if_neg q, if_neg q]
      exact .cons h (TreVf.put r t)
theorem TreVf.length : ∀ {gs : List (Str × V)} {fs : List (Str × OT)}, TreVf K l0 F H gs fs → gs.length = fs.length
  | _, _, .nil => rfl
  | _, _, .cons _ t => congrArg (· + 1) (TreVf.length t)
end
end DW

set_option Elab.async false
set_option linter.all false
set_option maxRecDepth 100000
namespace DW
open PySem PySem.Spec PyProof.Rows L2 StX SlX ClX
def OT.root : OT → Option Addr
  | .dat _ => none
  | .lst a _ => some a
  | .ins a _ _ _ => some a
  | .dct a _ _ => some a
abbrev SdT := OT → List Dt → (Dt → OT → Prop) → (Xn → OT → Prop) → Prop
structure GoT (l0 : Addr) (A : List Addr) (F H F' H' : Hp) : Prop where
  bs : Base l0 F' H'
  ex : Same F F'
  new : ∀ a, F a = none → F' a ≠ none → H a = none ∨ a ∈ A
  keep : ∀ a o, a ≠ l0 → a ∉ A → H a = some o → H' a = some o
def TreO (K : PySem.W.Frag) (l0 : Addr) (F H : Hp) (a : Addr) (t : OT) : Prop := TreV K l0 F H (.ref a) t ∧ t.ads.Nodup ∧ t.root = some a
def spMT (K : PySem.W.Frag) (sd : SdT) : Sp := fun vs H Q E => ∃ a us l0 F t ds Qd Ed, vs = V.ref a :: us ∧ Base l0 F H ∧ TreO K l0 F H a t ∧ Dens K l0 F us ds ∧ sd t ds Qd Ed ∧
  (∀ v d t' F' H', GoT l0 t.ads F H F' H' → TreO K l0 F' H' a t' → (∀ b ∈ t'.ads, b ∈ t.ads ∨ H b = none) → Den K l0 F' v d → Qd d t' → Q v H') ∧
  (∀ cls dct xn t' F' H', GoT l0 t.ads F H F' H' → TreO K l0 F' H' a t' → (∀ b ∈ t'.ads, b ∈ t.ads ∨ H b = none) → XDen K l0 F' H' cls dct xn → Ed xn t' → E cls dct H')
def MuT (P : Program) (w : World) (K : PySem.W.Frag) (mg : Str → Option Value) (base : Heap) (k : Nat) (m : Str) (C : Addr) (sd : SdT) : Prop := ∃ (g : Addr) (fd : FuncData) (ps : List Str), Cls K C ∧ Meth K C m g ∧ FnOk P w K mg base (L2.CX P w) k g fd ps (spMT K sd) ∧ Binds K fd ps []
theorem MuT.mono {P : Program} {w : World} {K : PySem.W.Frag} {mg : Str → Option Value} {base : Heap} {j k : Nat} {m : Str} {C : Addr} {sd : SdT} (M : MuT P w K mg base j m C sd) (h : j ≤ k) : MuT P w K mg base k m C sd := by
  obtain ⟨g, fd, ps, c, me, F, b⟩ := M
  exact ⟨g, fd, ps, c, me, F.mono h, b⟩
end DW

set_option Elab.async false
set_option linter.all false
set_option maxRecDepth 100000
namespace DW
open PySem PySem.Spec PyProof.Rows L2 StX SlX ClX
end DW

set_option Elab.async false
set_option linter.all false
set_option maxRecDepth 100000
namespace DW
open PySem PySem.Spec PyProof.Rows L2 StX SlX ClX
abbrev DAS := En → (List Sl → En → Prop) → (Xn → En → Prop) → Prop
section
variable {X : Cx} {W : WX} {k : Nat} {x f : Str} {p pos kp tp : Pos} {a b e ke ie : Expr} {es : List Expr} {zr : TA} {xa xb xe xi tk : TE} {da db de di dk : DE} {dr : DA} {dx dy : DES} {ds : DAS}
end
end DW

set_option Elab.async false
set_option linter.all false
set_option maxRecDepth 100000
namespace DW
open PySem PySem.Spec PyProof.Rows L2 StX SlX ClX
end DW

set_option Elab.async false
set_option linter.all false
set_option maxRecDepth 100000
namespace DW
open PySem PySem.Spec PyProof.Rows L2 StX SlX ClX
def zipD (xs ys : List Dt) : List Dt := (xs.zip ys).map fun p => .tup [p.1, p.2]
theorem zipD_len (xs ys : List Dt) : (zipD xs ys).length = min xs.length ys.length := by
  unfold zipD
  rw [List.length_map, List.length_zip]
theorem zipD_get {xs ys : List Dt} {i : Nat} {x y : Dt} (h1 : xs[i]? = some x) (h2 : ys[i]? = some y) : (zipD xs ys)[i]? = some (.tup [x, y]) := by
  unfold zipD
  have z : (xs.zip ys)[i]? = some (x, y) := List.getElem?_zip_eq_some.mpr ⟨h1, h2⟩
  rw [List.getElem?_map, z]
  rfl
theorem Wlk.zip {K : PySem.W.Frag} {l0 a b : Addr} {F : Hp} {xs ys : List V} {ds es : List Dt} (h1 : SqL K F a xs) (r1 : Dens K l0 F xs ds) (h2 : SqL K F b ys) (r2 : Dens K l0 F ys es) : Wlk K l0 (Itz K a b) F (zipD ds es) where
  go := fun i F' H' e bs hi => by
    rw [zipD_len] at hi
    have hx : i < xs.length := by rw [r1.length]; omega
    have hy : i < ys.length := by rw [r2.length]; omega
    exact ⟨xs, ys, xs[i], ys[i], bs.sub.seq (e.seq h1), bs.sub.seq (e.seq h2), by simp [hx], by simp [hy]⟩
  yld := fun i F' H' z H2 e bs hi y => by
    obtain ⟨T, x, y, e1, hT, e2, hx, hy⟩ := y
    subst e1 e2
    obtain ⟨d1, z1, z2⟩ := r1.getx (hx xs (bs.sub.seq (e.seq h1)))
    obtain ⟨d2, z3, z4⟩ := r2.getx (hy ys (bs.sub.seq (e.seq h2)))
    have g := Go.fresh (p := T) bs (.tup [x, y]) hT
    exact ⟨_, .tup [d1, d2], g, zipD_get z1 z3, Den.tup (SqT.of upd_same) (.cons (Den.mono g.ex (Den.mono e z2)) (.cons (Den.mono g.ex (Den.mono e z4)) .nil))⟩
  stop := fun F' H' e bs => ⟨xs, ys, bs.sub.seq (e.seq h1), bs.sub.seq (e.seq h2), by rw [zipD_len, r1.length, r2.length]; omega⟩
def valsD (kvs : List (Dt × Dt)) : List Dt := kvs.map (·.2)
theorem DenN.val {K : PySem.W.Frag} {l0 : Addr} {F : Hp} : ∀ {es : List NEnt} {kvs : List (Dt × Dt)} {i : Nat} {e : NEnt}, DenN K l0 F es kvs → es[i]? = some e → ∃ d, (valsD kvs)[i]? = some d ∧ Den K l0 F (.ref e.va) d
  | _, _, _, _, .nil, h => by simp at h
  | _, _, 0, _, .cons _ _ h _, z => by
    simp at z
    subst z
    exact ⟨_, rfl, h⟩
  | _, _, i + 1, e, .cons _ _ _ t, z => by
    obtain ⟨d, h1, h2⟩ := DenN.val (i := i) t (by simpa using z)
    exact ⟨d, by simpa [valsD] using h1, h2⟩
theorem DenN.length {K : PySem.W.Frag} {l0 : Addr} {F : Hp} : ∀ {es : List NEnt} {kvs : List (Dt × Dt)}, DenN K l0 F es kvs → es.length = kvs.length
  | _, _, .nil => rfl
  | _, _, .cons _ _ _ t => congrArg (· + 1) (DenN.length t)
end DW

set_option Elab.async false
set_option linter.all false
set_option maxRecDepth 100000
namespace DW
open PySem PySem.Spec PyProof.Rows L2 StX SlX ClX
end DW

set_option Elab.async false
set_option linter.all false
set_option maxRecDepth 100000
namespace DW
open PySem PySem.Spec PyProof.Rows L2 StX SlX ClX
section
variable {X : Cx} {W : WX} {k : Nat} {a e : Expr} {es : List Expr} {xa xe : TE} {de : DE} {dx : DES} {ds : DAS} {zr : TA} {dr : DA} {pos : Pos}
theorem Dens.last {K : PySem.W.Frag} {l0 : Addr} {F : Hp} {d : Dt} : ∀ {xs : List V} {es : List Dt}, Dens K l0 F xs (es ++ [d]) → ∃ ys y, xs = ys ++ [y] ∧ Dens K l0 F ys es ∧ Den K l0 F y d
  | _, [], .cons h .nil => ⟨[], _, rfl, .nil, h⟩
  | _, _ :: es, .cons h t => by
    obtain ⟨ys, y, e, r, rd⟩ := Dens.last (es := es) t
    subst e
    exact ⟨_ :: ys, y, rfl, .cons h r, rd⟩
end
end DW

set_option Elab.async false
set_option linter.all false
set_option maxRecDepth 100000
namespace DW
open PySem PySem.Spec PyProof.Rows L2 StX SlX ClX
end DW

set_option Elab.async false
set_option linter.all false
set_option maxRecDepth 100000
namespace DW
open PySem PySem.Spec PyProof.Rows L2 StX SlX ClX
theorem Go.freeze {l0 : Addr} {F H F' H' : Hp} {x : Addr} {o : HO} (g : Go l0 F H F' H') (h0 : H x = none) (h1 : F' x = none) (n0 : x ≠ l0) (h2 : H' x = some o) : Go l0 F H (upd F' x o) H' ∧ Same F' (upd F' x o) := by
  have ex : Same F' (upd F' x o) := fun a w e => by
    rw [upd_ne (ne_of_none e h1)]
    exact e
  refine ⟨⟨⟨fun a u e => ?_, by rw [upd_ne n0.symm]; exact g.bs.nf, g.bs.dr⟩, fun a w e => ex a w (g.ex a w e), fun a h3 h4 => ?_, g.keep⟩, ex⟩
  · by_cases q : a = x
    · subst q
      rw [upd_same] at e
      cases e
      exact h2
    · rw [upd_ne q] at e
      exact g.bs.sub a u e
  · by_cases q : a = x
    · subst q
      exact h0
    · rw [upd_ne q] at h4
      exact g.new a h3 h4
end DW

set_option Elab.async false
set_option linter.all false
set_option maxRecDepth 100000
namespace DW
open PySem PySem.Spec PyProof.Rows L2 StX SlX ClX
section
variable {X : Cx} {pins : List (Addr × Obj)} {σ : L2.St} {H : Hp} {s : Shared} {t it q a : Addr} {ys : List V} {k : Nat} {f : Str} {C : Addr}
def Old (H : Hp) (it : Addr) : Prop := ∀ b o, H b = some o → b < it
def spItF (K : PySem.W.Frag) (f : Str) : Sp := fun vs H Q _ => ∃ (a C dx t p : Addr) (ys : List V), vs = [V.ref a] ∧ Slt H a C dx [some (.ref t)] ∧ SCls K C ∧ Slot1 K C f p 0 ∧ SqT K H t ys ∧ ∀ it, H it = none → Old H it → Q (.ref it) (upd H it (TItO t it 0))
def MItF (P : Program) (w : World) (K : PySem.W.Frag) (mg : Str → Option Value) (base : Heap) (k : Nat) (f : Str) (C : Addr) : Prop := ∃ (g : Addr) (fd : FuncData) (ps : List Str) (p : Addr), SCls K C ∧ Slot1 K C f p 0 ∧ Meth K C "__iter__" g ∧ FnOk P w K mg base (L2.CX P w) k g fd ps (spItF K f) ∧ Binds K fd ps []
theorem MItF.mono {P : Program} {w : World} {K : PySem.W.Frag} {mg : Str → Option Value} {base : Heap} {j k : Nat} (M : MItF P w K mg base j f C) (h : j ≤ k) : MItF P w K mg base k f C := by
  obtain ⟨g, fd, ps, p, h1, h2, h3, h4, h5⟩ := M
  exact ⟨g, fd, ps, p, h1, h2, h3, h4.mono h, h5⟩
end
end DW

set_option Elab.async false
set_option linter.all false
set_option maxRecDepth 100000
namespace DW
open PySem PySem.Spec PyProof.Rows L2 StX SlX ClX
def Trp (h : Heap) (v : Value) (x y : Int) (c : Addr) : Prop := ∃ a o t u n, v = .ref a ∧ h.get? a = some o ∧ o.cls = .type "tuple" ∧ o.data = .seq #[.int x t, .int y u, .ref c] n
theorem Trp.keeps {h h' : Heap} {v : Value} {x y : Int} {c : Addr} (p : Trp h v x y c) (k : ∀ b o, h.get? b = some o → o.cls = .type "tuple" → h'.get? b = some o) : Trp h' v x y c := by
  obtain ⟨a, o, t, u, n, e, h1, h2, h3⟩ := p
  exact ⟨a, o, t, u, n, e, k a o h1 h2, h2, h3⟩
end DW

set_option Elab.async false
set_option linter.all false
set_option maxRecDepth 100000
namespace DW
open PySem PySem.Spec PyProof.Rows L2
def ddY {α : Type} : List Addr → Nat → (List Addr → Nat → α) → α
  | [], m, k => k [] m
  | a :: r, m, k => match Nat.beq (Nat.land (Nat.shiftRight m a) 1) 0 with
    | true => HandSHeadRun.frNat (Nat.lor m (Nat.shiftLeft 1 a)) fun m' => ddY r m' fun as m'' => k (a :: as) m''
    | false => ddY r m k
def goY (g : Addr → Option Obj) : Nat → List Addr → Nat → List Addr
  | 0, as, _ => as
  | n + 1, as, m => as ++ ddY (nxZ g as) m fun bs m' => goY g n bs m'
def asY (g : Addr → Option Obj) (n : Nat) : List Addr := PySem.cStatics :: goY g n [mainGlobals] (Nat.shiftLeft 1 mainGlobals)
def obsY (P : Program) (n : Nat) (t : Top) (g : Addr → Option Obj) : AlX := t.obs P (He.frG g (asY g n))
def hookY (P : Program) (n : Nat) (t : Top) : PySem.W.Hook where
  α := AlX
  obs := fun s => obsY P n t s.heap.get?
  val := fun _ => t.val
  says := fun _ h => ∃ K : PySem.W.Frag, K.In h ∧ t.obs P K = t.val
  of := fun _ _ e => ⟨_, He.frG_in, e⟩
  keeps := fun _ _ _ ⟨K, hK, c⟩ k => ⟨K, PySem.W.Frag.In.keeps hK k, c⟩
theorem obsY_eq {P : Program} {n : Nat} {t : Top} {g : Addr → Option Obj} {s : Shared} (h : ∀ a, g a = s.heap.get? a) : obsY P n t g = (hookY P n t).obs s := by
  have e : g = s.heap.get? := funext h
  rw [e] <;> rfl
def KY (n : Nat) (s : PySem.W.SharedT) : PySem.W.Frag := He.frG (HandSHeadRun.getT s) (asY (HandSHeadRun.getT s) n)
def PcEq (r : PySem.W.OpenRow) (M : Nat) {β : Type} (f : PySem.W.SharedT → β) (v : β) (w : World) : Prop :=
  ∀ os : OsState, (HandSHeadRun.endF (HandSHeadRun.stepQ (HandSHeadRun.denQ HandSHeadRun.tabQ) r.prog w) M r.prog w os).map f = some v
noncomputable def lkY (r : PySem.W.OpenRow) (q : Program) (loose : List PySem.Str) (w : World) (s : PySem.W.SharedT) :=
  (HandSHeadRun.looksF r.prog (PySem.W.boot_heap w.params) s.abs, HandSHeadRun.seenQ q loose (PySem.importedModules r.prog.main.body) (fun s => PySem.W.xlAt q [] s && PySem.W.recOk r.toRowW.records s) s.abs)
def fnO (l : List He.DefD) (K : PySem.W.Frag) : Bool × List He.FnW := (l.all fun d => d.ok K, l.map fun d => He.fnW K d.at_)
def fnV (l : List He.DefD) : Bool × List He.FnW := (true, l.map He.DefD.val)
def fxO (P : Program) (l : List DefX) (K : PySem.W.Frag) := (l.map fun d => d.ok P K, l.map fun d => fnWX K d.at_)
def fxV (l : List DefX) := (l.map fun _ => true, l.map DefX.val)
def fpO (l : List DefP) (K : PySem.W.Frag) := (l.map fun d => d.ok K, l.map fun d => fnWP K (d.ad K))
def fpV (l : List DefP) := (l.map fun _ => true, l.map DefP.val)
def faO (l : List He.Fa) (K : PySem.W.Frag) : Bool := l.all fun f => f.ok K
def exO (l : List (PySem.W.Frag → Bool)) (K : PySem.W.Frag) : List Bool := l.map fun e => e K
def exV (l : List (PySem.W.Frag → Bool)) : List Bool := l.map fun _ => true
theorem map_cut {α β : Type} {f g : α → β} {l : List α} (n : Nat) (h1 : (l.take n).map f = (l.take n).map g) (h2 : (l.drop n).map f = (l.drop n).map g) : l.map f = l.map g := by
  rw [← List.take_append_drop n l, List.map_append, List.map_append, h1, h2]
theorem ex_cut {l : List (PySem.W.Frag → Bool)} {K : PySem.W.Frag} (n : Nat) (h1 : exO (l.take n) K = exV (l.take n)) (h2 : exO (l.drop n) K = exV (l.drop n)) : exO l K = exV l := map_cut n h1 h2
theorem top_of {P : Program} {t : Top} {K : PySem.W.Frag} (h1 : faO t.fa K = true) (h2 : fnO t.fn K = fnV t.fn) (h3 : fxO P t.fx K = fxV t.fx) (h4 : exO t.ex K = exV t.ex) (h5 : fpO t.fp K = fpV t.fp) : t.obs P K = t.val := by
  obtain ⟨a1, a2⟩ := Prod.mk.inj h2
  obtain ⟨b1, b2⟩ := Prod.mk.inj h3
  obtain ⟨b3, b4⟩ := Prod.mk.inj h5
  have h4' : (t.ex.map fun e => e K) = t.ex.map fun _ => true := h4
  have h1' : (t.fa.all fun f => f.ok K) = true := h1
  unfold Top.obs Top.val He.obsD He.valD
  rw [h1', a1, a2, h4', b1, b2, b3, b4] <;> rfl
theorem run_of {r : PySem.W.OpenRow} {q : Program} {n : Nat} {tp : Top} {M : Nat} {loose : List PySem.Str} {w : World}
    (h0 : ∀ os : OsState, ∃ s, HandSHeadRun.endF (HandSHeadRun.stepQ (HandSHeadRun.denQ HandSHeadRun.tabQ) r.prog w) M r.prog w os = some s)
    (h1 : ∀ os s, HandSHeadRun.endF (HandSHeadRun.stepQ (HandSHeadRun.denQ HandSHeadRun.tabQ) r.prog w) M r.prog w os = some s → lkY r q loose w s = (true, PySem.W.openGood q loose) ∧ tp.obs r.prog (KY n s) = tp.val) :
    HandSHeadRun.RunEq r q (hookY r.prog n tp) (fun s => obsY r.prog n tp (HandSHeadRun.getT s)) M loose w := by
  intro os
  obtain ⟨s, e⟩ := h0 os
  obtain ⟨v, t⟩ := h1 os s e
  obtain ⟨v1, v2⟩ := Prod.mk.inj v
  rw [e]
  show some (_, _, tp.obs r.prog (KY n s)) = some (true, PySem.W.openGood q loose, tp.val)
  rw [t]
  exact congrArg some (Prod.ext v1 (Prod.ext v2 rfl))
theorem PcEq.ran {r : PySem.W.OpenRow} {M : Nat} {β : Type} {f : PySem.W.SharedT → β} {v : β} {w : World} (h : PcEq r M f v w) (os : OsState) : ∃ s, HandSHeadRun.endF (HandSHeadRun.stepQ (HandSHeadRun.denQ HandSHeadRun.tabQ) r.prog w) M r.prog w os = some s := by
  obtain ⟨s, e, _⟩ := Option.map_eq_some_iff.mp (h os)
  exact ⟨s, e⟩
theorem PcEq.at {r : PySem.W.OpenRow} {M : Nat} {β : Type} {f : PySem.W.SharedT → β} {v : β} {w : World} (h : PcEq r M f v w) {os : OsState} {s : PySem.W.SharedT} (e : HandSHeadRun.endF (HandSHeadRun.stepQ (HandSHeadRun.denQ HandSHeadRun.tabQ) r.prog w) M r.prog w os = some s) : f s = v := by
  have h1 := h os
  rw [e] at h1
  exact Option.some.inj h1
end DW

set_option Elab.async false
set_option linter.all false
set_option maxRecDepth 100000
namespace DW
open PySem PySem.Spec PyProof.Rows L2 StX SlX ClX
end DW

set_option Elab.async false
set_option linter.all false
set_option maxRecDepth 100000
namespace DW
open PySem PySem.Spec PyProof.Rows L2 StX SlX ClX
section
variable {K : PySem.W.Frag} {l0 : Addr} {F H F' H' : Hp} {a : Addr} {t : OT}
theorem TreO.go (g : Go l0 F H F' H') (o : TreO K l0 F H a t) : TreO K l0 F' H' a t := by
  obtain ⟨r, nd, e⟩ := o
  refine ⟨r.frm g.ex (fun b m => ?_) fun b m u e => g.keep b u (r.liv b m).2.1 e, nd, e⟩
  obtain ⟨h1, _, o, h3⟩ := r.liv b m
  cases e : F' b with
  | none => rfl
  | some u =>
    have z := g.new b h1 (by rw [e]; exact fun z => nomatch z)
    rw [h3] at z
    cases z
end
end DW

set_option Elab.async false
set_option linter.all false
set_option maxRecDepth 100000
namespace DW
open PySem PySem.Spec PyProof.Rows L2 StX SlX ClX
section
variable {X : Cx} {k : Nat} {f : Str} {C : Addr}
def spItP (K : PySem.W.Frag) (f : Str) : Sp := fun vs H Q _ => ∃ (a C dx t : Addr) (fs : List (Str × V)) (ys : List V), vs = [V.ref a] ∧ H a = some (.ins C dx fs) ∧ Cls K C ∧ NoAttr K C f ∧ fs.lookup f = some (.ref t) ∧ SqT K H t ys ∧ ∀ it, H it = none → Old H it → Q (.ref it) (upd H it (TItO t it 0))
def MItP (P : Program) (w : World) (K : PySem.W.Frag) (mg : Str → Option Value) (base : Heap) (k : Nat) (f : Str) (C : Addr) : Prop := ∃ (g : Addr) (fd : FuncData) (ps : List Str), Cls K C ∧ NoAttr K C f ∧ Meth K C "__iter__" g ∧ FnOk P w K mg base (L2.CX P w) k g fd ps (spItP K f) ∧ Binds K fd ps []
theorem MItP.mono {P : Program} {w : World} {K : PySem.W.Frag} {mg : Str → Option Value} {base : Heap} {j k : Nat} (M : MItP P w K mg base j f C) (h : j ≤ k) : MItP P w K mg base k f C := by
  obtain ⟨g, fd, ps, h1, h2, h3, F, b⟩ := M
  exact ⟨g, fd, ps, h1, h2, h3, F.mono h, b⟩
end
end DW

set_option Elab.async false
set_option linter.all false
set_option maxRecDepth 100000
namespace DW
open PySem PySem.Spec PyProof.Rows L2 StX SlX ClX
end DW

set_option Elab.async false
set_option linter.all false
set_option maxRecDepth 100000
namespace DW
open PySem PySem.Spec PyProof.Rows L2 StX SlX ClX
end DW

set_option Elab.async false
set_option linter.all false
set_option maxRecDepth 100000
set_option maxHeartbeats 2000000
namespace DW
open PySem PySem.Spec PyProof.Rows L2 StX SlX ClX
end DW

set_option Elab.async false
set_option linter.all false
set_option maxRecDepth 100000
namespace PySem
end PySem
namespace DW
open PySem PySem.Spec PyProof.Rows L2 StX SlX ClX
end DW
namespace DW
open PySem PySem.Spec PyProof.Rows L2 StX SlX ClX
end DW

set_option Elab.async false
set_option linter.all false
set_option maxRecDepth 100000
namespace DW
open PySem PySem.Spec PyProof.Rows L2 StX SlX ClX
structure PropSet (K : PySem.W.Frag) (C : Addr) (f : Str) (p g : Addr) : Prop where
  set : PySem.W.findIn K (.ref C) "__setattr__" = some (some (.builtin "object.__setattr__"))
  plain : PySem.W.plainOver K C = true
  tak : PySem.W.takerIn K C f = some (some (.ref p))
  typ : PySem.W.typeIn K (.ref p) = some (.type "property")
  rec_ : ∃ a rest, PySem.W.recIn K p "property" = some (a :: .ref g :: rest)
def MuP (P : Program) (w : World) (K : PySem.W.Frag) (mg : Str → Option Value) (base : Heap) (k : Nat) (f : Str) (C : Addr) (sd : SdX) : Prop := ∃ (p g : Addr) (fd : FuncData) (ps : List Str), Cls K C ∧ PropSet K C f p g ∧ FnOk P w K mg base (L2.CX P w) k g fd ps (spMX K C sd) ∧ Binds K fd ps []
theorem MuP.mono {P : Program} {w : World} {K : PySem.W.Frag} {mg : Str → Option Value} {base : Heap} {j k : Nat} {m : Str} {C : Addr} {sd : SdX} (M : MuP P w K mg base j m C sd) (h : j ≤ k) : MuP P w K mg base k m C sd := by
  obtain ⟨p, g, fd, ps, c, me, F, b⟩ := M
  exact ⟨p, g, fd, ps, c, me, F.mono h, b⟩
end DW
namespace DW
open PySem PySem.Spec PyProof.Rows L2 StX SlX ClX
end DW

set_option Elab.async false
set_option linter.all false
set_option maxRecDepth 100000
namespace DW
open PySem PySem.Spec PyProof.Rows L2 StX SlX
end DW

set_option Elab.async false
set_option linter.all false
set_option maxRecDepth 100000
namespace DW
open PySem PySem.Spec PyProof.Rows L2 StX SlX ClX
abbrev SdR := List Dt → (OT → Prop) → (Xn → Prop) → Prop
def spRt (K : PySem.W.Frag) (sd : SdR) : Sp := fun vs H Q E => ∃ l0 F ds Qd Ed, Base l0 F H ∧ Dens K l0 F vs ds ∧ sd ds Qd Ed ∧
  (∀ v t F' H', Go l0 F H F' H' → TreV K l0 F' H' v t → t.ads.Nodup → (∀ b ∈ t.ads, H b = none) → Qd t → Q v H') ∧ (∀ cls dct x F' H', Go l0 F H F' H' → XDen K l0 F' H' cls dct x → Ed x → E cls dct H')
def FnkRt (P : Program) (w : World) (K : PySem.W.Frag) (mg : Str → Option Value) (base : Heap) (x : Str) (k : Nat) (ps : List Str) (sd : SdR) : Prop :=
  ∃ f fd, mg x = some (.ref f) ∧ PySem.W.keepIn K (.ref f) = true ∧ Binds K fd ps [] ∧ FnOk P w K mg base (L2.CX P w) k f fd ps (spRt K sd)
theorem FnkRt.mono {P : Program} {w : World} {K : PySem.W.Frag} {mg : Str → Option Value} {base : Heap} {x : Str} {j k : Nat} {ps : List Str} {sd : SdR} (M : FnkRt P w K mg base x j ps sd) (h : j ≤ k) : FnkRt P w K mg base x k ps sd := by
  obtain ⟨f, fd, h1, h2, h3, F⟩ := M
  exact ⟨f, fd, h1, h2, h3, F.mono h⟩
abbrev DFR := En → (OT → Prop) → (Xn → Prop) → Prop
section
variable {K : PySem.W.Frag} {l0 : Addr} {F H F' H' : Hp} {v : V} {t : OT}
theorem TreV.go (g : Go l0 F H F' H') (h : TreV K l0 F H v t) : TreV K l0 F' H' v t :=
  h.frm g.ex (fun a m => by obtain ⟨h1, _, o, h3⟩ := h.liv a m; exact g.stays h1 h3) fun a m o e => g.keep a o (h.liv a m).2.1 e
theorem TreVs.go {vs : List V} {ts : List OT} (g : Go l0 F H F' H') (h : TreVs K l0 F H vs ts) : TreVs K l0 F' H' vs ts :=
  h.frm g.ex (fun a m => by obtain ⟨h1, _, o, h3⟩ := h.liv a m; exact g.stays h1 h3) fun a m o e => g.keep a o (h.liv a m).2.1 e
theorem TreVs.snoc (r : TreV K l0 F H v t) : ∀ {vs : List V} {xs : List OT}, TreVs K l0 F H vs xs → TreVs K l0 F H (vs ++ [v]) (xs ++ [t])
  | _, _, .nil => .cons r .nil
  | _, _, .cons h s => .cons h (s.snoc r)
theorem TreVs.split {t2 : List OT} : ∀ {t1 : List OT} {vs : List V}, TreVs K l0 F H vs (t1 ++ t :: t2) → ∃ v1 u v2, vs = v1 ++ u :: v2 ∧ TreVs K l0 F H v1 t1 ∧ TreV K l0 F H u t ∧ TreVs K l0 F H v2 t2
  | [], _, .cons h r => ⟨[], _, _, rfl, .nil, h, r⟩
  | _ :: _, _, .cons h r => by
    obtain ⟨g1, v, g2, e, a, b, c⟩ := TreVs.split r
    subst e
    exact ⟨_ :: g1, v, g2, rfl, .cons h a, b, c⟩
theorem TreVs.app {t2 : List OT} {v2 : List V} (b : TreVs K l0 F H v2 t2) : ∀ {t1 : List OT} {v1 : List V}, TreVs K l0 F H v1 t1 → TreVs K l0 F H (v1 ++ v2) (t1 ++ t2)
  | _, _, .nil => b
  | _, _, .cons h r => .cons h (TreVs.app b r)
theorem TreV.frz {F1 H1 : Hp} (g : Go l0 F H F1 H1) (h : TreV K l0 F1 H1 v t) (n : ∀ b ∈ t.ads, H b = none) : ∃ F2, Go l0 F H F2 H1 ∧ Den K l0 F2 v t.toD := by
  have h0 : ∀ b ∈ t.ads, F b = none := fun b m => by
    cases e : F b with
    | none => rfl
    | some o =>
      cases z : H b with
      | none =>
        have : F1 b = some o := g.ex b o e
        rw [(h.liv b m).1] at this
        cases this
      | some u =>
        rw [n b m] at z
        cases z
  refine ⟨fun a => if a ∈ t.ads then H1 a else F1 a, ⟨⟨fun a o e => ?_, ?_, g.bs.dr⟩, fun a o e => ?_, fun a e1 e2 => ?_, g.keep⟩, h.den (fun a o e => ?_) fun a m => if_pos m⟩
  · by_cases m : a ∈ t.ads
    · have e : (if a ∈ t.ads then H1 a else F1 a) = some o := e
      rw [if_pos m] at e
      exact e
    · have e : (if a ∈ t.ads then H1 a else F1 a) = some o := e
      rw [if_neg m] at e
      exact g.bs.sub a o e
  · show (if l0 ∈ t.ads then H1 l0 else F1 l0) = none
    rw [if_neg fun m => (h.liv l0 m).2.1 rfl]
    exact g.bs.nf
  · show (if a ∈ t.ads then H1 a else F1 a) = some o
    rw [if_neg fun m => by rw [h0 a m] at e; cases e]
    exact g.ex a o e
  · by_cases m : a ∈ t.ads
    · exact n a m
    · have e2 : (if a ∈ t.ads then H1 a else F1 a) ≠ none := e2
      rw [if_neg m] at e2
      exact g.new a e1 e2
  · show (if a ∈ t.ads then H1 a else F1 a) = some o
    rw [if_neg fun m => by rw [(h.liv a m).1] at e; cases e]
    exact e
end
section
variable {X : Cx} {W : WX} {k : Nat} {x f y : Str} {p pos : Pos} {e a : Expr} {es : List Expr} {te xa : TE} {ta : TA} {da : DA} {de : DE} {df : DF} {dr : DFR}
end
inductive CtxL : (OT → OT) → Prop
  | hole : CtxL fun t => t
  | lst {c : OT → OT} (h : CtxL c) (a : Addr) (t1 : List OT) (t2 : List OT) : CtxL fun t => .lst a (t1 ++ c t :: t2)
theorem CtxL.isDat {c : OT → OT} {n' : OT} (h : CtxL c) (z : n'.isDat = false) : (c n').isDat = false := by
  cases h with
  | hole => exact z
  | lst h => rfl
section
variable {K : PySem.W.Frag} {l0 : Addr} {F H F' H' : Hp} {σ : L2.St} {ρ : En} {i : Nat} {c : OT → OT}
theorem CtxL.part (h : CtxL c) : ∀ {v : V} {n : OT}, TreV K l0 F H v (c n) → (c n).ads.Nodup → ∃ u, Part K l0 F H v u c n := by
  induction h with
  | hole => exact fun {v n} t nd => ⟨v, t, nd, fun b m => m, fun n' F' H' e q1 q2 t' nd' q => ⟨t', nd', fun b m => .inr m⟩⟩
  | @lst c h a t1 t2 ih =>
    intro v n t nd
    cases t with
    | lst h1 h2 h3 r =>
      obtain ⟨e1, en, e2, e, r1, rt, r2⟩ := r.split
      subst e
      have ea : ∀ m, (OT.lst a (t1 ++ c m :: t2)).ads = (a :: adsL t1) ++ ((c m).ads ++ adsL t2) := fun m => by
        show a :: adsL (t1 ++ c m :: t2) = _
        rw [adsL_app]
        rfl
      rw [ea] at nd
      have nd2 := nd
      rw [List.nodup_append] at nd2
      have nd3 := nd2.2.1
      rw [List.nodup_append] at nd3
      obtain ⟨u, p⟩ := ih rt nd3.1
      have out : ∀ b, b ∈ (a :: adsL t1) ∨ b ∈ adsL t2 → b ∈ (OT.lst a (t1 ++ c n :: t2)).ads ∧ b ∉ (c n).ads := fun b m => by
        rw [ea]
        rcases m with m | m
        · exact ⟨List.mem_append_left _ m, fun z => nd2.2.2 b m b (List.mem_append_left _ z) rfl⟩
        · exact ⟨List.mem_append_right _ (List.mem_append_right _ m), fun z => nd3.2.2 b z b m rfl⟩
      refine ⟨u, p.at_, p.nd, fun b m => by rw [ea]; exact List.mem_append_right _ (List.mem_append_left _ (p.sub b m)), fun n' F' H' e q1 q2 t' nd' q => ?_⟩
      have inn : ∀ b ∈ (c n).ads, b ∈ (OT.lst a (t1 ++ c n :: t2)).ads := fun b m => by rw [ea]; exact List.mem_append_right _ (List.mem_append_left _ m)
      have far : ∀ b, b ∈ (a :: adsL t1) ∨ b ∈ adsL t2 → F' b = none ∧ ∀ o, H b = some o → H' b = some o := fun b m => by
        obtain ⟨z1, z2⟩ := out b m
        exact ⟨q1 b z1 fun z => z2 (p.sub b z), q2 b z1 fun z => z2 (p.sub b z)⟩
      obtain ⟨p1, p2, p3⟩ := p.put n' F' H' e (fun b m => q1 b (inn b m)) (fun b m => q2 b (inn b m)) t' nd' fun b m => (q b m).imp id fun z y => z (inn b y)
      refine ⟨.lst (far a (.inl List.mem_cons_self)).1 h2 ((far a (.inl List.mem_cons_self)).2 _ h3)
        (TreVs.app (.cons p1 (r2.frm e (fun b m => (far b (.inr m)).1) fun b m => (far b (.inr m)).2)) (r1.frm e (fun b m => (far b (.inl (List.mem_cons_of_mem _ m))).1) fun b m => (far b (.inl (List.mem_cons_of_mem _ m))).2)), ?_, fun b m => ?_⟩
      · rw [ea]
        refine nodup_mid nd p2 fun b m => ?_
        rcases p3 b m with z | z
        · exact .inl z
        · rcases q b z with y | y
          · exact .inl (p.sub b y)
          · rw [ea] at y
            exact .inr y
      · rw [ea] at m
        rcases List.mem_append.mp m with m | m
        · exact .inl (out b (.inl m)).1
        · rcases List.mem_append.mp m with m | m
          · exact (p3 b m).imp (inn b) id
          · exact .inl (out b (.inr m)).1
theorem TreVs.rev : ∀ {vs : List V} {ts : List OT}, TreVs K l0 F H vs ts → TreVs K l0 F H vs.reverse ts.reverse
  | _, _, .nil => .nil
  | _, _, .cons h t => by
    rw [List.reverse_cons, List.reverse_cons]
    exact (TreVs.rev t).snoc h
end
theorem split_at {α : Type} {x : α} : ∀ {ts : List α} {m : Nat}, ts[m]? = some x → ∃ t1 t2, ts = t1 ++ x :: t2 ∧ ∀ y, ts.set m y = t1 ++ y :: t2
  | [], _, h => by simp at h
  | t :: ts, 0, h => by
    simp at h
    subst h
    exact ⟨[], ts, rfl, fun y => rfl⟩
  | t :: ts, m + 1, h => by
    obtain ⟨t1, t2, e, z⟩ := split_at (ts := ts) (m := m) (by simpa using h)
    refine ⟨t :: t1, t2, by rw [e]; rfl, fun y => ?_⟩
    show t :: ts.set m y = _
    rw [z]
    rfl
section
variable {X : Cx} {W : WX} {y : Str} {p kp tp pos : Pos} {e ke ie : Expr} {xe tk xi : TE} {de dk di : DE}
theorem TreVs.get {K : PySem.W.Frag} {l0 : Addr} {F H : Hp} {vs : List V} {ts : List OT} {m : Nat} {t : OT} (r : TreVs K l0 F H vs ts) (h : ts[m]? = some t) : ∃ u, vs[m]? = some u ∧ TreV K l0 F H u t := by
  obtain ⟨t1, t2, e, z⟩ := split_at h
  have em : m = t1.length := by
    have hl : m < ts.length := (List.getElem?_eq_some_iff.mp h).1
    have z1 := congrArg (fun l => l[t1.length]?) (z t)
    rcases Nat.lt_trichotomy m t1.length with q | q | q
    · have z2 := congrArg (fun l => l[m]?) (z (.lst 0 []))
      have z3 := congrArg (fun l => l[m]?) (z (.lst 1 []))
      simp only [List.getElem?_set_self hl, List.getElem?_append_left q] at z2 z3
      rw [← z3] at z2
      cases z2
    · exact q
    · have hl1 : t1.length < ts.length := by omega
      have z2 := congrArg (fun l => l[t1.length]?) (z (.lst 0 []))
      have z3 := congrArg (fun l => l[t1.length]?) (z (.lst 1 []))
      simp only [List.getElem?_set_ne (Nat.ne_of_gt q), List.getElem?_append_right (Nat.le_refl _), Nat.sub_self, List.getElem?_cons_zero] at z2 z3
      rw [z3] at z2
      cases z2
  subst e
  obtain ⟨v1, u, v2, e2, r1, r2, r3⟩ := r.split
  subst e2
  refine ⟨u, ?_, r2⟩
  rw [em, ← r1.length, List.getElem?_append_right (Nat.le_refl _), Nat.sub_self]
  rfl
end
end DW

set_option Elab.async false
set_option linter.all false
set_option maxRecDepth 100000
namespace DW
open PySem PySem.Spec PyProof.Rows L2 StX SlX ClX
abbrev SdP := List Dt → List (Key × Dt) → (Dt → Prop) → Prop
end DW

set_option Elab.async false
set_option linter.all false
set_option maxRecDepth 100000
namespace DW
open PySem PySem.Spec PyProof.Rows L2
structure ExcM0 (K : PySem.W.Frag) (mg : Str → Option Value) (x : Str) (C : Addr) : Prop where
  oc : OexC K C
  q : PySem.W.excIn K C PySem.HandSPX.veTail "ValueError.__new__" = true
  m : mg x = some (.ref C)
end DW

set_option Elab.async false
set_option linter.all false
set_option maxRecDepth 100000
set_option maxHeartbeats 2000000
namespace DW
open PySem PySem.Spec PyProof.Rows L2 StX SlX ClX
end DW

set_option Elab.async false
set_option linter.all false
set_option maxRecDepth 100000
set_option maxHeartbeats 2000000
namespace DW
open PySem PySem.Spec PyProof.Rows L2 PySem.W StX SlX
open Builtin Builtin.Str Builtin.Int Builtin.Float
end DW

set_option Elab.async false
set_option linter.all false
set_option maxRecDepth 100000
set_option maxHeartbeats 2000000
namespace DW
open PySem PySem.Spec PyProof.Rows L2 StX SlX ClX
def atInt : List (Key × Dt) → Int → Option Dt
  | (.inl x, d) :: r, k => if x = k then some d else atInt r k
  | _ :: r, k => atInt r k
  | [], _ => none
section
variable {X : Cx} {W : WX} {K : PySem.W.Frag} {l0 : Addr} {F H : Hp} {pos : Pos}
theorem DenK.atI : ∀ {xs : List (Key × V)} {ds : List (Key × Dt)} {k : Int} {d : Dt}, DenK K l0 F xs ds → atInt ds k = some d → ∃ v, valV xs (.inl k : Key) = some v ∧ Den K l0 F v d
  | _, _, _, _, .nil, e => by simp [atInt] at e
  | _, _, k, d, .cons (f := .inr i) (x := y) (d := b) h t, e => by
    have e : atInt _ k = some d := e
    obtain ⟨v, h1, h2⟩ := DenK.atI t e
    exact ⟨v, by rw [valV_neg (by simp)]; exact h1, h2⟩
  | _, _, k, d, .cons (f := .inl g) (x := y) (d := b) h t, e => by
    by_cases q : g = k
    · subst q
      simp only [atInt, if_true] at e
      cases e
      exact ⟨y, by unfold valV; simp, h⟩
    · simp only [atInt, if_neg q] at e
      obtain ⟨v, h1, h2⟩ := DenK.atI t e
      exact ⟨v, by rw [valV_neg (by simpa using q)]; exact h1, h2⟩
end
def MakeOkXN (P : Program) (w : World) (K : PySem.W.Frag) (mg : Str → Option Value) (base : Heap) (k : Nat) (x : Str) (C : Addr) (sd : SdX) (n : Nat) (ks : List Str) (f : List V → List V → List V) : Prop := ∃ (g : Addr) (fd : FuncData) (ps : List Str) (u : List Value → List Value → List Value) (gV : List V → List V → List V),
  Mk K C g ∧ FnOk P w K mg base (L2.CX P w) k g fd ps (spMX K C sd) ∧ mg x = some (.ref C) ∧ KBn K fd ps (n + 1) ks u gV ∧ ∀ y vs zs, vs.length = n → zs.length = ks.length → gV (y :: vs) zs = y :: f vs zs
theorem MakeOkXN.mono {P : Program} {w : World} {K : PySem.W.Frag} {mg : Str → Option Value} {base : Heap} {j k : Nat} {x : Str} {C : Addr} {sd : SdX} {n : Nat} {ks : List Str} {f : List V → List V → List V} (M : MakeOkXN P w K mg base j x C sd n ks f) (h : j ≤ k) : MakeOkXN P w K mg base k x C sd n ks f := by
  obtain ⟨g, fd, ps, u, gV, h1, F, h2⟩ := M
  exact ⟨g, fd, ps, u, gV, h1, F.mono h, h2⟩
end DW

set_option Elab.async false
set_option linter.all false
set_option maxRecDepth 100000
namespace DW
open PySem PySem.Spec PyProof.Rows L2 StX SlX
end DW

set_option Elab.async false
set_option linter.all false
set_option maxRecDepth 100000
set_option maxHeartbeats 2000000
namespace DW
open PySem PySem.Spec PyProof.Rows L2 StX SlX ClX
end DW

set_option Elab.async false
set_option linter.all false
set_option maxRecDepth 100000
set_option maxHeartbeats 2000000
namespace DW
open PySem PySem.Spec PyProof.Rows L2 StX SlX ClX
end DW

set_option Elab.async false
set_option linter.all false
set_option maxRecDepth 100000
namespace DW
open PySem PySem.Spec PyProof.Rows L2

end DW

set_option Elab.async false
set_option linter.all false
set_option maxRecDepth 100000
namespace DW
open PySem PySem.Spec PyProof.Rows L2 StX SlX
end DW

set_option Elab.async false
set_option linter.all false
set_option maxRecDepth 100000
namespace DW
open PySem PySem.Spec PyProof.Rows L2 StX SlX ClX
end DW

set_option Elab.async false
set_option linter.all false
set_option maxRecDepth 100000
namespace DW
open PySem PySem.Spec PyProof.Rows L2 StX SlX ClX
section
variable {X : Cx} {W : WX} {k : Nat} {C : Addr} {e : Expr} {es : List Expr} {te : TE} {t : TA} {da : DA} {de : DE} {pos : Pos}
def PrRt (P : Program) (w : World) (K : PySem.W.Frag) (mg : Str → Option Value) (base : Heap) (k : Nat) (f : Str) (C : Addr) (sd : SdR) : Prop := ∃ (p g : Addr) (fd : FuncData) (ps : List Str), Cls K C ∧ PropOf K C f p g ∧ FnOk P w K mg base (L2.CX P w) k g fd ps (spRt K sd) ∧ Binds K fd ps []
theorem PrRt.mono {P : Program} {w : World} {K : PySem.W.Frag} {mg : Str → Option Value} {base : Heap} {j k : Nat} {f : Str} {C : Addr} {sd : SdR} (M : PrRt P w K mg base j f C sd) (h : j ≤ k) : PrRt P w K mg base k f C sd := by
  obtain ⟨p, g, fd, ps, c, o, F, b⟩ := M
  exact ⟨p, g, fd, ps, c, o, F.mono h, b⟩
end
end DW

set_option Elab.async false
set_option linter.all false
set_option maxRecDepth 100000
namespace DW
open PySem PySem.Spec PyProof.Rows L2 NdefX ClX
theorem exv_ok {P : Program} {w : World} {H : Hp} {h : Heap} {a C : Addr} {dd : Option Addr} {oe : Obj} {vs : Array Value} (e : h.get? a = some oe) (z : Zc (.ref C) dd oe) (d : oe.data = .fields vs) : ObjOk P w H h a (.ext (excAt a C dd)) :=
  ⟨⟨oe, vs, e, z.1, z.2, d⟩, ⟨oe, e⟩, fun _ _ ⟨o, v, q, r⟩ k => ⟨o, v, k o q, r⟩⟩
def tOfMk (t : L2.St → Hp → XK → Prop) : TE := fun σ H Q => t σ H fun cls d H' => ∃ C, cls = .ref C ∧ ∀ a, H' a = none → Q (.ref a) (upd H' a (.ext (excAt a C d)))
theorem pe_ofMk {X : Cx} {e : Expr} {t : L2.St → Hp → XK → Prop} (he : PMk X e t) : PE X e (tOfMk t) := by
  refine ⟨fun pins s σ H Q I h => wpAny_mono (he pins s σ H _ I h) (fun u s' hu => ?_) fun _ _ x => x⟩
  obtain ⟨a, oe, vs, sI, H', cls, d, rfl, J, k, hne, ha, hz, hd, h1, na, os, ag, r, C, rfl, q⟩ := hu
  have J' : Inv X pins σ H' { s' with heap := sI.heap } := ⟨J.ok, os.trans J.os, ag, J.base, J.loc, J.cell, J.free, J.freeC, J.pin, J.hok, J.len⟩
  exact ⟨.ref a, _, J'.laidN (h' := s'.heap) (t' := s'.toks) k hne na (exv_ok ha hz hd), rfl, q a na⟩
def dMakeXv (C : Addr) (fs : List Str) (da : DA) : DE := fun ρ Q E => da ρ (fun ss => plain ss fun ds => ds.length = fs.length ∧ Q (.dat (.xv C (fs.zip ds).reverse))) E
def dMakeXv0 (C : Addr) : DE := fun _ Q _ => Q (.dat (.xv C []))
section
variable {X : Cx} {W : WX} {e : Expr} {pos : Pos}
theorem de_makeXv {k : Nat} {C : Addr} {fs : List Str} {x : Str} {p : Pos} {es : List Expr} {t : TA} {da : DA} (M : ExcMk X.prog X.w X.K X.mg X.base k x C fs) (hr : Room (k + 1) X.A) (hg : Gl X x) (ha : DAX X W (e :: es) t da)
    (hdb : (x == ("__debug__" : Str)) = false := by decide) (he : starEach (e :: es) X.env = (false, eval e X.env) :: starEach es X.env := by rfl) (hpl : (backTo pos (starEach es X.env)).any (·.1) = false := by rfl) (hfs : fs.length ≤ 1000 := by decide) :
    DEX X W (.Call (.Name x p) (e :: es) [] pos) (tOfMk (tMkO C (spExcI C fs) [] t)) (dMakeXv C fs da) := by
  obtain ⟨oc, ⟨fI, fd, ps, h1, h2, G, hb⟩, hm⟩ := M
  refine ⟨pe_ofMk (pmk_oex oc h1 h2 G hr hb .nil no_pass hg hm ha.1 hdb he hpl), fun ρ Q E h l0 F H σ S Qc kk kx => ?_⟩
  refine ha.2 ρ _ _ h l0 F H σ S _ (fun vs ss F1 H1 g1 r1 q1 => ?_) kx
  obtain ⟨ds, e1, hl, q2⟩ := plain_of q1
  subst e1
  have r := dens_of r1
  refine ⟨by rw [r.length, hl]; exact hfs, fun a na => ?_⟩
  rw [List.append_nil]
  refine ⟨a, vs, rfl, by rw [r.length, hl], upd_same, fun dx n1 n2 => ⟨rfl, dx, (fs.zip vs).reverse, excH_a, excH_d n2, by rw [upd_ne n2] at n1; exact n1, ?_⟩⟩
  have n3 : H1 dx = none := by rw [upd_ne n2] at n1; exact n1
  have eH : upd (del (excH (upd H1 a (exo a C none)) a C dx (fs.zip vs).reverse) a) dx (.xd (fs.zip vs).reverse) = upd H1 dx (.xd (fs.zip vs).reverse) := by
    funext b
    unfold del excH upd
    by_cases z1 : b = dx
    · simp only [if_pos z1]
    · simp only [if_neg z1]
      by_cases z2 : b = a
      · rw [z2, na]
        simp only [if_true]
      · simp only [if_neg z2]
  rw [eH]
  have g2 := Go.fresh (p := dx) g1.bs (.xd (fs.zip vs).reverse) n3
  have g := g1.trans g2
  refine ⟨C, rfl, fun a2 na2 => ?_⟩
  have g3 := Go.fresh (p := a2) g.bs (.ext (excAt a2 C (some dx))) na2
  have ne : dx ≠ a2 := fun z => by
    rw [← z, upd_same] at na2
    cases na2
  exact kk (.ref a2) (.dat (.xv C (fs.zip ds).reverse)) _ _ (g.trans g3) (Den.xv upd_same ((upd_ne ne).trans upd_same) (DenF.mono (g2.trans g3).ex (DenF.zip r).rev)) q2
theorem de_makeXv0 {C : Addr} {x : Str} {p : Pos} (M : ExcM0 X.K X.mg x C) (hg : Gl X x) (hdb : (x == ("__debug__" : Str)) = false := by decide) :
    DEX X W (.Call (.Name x p) [] [] pos) (fun _ H Q => ∀ a, H a = none → Q (.ref a) (upd H a (.ext (excAt a C none)))) (dMakeXv0 C) := by
  refine ⟨⟨fun pins s σ H Q I h => ?_⟩, fun ρ Q E q l0 F H σ S Qc kk kx a na => kk (.ref a) (.dat (.xv C [])) _ _ (Go.fresh (p := a) S.bs (.ext (excAt a C none)) na) (Den.xv0 upd_same) q⟩
  refine wpAny_Call_Name_kw (ld_glob I hg M.m ?_ hdb)
  refine PySem.W.callWith_K0 I.kIn M.oc.kC ?_
  obtain ⟨bm, N, nm, qn, bs, hdct, sn, sub, ab, col, dd, k0, k1, k2, k3, k5, mN, hC, hN, hni, T⟩ := exc_obj I.kIn M.q
  refine wpAny_call_exc_subT PySem.F.excBase_ValueError T hC hN hni (fun h' a hm => ?_) (by show 0 ≤ sizeLine; omega)
  have hn : H a = none := I.hok.gone hm.new
  obtain ⟨t, ht, _, _⟩ := hm.there
  exact ⟨.ref a, upd H a (.ext (excAt a C none)), I.laidN hm.keeps hm.new hn (exv_ok ht ⟨rfl, rfl⟩ rfl), rfl, h a hn⟩
def dIsV (D : V) (tbl : List (Addr × Bool)) : DCl := fun ss Q => ∃ C gs b, ss = [.dat (.xv C gs), .dat (.v D)] ∧ (C, b) ∈ tbl ∧ Q (.dat (.v (.bl b)))
def rIsV (K : PySem.W.Frag) : List V → Hp → VK → Prop := fun xs H Q => ∃ (a C : Addr) (d : Option Addr) (c : V) (cv : Value) (b : Bool), H a = some (.ext (excAt a C d)) ∧ ExcC K C ∧ (PySem.W.clsIn K C).isSome = true ∧ (d = none ∨ ∃ dd fs, d = some dd ∧ H dd = some (.xd fs)) ∧ xs = [.ref a, c] ∧ (∀ u, RelV c u → u = cv) ∧ PySem.W.kitOne K (.ref C) cv = some b ∧ Q (.bl b) H
theorem call_isV : CallR X (.builtin "isinstance") (rIsV X.K) := by
  intro pins s σ H xs us Q I r h
  obtain ⟨a, C, d, c, cv, b, hH, T, hcl, hd, rfl, hcv, hk, q⟩ := h
  cases r with
  | cons rx rr =>
    cases rr with
    | cons rt rr =>
      cases rr
      cases rx
      obtain rfl := hcv _ rt
      obtain ⟨⟨oe, vs, hget, z1, z2, hv⟩, _⟩ := (show ObjOk X.prog X.w H s.heap a (.ext (excAt a C d)) from I.hok a _ hH)
      have J : ∃ od, PySem.W.InstAt s.heap a oe C od := by
        rcases hd with rfl | ⟨dd, fs, rfl, hdd⟩
        · exact ⟨none, hget, z1, by unfold PySem.W.notCls; rw [hv] <;> rfl, by rw [z2]; trivial⟩
        · have hx : ObjOk X.prog X.w H s.heap dd (.xd fs) := I.hok dd _ hdd
          obtain ⟨mA, hns, hr⟩ := hx
          obtain ⟨od, ho, hl⟩ := lookIn_ns hns
          exact ⟨some od, hget, z1, by unfold PySem.W.notCls; rw [hv] <;> rfl, by rw [z2]; exact ho⟩
      obtain ⟨od, J⟩ := J
      exact PySem.W.kia_one (PySem.W.kitx_exc hcl T.hg T.hk T.hs T.ha T.hn T.ht T.hm) I.kIn J hk (fun z => nomatch z) fun tk => ⟨.bl b, H, I.kept (t' := tk) fun _ _ z => z, rfl, q⟩
theorem sc_isV {K : PySem.W.Frag} {D : V} {tbl : List (Addr × Bool)} (T : IsTblX K D tbl) : SndC K (rIsV K) (dIsV D tbl) := fun vs ss Q h l0 F H b r Qc k => by
  obtain ⟨C, gs, v, e, hm, q⟩ := h
  subst e
  obtain ⟨cv, h1, h2⟩ := T.at_
  obtain ⟨h3, h4⟩ := T.own _ hm
  cases r with
  | cons r1 r =>
    cases r with
    | cons r2 r =>
      cases r
      obtain rfl := r2.val
      have r1 : Den K l0 F _ (.xv C gs) := r1
      cases r1 with
      | xv h h' _ => exact ⟨_, C, _, _, cv, v, b.sub _ _ h, h3, h4, .inr ⟨_, _, rfl, b.sub _ _ h'⟩, rfl, h1, h2 _ hm, k.here b q⟩
      | xv0 h => exact ⟨_, C, _, _, cv, v, b.sub _ _ h, h3, h4, .inl rfl, rfl, h1, h2 _ hm, k.here b q⟩
def tXv (C : Addr) (f : Str) (te : TE) : TE := fun σ H Q => te σ H fun x H1 => ∃ (a dd : Addr) (fs : List (Str × V)) (v : V), x = .ref a ∧ H1 a = some (.ext (excAt a C (some dd))) ∧ H1 dd = some (.xd fs) ∧ fs.lookup f = some v ∧ Q v H1
def dXv (C : Addr) (f : Str) (de : DE) : DE := fun ρ Q E => de ρ (fun s => ∃ gs dt, s = .dat (.xv C gs) ∧ gs.lookup f = some dt ∧ Q (.dat dt)) E
theorem pe_xv {C : Addr} {te : TE} {n : Str} (T : XfC X.K C) (hno : PySem.W.findIn X.K (.ref C) n = some none) (he : PE X e te) (hb : attributeBase e n X.env (eval e X.env) = eval e X.env := by rfl) : PE X (.Attribute e n pos) (tXv C n te) := by
  refine ⟨fun pins s σ H Q I h => ?_⟩
  refine attr_of hb (thn (he.run pins s σ H _ I h) fun u s1 hh => ?_)
  obtain ⟨x, H1, I1, rx, a, dd, fs, v, ex, hH, ea, l, q⟩ := hh
  subst ex
  obtain rfl : u = Value.ref a := rx
  obtain ⟨⟨oe, vs, ha, z1, z2, hd⟩, _⟩ := (show ObjOk X.prog X.w H1 s1.heap a (.ext (excAt a C (some dd))) from I1.hok a _ hH)
  have hx : ObjOk X.prog X.w H1 s1.heap dd (.xd fs) := I1.hok dd _ ea
  obtain ⟨mA, hns, hr⟩ := hx
  obtain ⟨od, ho, hl⟩ := lookIn_ns hns
  obtain ⟨u, hu, ru⟩ := RelO.some_of (v := v) (o := mA n) (by rw [← l]; exact hr n)
  have J : PySem.W.InstAt s1.heap a oe C (some od) := ⟨ha, z1, by unfold PySem.W.notCls; rw [hd] <;> rfl, by rw [z2]; exact ho⟩
  exact HandSPX.exc_get I1.kIn J T.ga T.gg T.exC (PySem.W.findObj_own T.hdC hno rfl (by rw [hl, hu])) (handed_of ru) ⟨v, H1, I1.tok _, ru, q⟩
theorem de_xv {C : Addr} {te : TE} {de : DE} {n : Str} (T : XfC X.K C) (hno : PySem.W.findIn X.K (.ref C) n = some none) (he : DEX X W e te de) (hb : attributeBase e n X.env (eval e X.env) = eval e X.env := by rfl) : DEX X W (.Attribute e n pos) (tXv C n te) (dXv C n de) := by
  refine ⟨pe_xv T hno he.1 hb, fun ρ Q E q l0 F H σ S Qc k kx => ?_⟩
  refine he.2 ρ _ E q l0 F H σ S _ (fun x s F1 H1 g1 r1 q1 => ?_) kx
  obtain ⟨gs, dt, e2, e3, q2⟩ := q1
  subst e2
  have r1 : Den X.K l0 F1 x (.xv C gs) := r1
  cases r1 with
  | xv h h' r =>
    obtain ⟨v, h2, h3⟩ := r.look e3
    exact ⟨_, _, _, v, rfl, g1.bs.sub _ _ h, g1.bs.sub _ _ h', h2, k v (.dat dt) F1 H1 g1 h3 q2⟩
  | xv0 h => cases e3
end
end DW

set_option Elab.async false
set_option linter.all false
set_option maxRecDepth 100000
set_option maxHeartbeats 4000000
namespace Lw
open PySem PySem.Spec PyProof.Rows L2 DW
structure Kl where
  ReadError : Addr
  BadStretch : Addr
  BadText : Addr
  NoMember : Addr
  BadStep : Addr
  BadPace : Addr
  Contradiction : Addr
  NoKey : Addr
  Impossible : Addr
  BadName : Addr
  UnknownName : Addr
  WrongRange : Addr
  TooMany : Addr
  NoAnswer : Addr
  NotServed : Addr
  Refused : Addr
  Stretches : Addr
def iss_Stretches (kl : Kl) : List (Addr × Bool) := [(kl.Stretches, true)]
def exm_ReadError (kl : Kl) : List (Addr × Bool) := [(kl.ReadError, true), (kl.BadStretch, true), (kl.BadText, true), (kl.NoMember, true), (kl.BadStep, true), (kl.BadPace, true), (kl.Contradiction, true), (kl.NoKey, true), (kl.Impossible, true), (kl.BadName, true), (kl.UnknownName, true), (kl.WrongRange, true), (kl.TooMany, true), (kl.NoAnswer, true), (kl.NotServed, true), (kl.Refused, true)]
def exm_BadStretch (kl : Kl) : List (Addr × Bool) := [(kl.ReadError, false), (kl.BadStretch, true), (kl.BadText, false), (kl.NoMember, false), (kl.BadStep, false), (kl.BadPace, false), (kl.Contradiction, false), (kl.NoKey, false), (kl.Impossible, false), (kl.BadName, false), (kl.UnknownName, false), (kl.WrongRange, false), (kl.TooMany, false), (kl.NoAnswer, false), (kl.NotServed, false), (kl.Refused, false)]
def isx_BadStep (kl : Kl) : List (Addr × Bool) := [(kl.ReadError, false), (kl.BadStretch, false), (kl.BadText, false), (kl.NoMember, false), (kl.BadStep, true), (kl.BadPace, false), (kl.Contradiction, false), (kl.NoKey, false), (kl.Impossible, false), (kl.BadName, false), (kl.UnknownName, false), (kl.WrongRange, false), (kl.TooMany, false), (kl.NoAnswer, false), (kl.NotServed, false), (kl.Refused, false)]
def isx_NoMember (kl : Kl) : List (Addr × Bool) := [(kl.ReadError, false), (kl.BadStretch, false), (kl.BadText, false), (kl.NoMember, true), (kl.BadStep, false), (kl.BadPace, false), (kl.Contradiction, false), (kl.NoKey, false), (kl.Impossible, false), (kl.BadName, false), (kl.UnknownName, false), (kl.WrongRange, false), (kl.TooMany, false), (kl.NoAnswer, false), (kl.NotServed, false), (kl.Refused, false)]
def isx_BadText (kl : Kl) : List (Addr × Bool) := [(kl.ReadError, false), (kl.BadStretch, false), (kl.BadText, true), (kl.NoMember, false), (kl.BadStep, false), (kl.BadPace, false), (kl.Contradiction, false), (kl.NoKey, false), (kl.Impossible, false), (kl.BadName, false), (kl.UnknownName, false), (kl.WrongRange, false), (kl.TooMany, false), (kl.NoAnswer, false), (kl.NotServed, false), (kl.Refused, false)]
def isx_Contradiction (kl : Kl) : List (Addr × Bool) := [(kl.ReadError, false), (kl.BadStretch, false), (kl.BadText, false), (kl.NoMember, false), (kl.BadStep, false), (kl.BadPace, false), (kl.Contradiction, true), (kl.NoKey, false), (kl.Impossible, false), (kl.BadName, false), (kl.UnknownName, false), (kl.WrongRange, false), (kl.TooMany, false), (kl.NoAnswer, false), (kl.NotServed, false), (kl.Refused, false)]
def isx_ValueError (kl : Kl) : List (Addr × Bool) := [(kl.ReadError, true), (kl.BadStretch, true), (kl.BadText, true), (kl.NoMember, true), (kl.BadStep, true), (kl.BadPace, true), (kl.Contradiction, true), (kl.NoKey, true), (kl.Impossible, true), (kl.BadName, true), (kl.UnknownName, true), (kl.WrongRange, true), (kl.TooMany, true), (kl.NoAnswer, true), (kl.NotServed, true), (kl.Refused, true)]
def isx_ReadError (kl : Kl) : List (Addr × Bool) := [(kl.ReadError, true), (kl.BadStretch, true), (kl.BadText, true), (kl.NoMember, true), (kl.BadStep, true), (kl.BadPace, true), (kl.Contradiction, true), (kl.NoKey, true), (kl.Impossible, true), (kl.BadName, true), (kl.UnknownName, true), (kl.WrongRange, true), (kl.TooMany, true), (kl.NoAnswer, true), (kl.NotServed, true), (kl.Refused, true)]
def isx_BadStretch (kl : Kl) : List (Addr × Bool) := [(kl.ReadError, false), (kl.BadStretch, true), (kl.BadText, false), (kl.NoMember, false), (kl.BadStep, false), (kl.BadPace, false), (kl.Contradiction, false), (kl.NoKey, false), (kl.Impossible, false), (kl.BadName, false), (kl.UnknownName, false), (kl.WrongRange, false), (kl.TooMany, false), (kl.NoAnswer, false), (kl.NotServed, false), (kl.Refused, false)]
def isx_BadPace (kl : Kl) : List (Addr × Bool) := [(kl.ReadError, false), (kl.BadStretch, false), (kl.BadText, false), (kl.NoMember, false), (kl.BadStep, false), (kl.BadPace, true), (kl.Contradiction, false), (kl.NoKey, false), (kl.Impossible, false), (kl.BadName, false), (kl.UnknownName, false), (kl.WrongRange, false), (kl.TooMany, false), (kl.NoAnswer, false), (kl.NotServed, false), (kl.Refused, false)]
def isx_BadName (kl : Kl) : List (Addr × Bool) := [(kl.ReadError, false), (kl.BadStretch, false), (kl.BadText, false), (kl.NoMember, false), (kl.BadStep, false), (kl.BadPace, false), (kl.Contradiction, false), (kl.NoKey, false), (kl.Impossible, false), (kl.BadName, true), (kl.UnknownName, false), (kl.WrongRange, false), (kl.TooMany, false), (kl.NoAnswer, false), (kl.NotServed, false), (kl.Refused, false)]
def isx_Impossible (kl : Kl) : List (Addr × Bool) := [(kl.ReadError, false), (kl.BadStretch, false), (kl.BadText, false), (kl.NoMember, false), (kl.BadStep, false), (kl.BadPace, false), (kl.Contradiction, false), (kl.NoKey, false), (kl.Impossible, true), (kl.BadName, false), (kl.UnknownName, false), (kl.WrongRange, false), (kl.TooMany, false), (kl.NoAnswer, false), (kl.NotServed, false), (kl.Refused, false)]
def isx_NoKey (kl : Kl) : List (Addr × Bool) := [(kl.ReadError, false), (kl.BadStretch, false), (kl.BadText, false), (kl.NoMember, false), (kl.BadStep, false), (kl.BadPace, false), (kl.Contradiction, false), (kl.NoKey, true), (kl.Impossible, false), (kl.BadName, false), (kl.UnknownName, false), (kl.WrongRange, false), (kl.TooMany, false), (kl.NoAnswer, false), (kl.NotServed, false), (kl.Refused, false)]
def isx_TooMany (kl : Kl) : List (Addr × Bool) := [(kl.ReadError, false), (kl.BadStretch, false), (kl.BadText, false), (kl.NoMember, false), (kl.BadStep, false), (kl.BadPace, false), (kl.Contradiction, false), (kl.NoKey, false), (kl.Impossible, false), (kl.BadName, false), (kl.UnknownName, false), (kl.WrongRange, false), (kl.TooMany, true), (kl.NoAnswer, false), (kl.NotServed, false), (kl.Refused, false)]
def isx_WrongRange (kl : Kl) : List (Addr × Bool) := [(kl.ReadError, false), (kl.BadStretch, false), (kl.BadText, false), (kl.NoMember, false), (kl.BadStep, false), (kl.BadPace, false), (kl.Contradiction, false), (kl.NoKey, false), (kl.Impossible, false), (kl.BadName, false), (kl.UnknownName, false), (kl.WrongRange, true), (kl.TooMany, false), (kl.NoAnswer, false), (kl.NotServed, false), (kl.Refused, false)]
def isx_UnknownName (kl : Kl) : List (Addr × Bool) := [(kl.ReadError, false), (kl.BadStretch, false), (kl.BadText, false), (kl.NoMember, false), (kl.BadStep, false), (kl.BadPace, false), (kl.Contradiction, false), (kl.NoKey, false), (kl.Impossible, false), (kl.BadName, false), (kl.UnknownName, true), (kl.WrongRange, false), (kl.TooMany, false), (kl.NoAnswer, false), (kl.NotServed, false), (kl.Refused, false)]
def isx_Refused (kl : Kl) : List (Addr × Bool) := [(kl.ReadError, false), (kl.BadStretch, false), (kl.BadText, false), (kl.NoMember, false), (kl.BadStep, false), (kl.BadPace, false), (kl.Contradiction, false), (kl.NoKey, false), (kl.Impossible, false), (kl.BadName, false), (kl.UnknownName, false), (kl.WrongRange, false), (kl.TooMany, false), (kl.NoAnswer, false), (kl.NotServed, false), (kl.Refused, true)]
def isx_NotServed (kl : Kl) : List (Addr × Bool) := [(kl.ReadError, false), (kl.BadStretch, false), (kl.BadText, false), (kl.NoMember, false), (kl.BadStep, false), (kl.BadPace, false), (kl.Contradiction, false), (kl.NoKey, false), (kl.Impossible, false), (kl.BadName, false), (kl.UnknownName, false), (kl.WrongRange, false), (kl.TooMany, false), (kl.NoAnswer, false), (kl.NotServed, true), (kl.Refused, false)]
def isx_NoAnswer (kl : Kl) : List (Addr × Bool) := [(kl.ReadError, false), (kl.BadStretch, false), (kl.BadText, false), (kl.NoMember, false), (kl.BadStep, false), (kl.BadPace, false), (kl.Contradiction, false), (kl.NoKey, false), (kl.Impossible, false), (kl.BadName, false), (kl.UnknownName, false), (kl.WrongRange, false), (kl.TooMany, false), (kl.NoAnswer, true), (kl.NotServed, false), (kl.Refused, false)]
def is_Stretches (kl : Kl) : List (Addr × Bool) := []
abbrev Pr := Int × Int
def In (ps : List Pr) (x : Int) : Prop := ∃ p ∈ ps, p.1 ≤ x ∧ x ≤ p.2
theorem In_nil (x : Int) : ¬ In [] x := fun ⟨_, h, _⟩ => by cases h
theorem In_cons {p : Pr} {ps : List Pr} {x : Int} : In (p :: ps) x ↔ (p.1 ≤ x ∧ x ≤ p.2) ∨ In ps x := by
  constructor
  · rintro ⟨q, h, h2⟩
    rcases List.mem_cons.mp h with e | h
    · subst e
      exact .inl h2
    · exact .inr ⟨q, h, h2⟩
  · rintro (h | ⟨q, h, h2⟩)
    · exact ⟨p, List.mem_cons_self, h⟩
    · exact ⟨q, List.mem_cons_of_mem _ h, h2⟩
theorem In_append {ps qs : List Pr} {x : Int} : In (ps ++ qs) x ↔ In ps x ∨ In qs x := by
  constructor
  · rintro ⟨q, h, h2⟩
    rcases List.mem_append.mp h with h | h
    · exact .inl ⟨q, h, h2⟩
    · exact .inr ⟨q, h, h2⟩
  · rintro (⟨q, h, h2⟩ | ⟨q, h, h2⟩)
    · exact ⟨q, List.mem_append_left _ h, h2⟩
    · exact ⟨q, List.mem_append_right _ h, h2⟩
theorem In_perm {ps qs : List Pr} (e : ps.Perm qs) (x : Int) : In ps x ↔ In qs x := ⟨fun ⟨p, h, h2⟩ => ⟨p, e.mem_iff.mp h, h2⟩, fun ⟨p, h, h2⟩ => ⟨p, e.mem_iff.mpr h, h2⟩⟩
theorem In_reverse {ps : List Pr} (x : Int) : In ps.reverse x ↔ In ps x := In_perm (List.reverse_perm ps) x
def Ok (ps : List Pr) : Prop := ∀ p ∈ ps, p.1 ≤ p.2
def Lim (ps : List Pr) : Prop := ∀ p ∈ ps, -(10 ^ 18) ≤ p.1 ∧ p.2 ≤ 10 ^ 18
def NF (ps : List Pr) : Prop := Ok ps ∧ ps.Pairwise fun p q => p.2 + 1 < q.1
theorem NF.tail {p : Pr} {ps : List Pr} (h : NF (p :: ps)) : NF ps := ⟨fun q m => h.1 q (List.mem_cons_of_mem _ m), (List.pairwise_cons.mp h.2).2⟩
theorem NF.far {p : Pr} {ps : List Pr} (h : NF (p :: ps)) {x : Int} (i : In ps x) : p.2 + 1 < x := by
  obtain ⟨q, m, h1, h2⟩ := i
  have := (List.pairwise_cons.mp h.2).1 q m
  omega
theorem NF.low {p : Pr} {ps : List Pr} (h : NF (p :: ps)) {x : Int} (i : In (p :: ps) x) : p.1 ≤ x := by
  rcases In_cons.mp i with i | i
  · exact i.1
  · have := h.far i
    have := h.1 p List.mem_cons_self
    omega
def push (acc : List Pr) (p : Pr) : List Pr := match acc with
  | [] => [p]
  | b :: t => if p.1 ≤ b.2 + 1 then (b.1, max b.2 p.2) :: t else p :: b :: t
def RNF (acc : List Pr) : Prop := Ok acc ∧ acc.Pairwise fun q p => p.2 + 1 < q.1
theorem RNF.nf {acc : List Pr} (h : RNF acc) : NF acc.reverse := ⟨fun p m => h.1 p (List.mem_reverse.mp m), List.pairwise_reverse.mpr h.2⟩
theorem push_ok {acc : List Pr} {p : Pr} (h : RNF acc) (hp : p.1 ≤ p.2) (hl : ∀ b t, acc = b :: t → b.1 ≤ p.1) : RNF (push acc p) ∧ (∀ x, In (push acc p) x ↔ In acc x ∨ (p.1 ≤ x ∧ x ≤ p.2)) ∧ (∀ b t, push acc p = b :: t → b.1 ≤ p.1) ∧ (push acc p).length ≤ acc.length + 1 := by
  cases acc with
  | nil =>
    refine ⟨⟨fun q m => ?_, List.pairwise_singleton _ _⟩, fun x => ?_, fun b t e => ?_, by simp [push]⟩
    · have e : q = p := by simpa [push] using m
      rw [e]
      exact hp
    · rw [show push [] p = [p] from rfl, In_cons]
      simp [In_nil]
    · cases e
      exact Int.le_refl _
  | cons b t =>
    have hb := hl b t rfl
    have ob := h.1 b List.mem_cons_self
    obtain ⟨h2, h3⟩ := List.pairwise_cons.mp h.2
    unfold push
    by_cases q : p.1 ≤ b.2 + 1
    · simp only [if_pos q]
      refine ⟨⟨fun r m => ?_, List.pairwise_cons.mpr ⟨fun r m => h2 r m, h3⟩⟩, fun x => ?_, fun c u e => ?_, by simp⟩
      · rcases List.mem_cons.mp m with e | m
        · subst e
          show b.1 ≤ max b.2 p.2
          omega
        · exact h.1 r (List.mem_cons_of_mem _ m)
      · rw [In_cons, In_cons]
        show (b.1 ≤ x ∧ x ≤ max b.2 p.2) ∨ _ ↔ _
        constructor
        · rintro (i | i)
          · by_cases z : x ≤ b.2
            · exact .inl (.inl ⟨i.1, z⟩)
            · exact .inr (by omega)
          · exact .inl (.inr i)
        · rintro ((i | i) | i)
          · exact .inl (by omega)
          · exact .inr i
          · exact .inl (by omega)
      · cases e
        exact hb
    · simp only [if_neg q]
      refine ⟨⟨fun r m => ?_, List.pairwise_cons.mpr ⟨fun r m => ?_, h.2⟩⟩, fun x => ?_, fun c u e => ?_, by simp⟩
      · rcases List.mem_cons.mp m with e | m
        · rw [e]
          exact hp
        · exact h.1 r m
      · rcases List.mem_cons.mp m with e | m
        · rw [e]
          omega
        · have := h2 r m
          omega
      · rw [In_cons]
        exact Or.comm
      · cases e
        exact Int.le_refl _
theorem pushes_ok : ∀ (qs acc : List Pr), RNF acc → (∀ q ∈ qs, q.1 ≤ q.2) → (∀ q ∈ qs, ∀ b t, acc = b :: t → b.1 ≤ q.1) → qs.Pairwise (fun p q => p.1 ≤ q.1) → RNF (qs.foldl push acc) ∧ (∀ x, In (qs.foldl push acc) x ↔ In acc x ∨ In qs x) ∧ (qs.foldl push acc).length ≤ acc.length + qs.length
  | [], acc, h, _, _, _ => ⟨h, fun x => by simp [In_nil], by simp⟩
  | q :: qs, acc, h, ho, hl, hs => by
    obtain ⟨s1, s2⟩ := List.pairwise_cons.mp hs
    obtain ⟨h1, h2, h3, h4⟩ := push_ok h (ho q List.mem_cons_self) (hl q List.mem_cons_self)
    obtain ⟨k1, k2, k3⟩ := pushes_ok qs (push acc q) h1 (fun r m => ho r (List.mem_cons_of_mem _ m)) (fun r m b t e => by
      have := h3 b t e
      have := s1 r m
      omega) s2
    refine ⟨k1, fun x => ?_, by simp only [List.foldl_cons, List.length_cons]; omega⟩
    rw [List.foldl_cons, k2, h2, In_cons]
    constructor
    · rintro ((i | i) | i)
      · exact .inl i
      · exact .inr (.inl i)
      · exact .inr (.inr i)
    · rintro (i | i | i)
      · exact .inl (.inl i)
      · exact .inl (.inr i)
      · exact .inr i
theorem srtd_low {qs : List Pr} (h : SrtO.Srtd SrtO.lexB qs) : qs.Pairwise (fun p q => p.1 ≤ q.1) := by
  refine List.Pairwise.imp (fun {p q} z => ?_) h
  have z2 : ¬ (q.1 < p.1 ∨ (q.1 = p.1 ∧ q.2 < p.2)) := fun w => by
    have := SrtO.lexB_iff.mpr w
    rw [this] at z
    cases z
  omega
def app (res : List Pr) (lo hi : Int) : List Pr := if lo ≤ hi then res ++ [(lo, hi)] else res
theorem NF.drop {ps : List Pr} (h : NF ps) (i : Nat) : NF (ps.drop i) := ⟨fun p m => h.1 p (List.mem_of_mem_drop m), h.2.sublist (List.drop_sublist i ps)⟩
theorem NF.snoc {res : List Pr} {lo hi s : Int} (h : NF res) (h2 : ∀ q ∈ res, q.2 + 1 < s) (h3 : s ≤ lo) (h4 : lo ≤ hi) : NF (res ++ [(lo, hi)]) := by
  refine ⟨fun q m => ?_, List.pairwise_append.mpr ⟨h.2, List.pairwise_singleton _ _, fun p m q m2 => ?_⟩⟩
  · rcases List.mem_append.mp m with m | m
    · exact h.1 q m
    · have e : q = (lo, hi) := by simpa using m
      rw [e]
      exact h4
  · have e : q = (lo, hi) := by simpa using m2
    rw [e]
    have := h2 p m
    show p.2 + 1 < lo
    omega
theorem at2a {a b : Dt} : atI [a, b] 0 = some a := rfl
theorem at2b {a b : Dt} : atI [a, b] 1 = some b := rfl
theorem atLast {xs : List Dt} {a : Dt} : atI (xs ++ [a]) (-1) = some a := by
  unfold atI ixN
  rw [if_neg (by omega), if_pos (by rw [List.length_append, List.length_singleton]; omega)]
  simp
  rw [show (-1 + ((xs.length : Int) + 1)).toNat = xs.length by omega]
  simp
theorem iteLast {A B : Prop} {xs : List Dt} {a : Dt} (h : A) : if (!(xs ++ [a]).isEmpty) = true then A else B := by
  rw [if_pos (by simp)]
  exact h
theorem mx {a b : Int} : (if b > a then b else a) = max a b := by split <;> omega
theorem mn {a b : Int} : (if b < a then b else a) = min a b := by split <;> omega
theorem get_map {α : Type} {f : α → Dt} {xs : List α} {i : Nat} {x : Dt} (h : (xs.map f)[i]? = some x) : ∃ p, xs[i]? = some p ∧ x = f p := by
  rw [List.getElem?_map] at h
  cases q : xs[i]? with
  | none => rw [q] at h; cases h
  | some p => rw [q] at h; cases h; exact ⟨p, rfl, rfl⟩
theorem at_map {α : Type} {f : α → Dt} {xs : List α} {i : Nat} {j : Int} {p : α} (e : j = (i : Int)) (h : xs[i]? = some p) : atI (xs.map f) j = some (f p) := atI_of e (by rw [List.getElem?_map, h]; rfl)
theorem take_next {α : Type} {xs : List α} {i : Nat} {p : α} (h : xs[i]? = some p) : xs.take (i + 1) = xs.take i ++ [p] := by
  rw [List.take_add_one, h]
  rfl

def sd_joined : Sd := fun as Q _ => ∃ ps : List Pr, as = [.lst (ps.map prD)] ∧ Ok ps ∧ ps.length ≤ 90000 ∧ ∀ qs, NF qs → (∀ x, In qs x ↔ In ps x) → qs.length ≤ ps.length → Q (.tup (qs.map prD))
def d_joined : DS := (dSeq (dOwn 1 dNil)
  (dSeq (dFor (iSeq (dCB dSortP (dCons (dVar 0) dNil))) (gdSq 2 (gdCons (gdName 2) (gdCons (gdName 3) gdNil)))
  (dIfS (dAnd (dTru (dVar 1)) (dTest (dOp dLe (dVar 2) (dOp dAdd (dOp dIx (dOp dIx (dVar 1) (dUn dNeg (dC (.int 1)))) (dC (.int 1))) (dC (.int 1))))))
  (dSeq (dPop 1 4)
  (dApp 1 (dTup (dCons (dOp dIx (dVar 4) (dC (.int 0))) (dCons (dCB dMax2 (dCons (dOp dIx (dVar 4) (dC (.int 1))) (dCons (dVar 3) dNil))) dNil)))))
  (dApp 1 (dTup (dCons (dVar 2) (dCons (dVar 3) dNil))))))
  (dFrz 1 (dRetE (dCB dTupleOf (dCons (dVar 1) dNil))))))
theorem len_joined : ∀ as Q E, sd_joined as Q E → as.length = 1 := by
  rintro _ _ _ ⟨_, rfl, _⟩
  rfl
theorem pure_joined : ∀ as Q E, sd_joined as Q E → d_joined (dEnds Q E) (startD 5 as) := by
  rintro as Q E ⟨ps, rfl, ho, hl, hq⟩
  refine ⟨by simp, ?_⟩
  refine ⟨ps, rfl, fun qs hs hp => ?_⟩
  have hlen := hp.length_eq
  have hok : ∀ q ∈ qs, q.1 ≤ q.2 := fun q m => ho q (hp.mem_iff.mp m)
  have pk : ∀ i, RNF ((qs.take i).foldl push []) ∧ (∀ x, In ((qs.take i).foldl push []) x ↔ In [] x ∨ In (qs.take i) x) ∧ ((qs.take i).foldl push []).length ≤ ([] : List Pr).length + (qs.take i).length := fun i =>
    pushes_ok (qs.take i) [] ⟨fun q m => (nomatch m), .nil⟩ (fun q m => hok q (List.mem_of_mem_take m)) (fun q m b t e => nomatch e) ((srtd_low hs).sublist (List.take_sublist i qs))
  have lk : ∀ i, ((qs.take i).foldl push []).length ≤ 90000 := fun i => by
    have := (pk i).2.2
    simp only [List.length_nil, List.length_take] at this
    omega
  refine for_inv (fun i ρ => ∃ L s2 s3 s4, ρ = [.dat (.lst (ps.map prD)), .own L, s2, s3, s4] ∧ L = ((qs.take i).foldl push []).reverse.map prD) ⟨[], _, _, _, rfl, by simp⟩ ?_ ?_
  · rintro i x ρ hx ⟨L, s2, s3, s4, rfl, hL⟩
    obtain ⟨p, hp, rfl⟩ := get_map hx
    have nx : (qs.take (i + 1)).foldl push [] = push ((qs.take i).foldl push []) p := by rw [take_next hp, List.foldl_append]; rfl
    have lk := lk i
    rw [nx]
    generalize (qs.take i).foldl push [] = acc at hL lk
    refine ⟨rfl, rfl, ?_⟩
    cases acc with
    | nil =>
      subst hL
      refine ⟨by simp, by simp, ?_⟩
      exact ⟨_, _, _, _, rfl, rfl⟩
    | cons b t =>
      have hL : L = t.reverse.map prD ++ [prD b] := by rw [hL]; simp
      subst hL
      simp only [List.length_cons] at lk
      refine iteLast ?_
      refine ⟨_, atLast, _, at2b, ?_⟩
      refine iteD (fun h => ?_) (fun h => ?_)
      · have h : p.1 ≤ b.2 + 1 := h
        rw [show push (b :: t) p = (b.1, max b.2 p.2) :: t from if_pos h]
        refine ⟨_, _, rfl, _, at2a, _, at2b, by simp, by simp; omega, ?_⟩
        refine ⟨_, _, _, _, rfl, ?_⟩
        rw [mx]
        simp
      · have h : ¬ p.1 ≤ b.2 + 1 := h
        rw [show push (b :: t) p = p :: b :: t from if_neg h]
        refine ⟨by simp, by simp; omega, ?_⟩
        exact ⟨_, _, _, _, rfl, by simp⟩
  · rintro ρ ⟨L, s2, s3, s4, rfl, rfl⟩
    obtain ⟨k1, k2, k3⟩ := pk (qs.map prD).length
    rw [List.length_map, List.take_length] at k1 k2 k3 ⊢
    refine hq _ k1.nf (fun x => ?_) (by rw [List.length_reverse]; simp only [List.length_nil] at k3; omega)
    rw [In_reverse, k2, In_perm hp]
    simp [In_nil]
def badP (p : Pr) : Bool := decide (p.1 < -(10 ^ 18) ∨ 10 ^ 18 < p.2 ∨ p.2 < p.1)
def badX (kl : Kl) (p : Pr) : Xn := ⟨kl.BadStretch, [("high", .v (.int p.2)), ("low", .v (.int p.1))]⟩
def St (ps : List Pr) : Prop := NF ps ∧ Lim ps
def stD (kl : Kl) (ps : List Pr) : Dt := .slt kl.Stretches (.tup (ps.map prD))
theorem badP_no {p : Pr} (h : badP p = false) : p.1 ≤ p.2 ∧ -(10 ^ 18) ≤ p.1 ∧ p.2 ≤ 10 ^ 18 := by
  have := of_decide_eq_false h
  omega
theorem badP_yes {p : Pr} (h : p.1 < -(10 ^ 18) ∨ 10 ^ 18 < p.2 ∨ p.2 < p.1) : badP p = true := decide_eq_true h
theorem find_at {ps : List Pr} {i : Nat} {p : Pr} (h : ps[i]? = some p) (hb : badP p = true) (hn : ∀ q ∈ ps.take i, badP q = false) : ps.find? badP = some p := by
  rw [← List.take_append_drop i ps, List.find?_append, List.find?_eq_none.mpr (fun q m => by rw [hn q m]; simp)]
  rw [List.drop_eq_getElem_cons (List.getElem?_eq_some_iff.mp h).1, (List.getElem?_eq_some_iff.mp h).2]
  simp [List.find?_cons, hb]
theorem lim_of {ps qs : List Pr} (h1 : Ok qs) (h2 : Lim ps) (e : ∀ x, In qs x ↔ In ps x) : Lim qs := fun q m => by
  obtain ⟨r, m1, a1, a2⟩ := (e q.1).mp ⟨q, m, Int.le_refl _, h1 q m⟩
  obtain ⟨s, m2, b1, b2⟩ := (e q.2).mp ⟨q, m, h1 q m, Int.le_refl _⟩
  have := h2 r m1
  have := h2 s m2
  omega
def Good (ps : List Pr) : Prop := Ok ps ∧ Lim ps
theorem good_find {ps : List Pr} (h : Good ps) : ps.find? badP = none := List.find?_eq_none.mpr fun p m => by
  have := h.1 p m
  have := h.2 p m
  have e : badP p = false := decide_eq_false (by omega)
  rw [e]
  simp
def sd_Stretches___init__ (kl : Kl) : Sd := fun as Q E => ∃ (ps : List Pr) (d : Dt), as = [d] ∧ (d = .lst (ps.map prD) ∨ d = .tup (ps.map prD)) ∧ ps.length ≤ 90000 ∧ (∀ p, ps.find? badP = some p → E (badX kl p)) ∧ (ps.find? badP = none → ∀ qs, St qs → (∀ x, In qs x ↔ In ps x) → qs.length ≤ ps.length → Q (stD kl qs))
def d_Stretches___init__ (kl : Kl) : DS := (dSeqB (dOwn 2 dNil)
  (dSeqB (dFor (iSeq (dVar 1)) (gdSq 2 (gdCons (gdName 3) (gdCons (gdName 4) gdNil)))
  (dSeq (dIfS (dOr (dTest (dOp dLt (dVar 3) (dUn dNeg (dC (.int 1000000000000000000))))) (dOr (dTest (dOp dGt (dVar 4) (dC (.int 1000000000000000000)))) (dTest (dOp dGt (dVar 3) (dVar 4)))))
  (dRaise kl.BadStretch ["low", "high"] (dCons (dVar 3) (dCons (dVar 4) dNil)))
  dNext)
  (dApp 2 (dTup (dCons (dVar 3) (dCons (dVar 4) dNil))))))
  (dFrz 2 (dSlF [kl.Stretches] (dCall sd_joined [] (dCons (dVar 2) dNil))))))
theorem len_Stretches___init__ (kl : Kl) : ∀ as Q E, sd_Stretches___init__ kl as Q E → as.length + 1 = 2 := by
  rintro _ _ _ ⟨_, _, rfl, _⟩
  rfl
theorem pure_Stretches___init__ (kl : Kl) : ∀ p as Q E, sd_Stretches___init__ kl as Q E → d_Stretches___init__ kl (dEndsS p kl.Stretches Q E) (startI p kl.Stretches 5 as) := by
  rintro p as Q E ⟨ps, d, rfl, hd, hl, he, hq⟩
  refine ⟨by simp, ?_⟩
  have key : ∀ (d : Dt), ForI (gdSq 2 (gdCons (gdName 3) (gdCons (gdName 4) gdNil))) (dSeq (dIfS (dOr (dTest (dOp dLt (dVar 3) (dUn dNeg (dC (.int 1000000000000000000))))) (dOr (dTest (dOp dGt (dVar 4) (dC (.int 1000000000000000000)))) (dTest (dOp dGt (dVar 3) (dVar 4)))))
      (dRaise kl.BadStretch ["low", "high"] (dCons (dVar 3) (dCons (dVar 4) dNil)))
      dNext)
      (dApp 2 (dTup (dCons (dVar 3) (dCons (dVar 4) dNil)))))
      { nx := dFrz 2 (dSlF [kl.Stretches] (dCall sd_joined [] (dCons (dVar 2) dNil))) (dEndsS p kl.Stretches Q E), rt := fun _ => False, bk := fun _ => False, ct := fun _ => False, ex := (dEndsS p kl.Stretches Q E).ex } (ps.map prD) [.oob p kl.Stretches [], .dat d, .own [], .emp, .emp] := fun d => by
    refine for_inv (fun i ρ => ∃ L s3 s4, ρ = [.oob p kl.Stretches [], .dat d, .own L, s3, s4] ∧ L = (ps.take i).map prD ∧ ∀ q ∈ ps.take i, badP q = false) ⟨[], _, _, rfl, by simp, by simp⟩ ?_ ?_
    · rintro i x ρ hx ⟨L, s3, s4, rfl, rfl, hn⟩
      obtain ⟨q, hp, rfl⟩ := get_map hx
      refine ⟨rfl, rfl, ?_⟩
      refine iteD (fun h => ⟨rfl, he q (find_at hp (badP_yes (.inl h)) hn)⟩) (fun h1 => ?_)
      refine iteD (fun h => ⟨rfl, he q (find_at hp (badP_yes (.inr (.inl h))) hn)⟩) (fun h2 => ?_)
      refine iteD (fun h => ⟨rfl, he q (find_at hp (badP_yes (.inr (.inr h))) hn)⟩) (fun h3 => ?_)
      have h1 : ¬ q.1 < -(10 ^ 18) := h1
      have h2 : ¬ 10 ^ 18 < q.2 := h2
      have h3 : ¬ q.2 < q.1 := h3
      refine ⟨by simp, by simp; omega, ?_⟩
      refine ⟨_, _, _, rfl, by rw [take_next hp, List.map_append]; rfl, fun r m => ?_⟩
      rw [take_next hp] at m
      rcases List.mem_append.mp m with m | m
      · exact hn r m
      · have e : r = q := by simpa using m
        rw [e]
        exact decide_eq_false (by omega)
    · rintro ρ ⟨L, s3, s4, rfl, rfl, hn⟩
      rw [List.length_map, List.take_length] at hn ⊢
      have ok : Ok ps := fun q m => (badP_no (hn q m)).1
      have lim : Lim ps := fun q m => (badP_no (hn q m)).2
      refine ⟨ps, rfl, ok, hl, fun qs h1 h2 h3 => ?_⟩
      exact ⟨_, _, rfl, by simp, _, _, rfl, rfl, hq (good_find ⟨ok, lim⟩) qs ⟨h1, lim_of h1.1 lim h2⟩ h2 h3⟩
  rcases hd with rfl | rfl
  · exact key _
  · exact key _


def sd__law_is_int : Sd := fun as Q _ => ∃ i : Int, as = [.v (.int i)] ∧ Q (.v (.bl true))
def d__law_is_int : DS := (dRetE (dAndV (dCB (dIsi .int) (dCons (dVar 0) (dCons (dC (.ty "int")) dNil))) (dNotT (dCB (dIsi .bool) (dCons (dVar 0) (dCons (dC (.ty "bool")) dNil))))))
theorem len__law_is_int : ∀ as Q E, sd__law_is_int as Q E → as.length = 1 := by
  rintro _ _ _ ⟨_, rfl, _⟩
  rfl
theorem pure__law_is_int : ∀ as Q E, sd__law_is_int as Q E → d__law_is_int (dEnds Q E) (startD 1 as) := by
  rintro as Q E ⟨i, rfl, hq⟩
  exact ⟨rfl, _, rfl, rfl, _, rfl, hq⟩

def prY (p : Pr) : PyData := .tuple [.int p.1, .int p.2]
theorem prs_py : ∀ ps : List Pr, toPys (ps.map prD) = some (ps.map prY)
  | [] => rfl
  | p :: ps => by
    show (match toPy (prD p), toPys (ps.map prD) with
      | some x, some xs => some (x :: xs)
      | _, _ => none) = _
    rw [prs_py ps]
    rfl
theorem okPs (n : Nat) (ps : List Pr) : (ps.map prD).all (okD (n + 1)) = true := by
  rw [List.all_map, List.all_eq_true]
  intro p _
  show okD (n + 1) (prD p) = true
  cases n <;> simp [okD]
theorem okL2 (ps : List Pr) : okD 60 (.lst (ps.map prD)) = true := okPs 58 ps
theorem pyL2 (ps : List Pr) : toPy (.lst (ps.map prD)) = some (.list (ps.map prY)) := by
  show (toPys (ps.map prD)).map PyData.list = _
  rw [prs_py]
  rfl
theorem iteNil {A B : Prop} {ps : List Pr} (h1 : ps ≠ [] → A) (h2 : ps = [] → B) : if (!PyData.eqv (.list (ps.map prY)) (.list [])) = true then A else B := by
  cases ps with
  | nil => exact h2 rfl
  | cons p ps => exact h1 (by simp)

def sd__law_zone : Sd := fun as Q _ => as = [.drw] ∧ ∀ a b : Int, -(10 ^ 18) ≤ a → a + 20 ≤ b → b ≤ 10 ^ 18 → Q (.tup [.v (.int a), .v (.int b)])
def d__law_zone : DS := (dSeq (dAsg (dCall sd__law_next [] (dCons (dVar 0) (dCons (dC (.int 6)) dNil))) (gdName 1))
  (dSeq (dIfS (dTest (dOp dEq (dVar 1) (dC (.int 1))))
  (dRetE (dTup (dCons (dUn dNeg (dOp dPow (dC (.int 10)) (dC (.int 18)))) (dCons (dOp dPow (dC (.int 10)) (dC (.int 18))) dNil))))
  dNext)
  (dSeq (dIfS (dTest (dOp dEq (dVar 1) (dC (.int 2))))
  (dRetE (dTup (dCons (dOp dSub (dOp dPow (dC (.int 10)) (dC (.int 18))) (dC (.int 20))) (dCons (dOp dPow (dC (.int 10)) (dC (.int 18))) dNil))))
  dNext)
  (dSeq (dIfS (dTest (dOp dEq (dVar 1) (dC (.int 3))))
  (dRetE (dTup (dCons (dUn dNeg (dOp dPow (dC (.int 10)) (dC (.int 18)))) (dCons (dOp dSub (dC (.int 20)) (dOp dPow (dC (.int 10)) (dC (.int 18)))) dNil))))
  dNext)
  (dSeq (dIfS (dTest (dOp dEq (dVar 1) (dC (.int 4))))
  (dRetE (dTup (dCons (dUn dNeg (dC (.int 1000))) (dCons (dC (.int 1000)) dNil))))
  dNext)
  (dRetE (dTup (dCons (dUn dNeg (dC (.int 6))) (dCons (dC (.int 14)) dNil)))))))))
theorem len__law_zone : ∀ as Q E, sd__law_zone as Q E → as.length = 1 := by
  rintro _ _ _ ⟨rfl, _⟩
  rfl
theorem pure__law_zone : ∀ as Q E, sd__law_zone as Q E → d__law_zone (dEnds Q E) (startD 2 as) := by
  rintro as Q E ⟨rfl, hq⟩
  have c18 : CPow 10 18 := ⟨by decide, by decide, by decide⟩
  refine ⟨6, rfl, by decide, fun n h0 h1 => ?_⟩
  refine ⟨_, _, rfl, rfl, rfl, rfl, ?_⟩
  refine iteE (fun h => ⟨c18, c18, by simp, hq _ _ (by decide) (by decide) (by decide)⟩) (fun h => ?_)
  refine ⟨_, _, rfl, rfl, rfl, rfl, ?_⟩
  refine iteE (fun h => ⟨c18, c18, by simp, hq _ _ (by decide) (by decide) (by decide)⟩) (fun h => ?_)
  refine ⟨_, _, rfl, rfl, rfl, rfl, ?_⟩
  refine iteE (fun h => ⟨c18, c18, by simp, hq _ _ (by decide) (by decide) (by decide)⟩) (fun h => ?_)
  refine ⟨_, _, rfl, rfl, rfl, rfl, ?_⟩
  refine iteE (fun h => ⟨by simp, hq _ _ (by decide) (by decide) (by decide)⟩) (fun h => ?_)
  exact ⟨by simp, hq _ _ (by decide) (by decide) (by decide)⟩

def sd__law_pairs : Sd := fun as Q _ => ∃ a b m : Int, as = [.drw, .tup [.v (.int a), .v (.int b)], .v (.int m)] ∧ -(10 ^ 18) ≤ a ∧ a ≤ b ∧ b ≤ 10 ^ 18 ∧ 0 ≤ m ∧ m ≤ 1000 ∧ ∀ ps : List Pr, Good ps → (ps.length : Int) ≤ m + 1 → Q (.lst (ps.map prD))
def d__law_pairs : DS := (dSeq (dOwn 3 dNil)
  (dSeq (dFor (iR1 (dCons (dCall sd__law_next [] (dCons (dVar 0) (dCons (dOp dAdd (dVar 2) (dC (.int 1))) dNil))) dNil)) (gdName 4)
  (dSeq (dAsg (dOp dAdd (dOp dIx (dVar 1) (dC (.int 0))) (dCall sd__law_next [] (dCons (dVar 0) (dCons (dOp dAdd (dOp dSub (dOp dIx (dVar 1) (dC (.int 1))) (dOp dIx (dVar 1) (dC (.int 0)))) (dC (.int 1))) dNil)))) (gdName 5))
  (dSeq (dAsg (dCall sd__law_next [] (dCons (dVar 0) (dCons (dOp dPow (dC (.int 10)) (dC (.int 20))) dNil))) (gdName 6))
  (dSeq (dIfS (dTest (dOp dEq (dOp dMod (dCB dInt1 (dCons (dVar 6) dNil)) (dC (.int 2))) (dC (.int 0))))
  (dAsg (dOp dMod (dCB dInt1 (dCons (dOp dFdiv (dVar 6) (dC (.int 2))) dNil)) (dC (.int 8))) (gdName 6))
  (dAsg (dOp dMod (dCB dInt1 (dCons (dOp dFdiv (dVar 6) (dC (.int 2))) dNil)) (dOp dAdd (dOp dSub (dOp dIx (dVar 1) (dC (.int 1))) (dVar 5)) (dC (.int 1)))) (gdName 6)))
  (dApp 3 (dTup (dCons (dVar 5) (dCons (dCB dMin2 (dCons (dOp dIx (dVar 1) (dC (.int 1))) (dCons (dOp dAdd (dVar 5) (dVar 6)) dNil))) dNil))))))))
  (dSeq (dIfS (dAnd (dTest (dOp dNe (dVar 3) (dLst dNil))) (dTest (dOp dEq (dCall sd__law_next [] (dCons (dVar 0) (dCons (dC (.int 4)) dNil))) (dC (.int 1)))))
  (dApp 3 (dOp dIx (dVar 3) (dC (.int 0))))
  dNext)
  (dRet (dVar 3)))))
theorem len__law_pairs : ∀ as Q E, sd__law_pairs as Q E → as.length = 3 := by
  rintro _ _ _ ⟨_, _, _, rfl, _⟩
  rfl
theorem good_snoc {ps : List Pr} {p : Pr} (h : Good ps) (h1 : p.1 ≤ p.2) (h2 : -(10 ^ 18) ≤ p.1) (h3 : p.2 ≤ 10 ^ 18) : Good (ps ++ [p]) := by
  refine ⟨fun q m => ?_, fun q m => ?_⟩
  · rcases List.mem_append.mp m with m | m
    · exact h.1 q m
    · have e : q = p := by simpa using m
      rw [e]
      exact h1
  · rcases List.mem_append.mp m with m | m
    · exact h.2 q m
    · have e : q = p := by simpa using m
      rw [e]
      exact ⟨h2, h3⟩
theorem pure__law_pairs : ∀ as Q E, sd__law_pairs as Q E → d__law_pairs (dEnds Q E) (startD 7 as) := by
  rintro as Q E ⟨a, b, m, rfl, ha, hab, hb, hm0, hm, hq⟩
  refine ⟨by simp, ?_⟩
  refine ⟨m + 1, rfl, by omega, fun n h0 h1 => ?_⟩
  have c20 : CPow 10 20 := ⟨by decide, by decide, by decide⟩
  refine ⟨by omega, by omega, ?_⟩
  refine for_rng (fun i ρ => ∃ ps L s4 s5 s6, ρ = [.dat .drw, .dat (.tup [.v (.int a), .v (.int b)]), .int m, .own L, s4, s5, s6] ∧ L = ps.map prD ∧ Good ps ∧ ps.length ≤ i) ⟨[], _, _, _, _, rfl, rfl, ⟨fun q m => (nomatch m), fun q m => (nomatch m)⟩, by simp⟩ ?_ ?_
  · rintro i ρ hi ⟨ps, L, s4, s5, s6, rfl, rfl, hg, hl⟩
    refine ⟨_, at2a, _, at2b, _, at2a, _, rfl, by omega, fun r r0 r1 => ?_⟩
    refine ⟨c20, _, rfl, by decide, fun t t0 t1 => ?_⟩
    have fin : ∀ y : Int, 0 ≤ y → min b (a + r + y) = (if a + r + y < b then a + r + y else b) ∧ Good (ps ++ [(a + r, min b (a + r + y))]) := fun y hy => ⟨mn.symm, good_snoc hg (by show a + r ≤ min b (a + r + y); omega) (by show -(10 ^ 18) ≤ a + r; omega) (by show min b (a + r + y) ≤ 10 ^ 18; omega)⟩
    refine ⟨(by decide : (0 : Int) < 2), ?_⟩
    refine ⟨_, _, rfl, rfl, rfl, rfl, ?_⟩
    refine iteE (fun h => ?_) (fun h => ?_)
    · refine ⟨(⟨by decide, by decide⟩ : (0 : Int) < 2 ∧ (2 : Int) < 2 ^ 250), (by decide : (0 : Int) < 8), ?_⟩
      obtain ⟨e, g⟩ := fin (t / 2 % 8) (by omega)
      refine ⟨_, at2b, by simp, by simp; omega, ?_⟩
      exact ⟨_, _, _, _, _, rfl, by rw [List.map_append, e]; rfl, g, by simp; omega⟩
    · refine ⟨(⟨by decide, by decide⟩ : (0 : Int) < 2 ∧ (2 : Int) < 2 ^ 250), _, at2b, (by omega : 0 < b - (a + r) + 1), ?_⟩
      obtain ⟨e, g⟩ := fin (t / 2 % (b - (a + r) + 1)) (Int.emod_nonneg _ (by omega))
      refine ⟨_, at2b, by simp, by simp; omega, ?_⟩
      exact ⟨_, _, _, _, _, rfl, by rw [List.map_append, e]; rfl, g, by simp; omega⟩
  · rintro ρ ⟨ps, L, s4, s5, s6, rfl, rfl, hg, hl⟩
    refine ⟨by simp, _, _, pyL2 ps, rfl, okS (okL2 ps) (pyL2 ps), by decide +kernel, ?_⟩
    refine iteNil (fun hne => ?_) (fun he => ?_)
    · refine ⟨4, rfl, by decide, fun k k0 k1 => ?_⟩
      refine ⟨_, _, rfl, rfl, rfl, rfl, ?_⟩
      refine iteE (fun h => ?_) (fun h => ?_)
      · obtain ⟨p, t, rfl⟩ : ∃ p t, ps = p :: t := by
          cases ps with
          | nil => exact absurd rfl hne
          | cons p t => exact ⟨p, t, rfl⟩
        refine ⟨_, at_map (i := 0) rfl rfl, by simp at hl ⊢; omega, ?_⟩
        have g2 := good_snoc hg (hg.1 p List.mem_cons_self) (hg.2 p List.mem_cons_self).1 (hg.2 p List.mem_cons_self).2
        have := hq _ g2 (by simp at hl ⊢; omega)
        rw [List.map_append] at this
        exact this
      · exact hq ps hg (by omega)
    · exact hq ps hg (by omega)



def hasB (ps : List Pr) (x : Int) : Bool := ps.any fun p => decide (p.1 ≤ x) && decide (x ≤ p.2)
theorem hasB_iff {ps : List Pr} {x : Int} : hasB ps x = true ↔ In ps x := by
  unfold hasB In
  rw [List.any_eq_true]
  constructor
  · rintro ⟨p, m, h⟩
    rw [Bool.and_eq_true, decide_eq_true_eq, decide_eq_true_eq] at h
    exact ⟨p, m, h⟩
  · rintro ⟨p, m, h⟩
    refine ⟨p, m, ?_⟩
    rw [Bool.and_eq_true, decide_eq_true_eq, decide_eq_true_eq]
    exact h
theorem hasB_false {ps : List Pr} {x : Int} (h : ¬ In ps x) : hasB ps x = false := by
  cases e : hasB ps x with
  | false => rfl
  | true => exact absurd (hasB_iff.mp e) h

def sd_Stretches___contains__ (kl : Kl) : Sd := fun as Q _ => ∃ (l : List Pr) (x : Int), as = [stD kl l, .v (.int x)] ∧ Q (.v (.bl (hasB l x)))
def d_Stretches___contains__ (kl : Kl) : DS := (dSeq (dFor (iSeq (dSlA [kl.Stretches] (dVar 0))) (gdSq 2 (gdCons (gdName 2) (gdCons (gdName 3) gdNil)))
  (dIfS (dTest (dChain dLe dLe (dVar 2) (dVar 1) (dVar 3)))
  (dRetE (dC (.bl true)))
  dNext))
  (dRetE (dC (.bl false))))
theorem pure_Stretches___contains__ (kl : Kl) : ∀ as Q E, sd_Stretches___contains__ kl as Q E → d_Stretches___contains__ kl (dEnds Q E) (startD 4 as) := by
  rintro as Q E ⟨ps, x, rfl, hq⟩
  refine ⟨_, _, rfl, by simp, ?_⟩
  refine for_inv (fun i ρ => ∃ s2 s3, ρ = [.dat (stD kl ps), .int x, s2, s3] ∧ ¬ In (ps.take i) x) ⟨_, _, rfl, by simp [In_nil]⟩ ?_ ?_
  · rintro i y ρ hy ⟨s2, s3, rfl, hn⟩
    obtain ⟨p, hp, rfl⟩ := get_map hy
    refine ⟨rfl, rfl, ?_⟩
    have nx : p.1 ≤ x → x ≤ p.2 → hasB ps x = true := fun h1 h2 => hasB_iff.mpr ⟨p, List.mem_of_getElem? hp, h1, h2⟩
    have no : ¬ (p.1 ≤ x ∧ x ≤ p.2) → ¬ In (ps.take (i + 1)) x := fun h => by
      rw [take_next hp, In_append, In_cons]
      rintro (z | z | z)
      · exact hn z
      · exact h z
      · exact In_nil _ z
    refine iteD (fun h1 => ?_) (fun h1 => ?_)
    · refine iteD (fun h2 => ?_) (fun h2 => ?_)
      · rw [nx h1 h2] at hq
        exact hq
      · exact ⟨_, _, rfl, no fun z => h2 z.2⟩
    · exact ⟨_, _, rfl, no fun z => h1 z.1⟩
  · rintro ρ ⟨s2, s3, rfl, hn⟩
    rw [List.length_map, List.take_length] at hn
    rw [hasB_false hn] at hq
    exact hq

theorem no_bad {ps : List Pr} {A : Prop} (g : Good ps) (p : Pr) (h : ps.find? badP = some p) : A := by
  rw [good_find g] at h
  cases h
theorem prY_eq {p q : Pr} : PyData.eqv (prY p) (prY q) = true ↔ p = q := by
  obtain ⟨a, b⟩ := p
  obtain ⟨c, d⟩ := q
  show PyData.eqvAll [.int a, .int b] [.int c, .int d] = true ↔ _
  rw [PyData.eqvAll, PyData.eqvAll, PyData.eqvAll, eqv_ii, eqv_ii]
  simp
theorem prs_eqv : ∀ {l r : List Pr}, PyData.eqvAll (l.map prY) (r.map prY) = true ↔ l = r
  | [], [] => by simp [PyData.eqvAll]
  | [], q :: r => by simp [PyData.eqvAll]
  | p :: l, [] => by simp [PyData.eqvAll]
  | p :: l, q :: r => by
    rw [List.map_cons, List.map_cons, PyData.eqvAll, Bool.and_eq_true, prY_eq, prs_eqv, List.cons.injEq]
theorem lst_eqv {l r : List Pr} : PyData.eqv (.list (l.map prY)) (.list (r.map prY)) = decide (l = r) := by
  rw [Bool.eq_iff_iff, decide_eq_true_eq]
  exact prs_eqv

theorem c18 : CPow 10 18 := ⟨by decide, by decide, by decide⟩
theorem c19 : CPow 10 19 := ⟨by decide, by decide, by decide⟩
theorem badP_t {p : Pr} (h : p.1 < -(10 ^ 18) ∨ 10 ^ 18 < p.2 ∨ p.2 < p.1) : badP p = true := decide_eq_true h
def sd__law_spoilt : Sd := fun as Q _ => ∃ a b : Int, as = [.drw, .tup [.v (.int a), .v (.int b)]] ∧ -(10 ^ 18) ≤ a ∧ a ≤ b ∧ b ≤ 10 ^ 18 ∧ ∀ p : Pr, badP p = true → Q (prD p)
def d__law_spoilt : DS := (dSeq (dAsg (dCall sd__law_next [] (dCons (dVar 0) (dCons (dC (.int 5)) dNil))) (gdName 2))
  (dSeq (dAsg (dOp dAdd (dOp dIx (dVar 1) (dC (.int 0))) (dCall sd__law_next [] (dCons (dVar 0) (dCons (dOp dAdd (dOp dSub (dOp dIx (dVar 1) (dC (.int 1))) (dOp dIx (dVar 1) (dC (.int 0)))) (dC (.int 1))) dNil)))) (gdName 3))
  (dSeq (dAsg (dCall sd__law_next [] (dCons (dVar 0) (dCons (dOp dPow (dC (.int 10)) (dC (.int 19))) dNil))) (gdName 4))
  (dSeq (dIfS (dTest (dOp dEq (dOp dMod (dCB dInt1 (dCons (dVar 4) dNil)) (dC (.int 2))) (dC (.int 0))))
  (dAsg (dOp dMod (dCB dInt1 (dCons (dOp dFdiv (dVar 4) (dC (.int 2))) dNil)) (dC (.int 3))) (gdName 4))
  dNext)
  (dSeq (dAsg (dOp dAdd (dVar 4) (dC (.int 1))) (gdName 4))
  (dSeq (dIfS (dTest (dOp dEq (dVar 2) (dC (.int 1))))
  (dRetE (dTup (dCons (dOp dSub (dUn dNeg (dOp dPow (dC (.int 10)) (dC (.int 18)))) (dVar 4)) (dCons (dVar 3) dNil))))
  dNext)
  (dSeq (dIfS (dTest (dOp dEq (dVar 2) (dC (.int 2))))
  (dRetE (dTup (dCons (dVar 3) (dCons (dOp dAdd (dOp dPow (dC (.int 10)) (dC (.int 18))) (dVar 4)) dNil))))
  dNext)
  (dSeq (dIfS (dTest (dOp dEq (dVar 2) (dC (.int 3))))
  (dRetE (dTup (dCons (dOp dSub (dUn dNeg (dOp dPow (dC (.int 10)) (dC (.int 18)))) (dVar 4)) (dCons (dOp dAdd (dOp dPow (dC (.int 10)) (dC (.int 18))) (dVar 4)) dNil))))
  dNext)
  (dSeq (dIfS (dTest (dOp dEq (dVar 2) (dC (.int 4))))
  (dRetE (dTup (dCons (dOp dAdd (dOp dPow (dC (.int 10)) (dC (.int 18))) (dVar 4)) (dCons (dOp dSub (dUn dNeg (dOp dPow (dC (.int 10)) (dC (.int 18)))) (dVar 4)) dNil))))
  dNext)
  (dRetE (dTup (dCons (dOp dAdd (dVar 3) (dVar 4)) (dCons (dVar 3) dNil)))))))))))))
theorem len__law_spoilt : ∀ as Q E, sd__law_spoilt as Q E → as.length = 2 := by
  rintro _ _ _ ⟨_, _, rfl, _⟩
  rfl
theorem pure__law_spoilt : ∀ as Q E, sd__law_spoilt as Q E → d__law_spoilt (dEnds Q E) (startD 5 as) := by
  rintro as Q E ⟨a, b, rfl, ha, hab, hb, hq⟩
  refine ⟨5, rfl, by decide, fun n n0 n1 => ?_⟩
  refine ⟨_, at2a, _, at2b, _, at2a, _, rfl, by omega, fun r r0 r1 => ?_⟩
  refine ⟨c19, _, rfl, by decide, fun t t0 t1 => ?_⟩
  refine gdN (nxN ?_)
  refine if_cut (fun ρ => ∃ m : Int, 0 ≤ m ∧ ρ = [.dat .drw, .dat (.tup [.v (.int a), .v (.int b)]), .int n, .int (a + r), .int m]) (fun K kk => ?_) ?_
  · refine ⟨(by decide : (0 : Int) < 2), ?_⟩
    refine ⟨_, _, rfl, rfl, rfl, rfl, ?_⟩
    refine iteE (fun h => ?_) (fun h => ?_)
    · refine ⟨(⟨by decide, by decide⟩ : (0 : Int) < 2 ∧ (2 : Int) < 2 ^ 250), (by decide : (0 : Int) < 3), ?_⟩
      exact kk _ ⟨t / 2 % 3, by omega, rfl⟩
    · exact kk _ ⟨t, t0, rfl⟩
  rintro ρ ⟨m, m0, rfl⟩
  refine ⟨_, _, rfl, rfl, rfl, rfl, ?_⟩
  refine iteE (fun h => ⟨c18, by simp, hq (-(10 ^ 18) - (m + 1), a + r) (badP_t (.inl (by show -(10 ^ 18 : Int) - (m + 1) < -(10 ^ 18); omega)))⟩) (fun h => ?_)
  refine ⟨_, _, rfl, rfl, rfl, rfl, ?_⟩
  refine iteE (fun h => ⟨c18, by simp, hq (a + r, 10 ^ 18 + (m + 1)) (badP_t (.inr (.inl (by show (10 ^ 18 : Int) < 10 ^ 18 + (m + 1); omega))))⟩) (fun h => ?_)
  refine ⟨_, _, rfl, rfl, rfl, rfl, ?_⟩
  refine iteE (fun h => ⟨c18, c18, by simp, hq (-(10 ^ 18) - (m + 1), 10 ^ 18 + (m + 1)) (badP_t (.inl (by show -(10 ^ 18 : Int) - (m + 1) < -(10 ^ 18); omega)))⟩) (fun h => ?_)
  refine ⟨_, _, rfl, rfl, rfl, rfl, ?_⟩
  refine iteE (fun h => ⟨c18, c18, by simp, hq (10 ^ 18 + (m + 1), -(10 ^ 18) - (m + 1)) (badP_t (.inr (.inr (by show -(10 ^ 18 : Int) - (m + 1) < 10 ^ 18 + (m + 1); omega))))⟩) (fun h => ?_)
  exact ⟨by simp, hq (a + r + (m + 1), a + r) (badP_t (.inr (.inr (by show a + r < a + r + (m + 1); omega))))⟩
def sd__law_refused (kl : Kl) : Sd := fun as Q _ => ∃ (ps : List Pr) (d : Dt), as = [d] ∧ (d = .lst (ps.map prD) ∨ d = .tup (ps.map prD)) ∧ ps.length ≤ 90000 ∧ (∀ p, ps.find? badP = some p → Q (.lst [.v (.int p.1), .v (.int p.2), .v (.bl true), .v (.bl false)])) ∧ (ps.find? badP = none → Q (.lst []))
def d__law_refused (kl : Kl) : DS := (dSeq (dAsg (dLst dNil) (gdName 1))
  (dSeq (dTry (dDrop (dMake (sd_Stretches___init__ kl) (dCons (dVar 0) dNil)))
  ((exm_BadStretch kl, some 2, (fun a cls d => (dSeq (dAsg (dOrV (dCB (dIsX a cls d (.ref kl.BadText) (isx_BadText kl)) (dCons (dVar 2) (dCons (dC (.ref kl.BadText)) dNil))) (dOrV (dCB (dIsX a cls d (.ref kl.NoMember) (isx_NoMember kl)) (dCons (dVar 2) (dCons (dC (.ref kl.NoMember)) dNil))) (dCB (dIsX a cls d (.ref kl.BadStep) (isx_BadStep kl)) (dCons (dVar 2) (dCons (dC (.ref kl.BadStep)) dNil))))) (gdName 3))
  (dSeq (dAsg (dOrV (dVar 3) (dCB (dIsX a cls d (.ref kl.Contradiction) (isx_Contradiction kl)) (dCons (dVar 2) (dCons (dC (.ref kl.Contradiction)) dNil)))) (gdName 3))
  (dAsg (dLst (dCons (dXf a cls d kl.BadStretch "low" (dVar 2)) (dCons (dXf a cls d kl.BadStretch "high" (dVar 2)) (dCons (dAndV (dCB (dIsX a cls d (.ref kl.ReadError) (isx_ReadError kl)) (dCons (dVar 2) (dCons (dC (.ref kl.ReadError)) dNil))) (dCB (dIsX a cls d (.ty "ValueError") (isx_ValueError kl)) (dCons (dVar 2) (dCons (dC (.ty "ValueError")) dNil)))) (dCons (dVar 3) dNil))))) (gdName 1)))))) :: ((exm_ReadError kl, none, (fun a cls d => (dAsg (dLst dNil) (gdName 1)))) :: [])))
  (dRet (dVar 1))))
theorem len__law_refused (kl : Kl) : ∀ as Q E, sd__law_refused kl as Q E → as.length = 1 := by
  rintro _ _ _ ⟨_, _, rfl, _⟩
  rfl
theorem pure__law_refused (kl : Kl) : ∀ as Q E, sd__law_refused kl as Q E → d__law_refused kl (dEnds Q E) (startD 4 as) := by
  rintro as Q E ⟨ps, d, rfl, hd, hl, h1, h2⟩
  refine ⟨by simp, ?_⟩
  refine ⟨ps, d, rfl, hd, hl, fun p hp => ?_, fun hn qs _ _ _ => h2 hn⟩
  refine ⟨true, by simp [exm_BadStretch, badX], fun _ a' dd => ?_, fun h => nomatch h⟩
  refine ⟨_, _, false, rfl, rfl, by simp [isx_BadText, badX], ?_⟩
  refine ⟨_, _, false, rfl, rfl, by simp [isx_NoMember, badX], ?_⟩
  refine ⟨_, _, false, rfl, rfl, by simp [isx_BadStep, badX], ?_⟩
  refine ⟨_, _, false, rfl, rfl, by simp [isx_Contradiction, badX], ?_⟩
  refine ⟨_, _, rfl, rfl, rfl, ?_⟩
  refine ⟨_, _, rfl, rfl, rfl, ?_⟩
  refine ⟨_, _, true, rfl, rfl, by simp [isx_ReadError, badX], ?_⟩
  refine ⟨_, _, true, rfl, rfl, by simp [isx_ValueError, badX], ?_⟩
  exact ⟨by simp, h1 p hp⟩

def xcl (kl : Kl) : List Addr := [kl.BadStretch, kl.BadText, kl.NoMember, kl.BadStep, kl.BadPace, kl.Contradiction, kl.NoKey, kl.Impossible, kl.BadName, kl.UnknownName, kl.WrongRange, kl.TooMany, kl.NoAnswer, kl.NotServed, kl.Refused]
def oneAt (j : Nat) : Dt := .lst ((List.range 15).map fun i => .v (.bl (decide (i = j))))
def sd__law_classes (kl : Kl) : Sd := fun as Q _ => ∃ (j : Nat) (C : Addr) (gs : List (Str × Dt)), as = [.xv C gs] ∧ (xcl kl)[j]? = some C ∧ Q (oneAt j)
def d__law_classes (kl : Kl) : DS := (dSeq (dAsg (dLst (dCons (dCB (dIsV (.ref kl.BadStretch) (isx_BadStretch kl)) (dCons (dVar 0) (dCons (dC (.ref kl.BadStretch)) dNil))) (dCons (dCB (dIsV (.ref kl.BadText) (isx_BadText kl)) (dCons (dVar 0) (dCons (dC (.ref kl.BadText)) dNil))) (dCons (dCB (dIsV (.ref kl.NoMember) (isx_NoMember kl)) (dCons (dVar 0) (dCons (dC (.ref kl.NoMember)) dNil))) dNil)))) (gdName 1))
  (dSeq (dAsg (dOp dAdd (dVar 1) (dLst (dCons (dCB (dIsV (.ref kl.BadStep) (isx_BadStep kl)) (dCons (dVar 0) (dCons (dC (.ref kl.BadStep)) dNil))) (dCons (dCB (dIsV (.ref kl.BadPace) (isx_BadPace kl)) (dCons (dVar 0) (dCons (dC (.ref kl.BadPace)) dNil))) (dCons (dCB (dIsV (.ref kl.Contradiction) (isx_Contradiction kl)) (dCons (dVar 0) (dCons (dC (.ref kl.Contradiction)) dNil))) dNil))))) (gdName 1))
  (dSeq (dAsg (dOp dAdd (dVar 1) (dLst (dCons (dCB (dIsV (.ref kl.NoKey) (isx_NoKey kl)) (dCons (dVar 0) (dCons (dC (.ref kl.NoKey)) dNil))) (dCons (dCB (dIsV (.ref kl.Impossible) (isx_Impossible kl)) (dCons (dVar 0) (dCons (dC (.ref kl.Impossible)) dNil))) (dCons (dCB (dIsV (.ref kl.BadName) (isx_BadName kl)) (dCons (dVar 0) (dCons (dC (.ref kl.BadName)) dNil))) dNil))))) (gdName 1))
  (dSeq (dAsg (dOp dAdd (dVar 1) (dLst (dCons (dCB (dIsV (.ref kl.UnknownName) (isx_UnknownName kl)) (dCons (dVar 0) (dCons (dC (.ref kl.UnknownName)) dNil))) (dCons (dCB (dIsV (.ref kl.WrongRange) (isx_WrongRange kl)) (dCons (dVar 0) (dCons (dC (.ref kl.WrongRange)) dNil))) (dCons (dCB (dIsV (.ref kl.TooMany) (isx_TooMany kl)) (dCons (dVar 0) (dCons (dC (.ref kl.TooMany)) dNil))) dNil))))) (gdName 1))
  (dRetE (dOp dAdd (dVar 1) (dLst (dCons (dCB (dIsV (.ref kl.NoAnswer) (isx_NoAnswer kl)) (dCons (dVar 0) (dCons (dC (.ref kl.NoAnswer)) dNil))) (dCons (dCB (dIsV (.ref kl.NotServed) (isx_NotServed kl)) (dCons (dVar 0) (dCons (dC (.ref kl.NotServed)) dNil))) (dCons (dCB (dIsV (.ref kl.Refused) (isx_Refused kl)) (dCons (dVar 0) (dCons (dC (.ref kl.Refused)) dNil))) dNil))))))))))
theorem len__law_classes (kl : Kl) : ∀ as Q E, sd__law_classes kl as Q E → as.length = 1 := by
  rintro _ _ _ ⟨_, _, _, rfl, _⟩
  rfl
theorem nat15 {j : Nat} (h : j < 15) : j = 0 ∨ j = 1 ∨ j = 2 ∨ j = 3 ∨ j = 4 ∨ j = 5 ∨ j = 6 ∨ j = 7 ∨ j = 8 ∨ j = 9 ∨ j = 10 ∨ j = 11 ∨ j = 12 ∨ j = 13 ∨ j = 14 := by omega
theorem pure__law_classes (kl : Kl) : ∀ as Q E, sd__law_classes kl as Q E → d__law_classes kl (dEnds Q E) (startD 2 as) := by
  rintro as Q E ⟨j, C, gs, rfl, hC, hq⟩
  have hj := (List.getElem?_eq_some_iff.mp hC).1
  rcases nat15 hj with rfl | rfl | rfl | rfl | rfl | rfl | rfl | rfl | rfl | rfl | rfl | rfl | rfl | rfl | rfl
  · cases hC
    refine ⟨_, _, true, rfl, by simp [isx_BadStretch], ?_⟩
    refine ⟨_, _, false, rfl, by simp [isx_BadText], ?_⟩
    refine ⟨_, _, false, rfl, by simp [isx_NoMember], ?_⟩
    refine ⟨by simp, ?_⟩
    refine ⟨_, _, false, rfl, by simp [isx_BadStep], ?_⟩
    refine ⟨_, _, false, rfl, by simp [isx_BadPace], ?_⟩
    refine ⟨_, _, false, rfl, by simp [isx_Contradiction], ?_⟩
    refine ⟨by simp, ?_⟩
    refine ⟨by simp, ?_⟩
    refine ⟨_, _, false, rfl, by simp [isx_NoKey], ?_⟩
    refine ⟨_, _, false, rfl, by simp [isx_Impossible], ?_⟩
    refine ⟨_, _, false, rfl, by simp [isx_BadName], ?_⟩
    refine ⟨by simp, ?_⟩
    refine ⟨by simp, ?_⟩
    refine ⟨_, _, false, rfl, by simp [isx_UnknownName], ?_⟩
    refine ⟨_, _, false, rfl, by simp [isx_WrongRange], ?_⟩
    refine ⟨_, _, false, rfl, by simp [isx_TooMany], ?_⟩
    refine ⟨by simp, ?_⟩
    refine ⟨by simp, ?_⟩
    refine ⟨_, _, false, rfl, by simp [isx_NoAnswer], ?_⟩
    refine ⟨_, _, false, rfl, by simp [isx_NotServed], ?_⟩
    refine ⟨_, _, false, rfl, by simp [isx_Refused], ?_⟩
    refine ⟨by simp, ?_⟩
    refine ⟨by simp, ?_⟩
    exact hq
  · cases hC
    refine ⟨_, _, false, rfl, by simp [isx_BadStretch], ?_⟩
    refine ⟨_, _, true, rfl, by simp [isx_BadText], ?_⟩
    refine ⟨_, _, false, rfl, by simp [isx_NoMember], ?_⟩
    refine ⟨by simp, ?_⟩
    refine ⟨_, _, false, rfl, by simp [isx_BadStep], ?_⟩
    refine ⟨_, _, false, rfl, by simp [isx_BadPace], ?_⟩
    refine ⟨_, _, false, rfl, by simp [isx_Contradiction], ?_⟩
    refine ⟨by simp, ?_⟩
    refine ⟨by simp, ?_⟩
    refine ⟨_, _, false, rfl, by simp [isx_NoKey], ?_⟩
    refine ⟨_, _, false, rfl, by simp [isx_Impossible], ?_⟩
    refine ⟨_, _, false, rfl, by simp [isx_BadName], ?_⟩
    refine ⟨by simp, ?_⟩
    refine ⟨by simp, ?_⟩
    refine ⟨_, _, false, rfl, by simp [isx_UnknownName], ?_⟩
    refine ⟨_, _, false, rfl, by simp [isx_WrongRange], ?_⟩
    refine ⟨_, _, false, rfl, by simp [isx_TooMany], ?_⟩
    refine ⟨by simp, ?_⟩
    refine ⟨by simp, ?_⟩
    refine ⟨_, _, false, rfl, by simp [isx_NoAnswer], ?_⟩
    refine ⟨_, _, false, rfl, by simp [isx_NotServed], ?_⟩
    refine ⟨_, _, false, rfl, by simp [isx_Refused], ?_⟩
    refine ⟨by simp, ?_⟩
    refine ⟨by simp, ?_⟩
    exact hq
  · cases hC
    refine ⟨_, _, false, rfl, by simp [isx_BadStretch], ?_⟩
    refine ⟨_, _, false, rfl, by simp [isx_BadText], ?_⟩
    refine ⟨_, _, true, rfl, by simp [isx_NoMember], ?_⟩
    refine ⟨by simp, ?_⟩
    refine ⟨_, _, false, rfl, by simp [isx_BadStep], ?_⟩
    refine ⟨_, _, false, rfl, by simp [isx_BadPace], ?_⟩
    refine ⟨_, _, false, rfl, by simp [isx_Contradiction], ?_⟩
    refine ⟨by simp, ?_⟩
    refine ⟨by simp, ?_⟩
    refine ⟨_, _, false, rfl, by simp [isx_NoKey], ?_⟩
    refine ⟨_, _, false, rfl, by simp [isx_Impossible], ?_⟩
    refine ⟨_, _, false, rfl, by simp [isx_BadName], ?_⟩
    refine ⟨by simp, ?_⟩
    refine ⟨by simp, ?_⟩
    refine ⟨_, _, false, rfl, by simp [isx_UnknownName], ?_⟩
    refine ⟨_, _, false, rfl, by simp [isx_WrongRange], ?_⟩
    refine ⟨_, _, false, rfl, by simp [isx_TooMany], ?_⟩
    refine ⟨by simp, ?_⟩
    refine ⟨by simp, ?_⟩
    refine ⟨_, _, false, rfl, by simp [isx_NoAnswer], ?_⟩
    refine ⟨_, _, false, rfl, by simp [isx_NotServed], ?_⟩
    refine ⟨_, _, false, rfl, by simp [isx_Refused], ?_⟩
    refine ⟨by simp, ?_⟩
    refine ⟨by simp, ?_⟩
    exact hq
  · cases hC
    refine ⟨_, _, false, rfl, by simp [isx_BadStretch], ?_⟩
    refine ⟨_, _, false, rfl, by simp [isx_BadText], ?_⟩
    refine ⟨_, _, false, rfl, by simp [isx_NoMember], ?_⟩
    refine ⟨by simp, ?_⟩
    refine ⟨_, _, true, rfl, by simp [isx_BadStep], ?_⟩
    refine ⟨_, _, false, rfl, by simp [isx_BadPace], ?_⟩
    refine ⟨_, _, false, rfl, by simp [isx_Contradiction], ?_⟩
    refine ⟨by simp, ?_⟩
    refine ⟨by simp, ?_⟩
    refine ⟨_, _, false, rfl, by simp [isx_NoKey], ?_⟩
    refine ⟨_, _, false, rfl, by simp [isx_Impossible], ?_⟩
    refine ⟨_, _, false, rfl, by simp [isx_BadName], ?_⟩
    refine ⟨by simp, ?_⟩
    refine ⟨by simp, ?_⟩
    refine ⟨_, _, false, rfl, by simp [isx_UnknownName], ?_⟩
    refine ⟨_, _, false, rfl, by simp [isx_WrongRange], ?_⟩
    refine ⟨_, _, false, rfl, by simp [isx_TooMany], ?_⟩
    refine ⟨by simp, ?_⟩
    refine ⟨by simp, ?_⟩
    refine ⟨_, _, false, rfl, by simp [isx_NoAnswer], ?_⟩
    refine ⟨_, _, false, rfl, by simp [isx_NotServed], ?_⟩
    refine ⟨_, _, false, rfl, by simp [isx_Refused], ?_⟩
    refine ⟨by simp, ?_⟩
    refine ⟨by simp, ?_⟩
    exact hq
  · cases hC
    refine ⟨_, _, false, rfl, by simp [isx_BadStretch], ?_⟩
    refine ⟨_, _, false, rfl, by simp [isx_BadText], ?_⟩
    refine ⟨_, _, false, rfl, by simp [isx_NoMember], ?_⟩
    refine ⟨by simp, ?_⟩
    refine ⟨_, _, false, rfl, by simp [isx_BadStep], ?_⟩
    refine ⟨_, _, true, rfl, by simp [isx_BadPace], ?_⟩
    refine ⟨_, _, false, rfl, by simp [isx_Contradiction], ?_⟩
    refine ⟨by simp, ?_⟩
    refine ⟨by simp, ?_⟩
    refine ⟨_, _, false, rfl, by simp [isx_NoKey], ?_⟩
    refine ⟨_, _, false, rfl, by simp [isx_Impossible], ?_⟩
    refine ⟨_, _, false, rfl, by simp [isx_BadName], ?_⟩
    refine ⟨by simp, ?_⟩
    refine ⟨by simp, ?_⟩
    refine ⟨_, _, false, rfl, by simp [isx_UnknownName], ?_⟩
    refine ⟨_, _, false, rfl, by simp [isx_WrongRange], ?_⟩
    refine ⟨_, _, false, rfl, by simp [isx_TooMany], ?_⟩
    refine ⟨by simp, ?_⟩
    refine ⟨by simp, ?_⟩
    refine ⟨_, _, false, rfl, by simp [isx_NoAnswer], ?_⟩
    refine ⟨_, _, false, rfl, by simp [isx_NotServed], ?_⟩
    refine ⟨_, _, false, rfl, by simp [isx_Refused], ?_⟩
    refine ⟨by simp, ?_⟩
    refine ⟨by simp, ?_⟩
    exact hq
  · cases hC
    refine ⟨_, _, false, rfl, by simp [isx_BadStretch], ?_⟩
    refine ⟨_, _, false, rfl, by simp [isx_BadText], ?_⟩
    refine ⟨_, _, false, rfl, by simp [isx_NoMember], ?_⟩
    refine ⟨by simp, ?_⟩
    refine ⟨_, _, false, rfl, by simp [isx_BadStep], ?_⟩
    refine ⟨_, _, false, rfl, by simp [isx_BadPace], ?_⟩
    refine ⟨_, _, true, rfl, by simp [isx_Contradiction], ?_⟩
    refine ⟨by simp, ?_⟩
    refine ⟨by simp, ?_⟩
    refine ⟨_, _, false, rfl, by simp [isx_NoKey], ?_⟩
    refine ⟨_, _, false, rfl, by simp [isx_Impossible], ?_⟩
    refine ⟨_, _, false, rfl, by simp [isx_BadName], ?_⟩
    refine ⟨by simp, ?_⟩
    refine ⟨by simp, ?_⟩
    refine ⟨_, _, false, rfl, by simp [isx_UnknownName], ?_⟩
    refine ⟨_, _, false, rfl, by simp [isx_WrongRange], ?_⟩
    refine ⟨_, _, false, rfl, by simp [isx_TooMany], ?_⟩
    refine ⟨by simp, ?_⟩
    refine ⟨by simp, ?_⟩
    refine ⟨_, _, false, rfl, by simp [isx_NoAnswer], ?_⟩
    refine ⟨_, _, false, rfl, by simp [isx_NotServed], ?_⟩
    refine ⟨_, _, false, rfl, by simp [isx_Refused], ?_⟩
    refine ⟨by simp, ?_⟩
    refine ⟨by simp, ?_⟩
    exact hq
  · cases hC
    refine ⟨_, _, false, rfl, by simp [isx_BadStretch], ?_⟩
    refine ⟨_, _, false, rfl, by simp [isx_BadText], ?_⟩
    refine ⟨_, _, false, rfl, by simp [isx_NoMember], ?_⟩
    refine ⟨by simp, ?_⟩
    refine ⟨_, _, false, rfl, by simp [isx_BadStep], ?_⟩
    refine ⟨_, _, false, rfl, by simp [isx_BadPace], ?_⟩
    refine ⟨_, _, false, rfl, by simp [isx_Contradiction], ?_⟩
    refine ⟨by simp, ?_⟩
    refine ⟨by simp, ?_⟩
    refine ⟨_, _, true, rfl, by simp [isx_NoKey], ?_⟩
    refine ⟨_, _, false, rfl, by simp [isx_Impossible], ?_⟩
    refine ⟨_, _, false, rfl, by simp [isx_BadName], ?_⟩
    refine ⟨by simp, ?_⟩
    refine ⟨by simp, ?_⟩
    refine ⟨_, _, false, rfl, by simp [isx_UnknownName], ?_⟩
    refine ⟨_, _, false, rfl, by simp [isx_WrongRange], ?_⟩
    refine ⟨_, _, false, rfl, by simp [isx_TooMany], ?_⟩
    refine ⟨by simp, ?_⟩
    refine ⟨by simp, ?_⟩
    refine ⟨_, _, false, rfl, by simp [isx_NoAnswer], ?_⟩
    refine ⟨_, _, false, rfl, by simp [isx_NotServed], ?_⟩
    refine ⟨_, _, false, rfl, by simp [isx_Refused], ?_⟩
    refine ⟨by simp, ?_⟩
    refine ⟨by simp, ?_⟩
    exact hq
  · cases hC
    refine ⟨_, _, false, rfl, by simp [isx_BadStretch], ?_⟩
    refine ⟨_, _, false, rfl, by simp [isx_BadText], ?_⟩
    refine ⟨_, _, false, rfl, by simp [isx_NoMember], ?_⟩
    refine ⟨by simp, ?_⟩
    refine ⟨_, _, false, rfl, by simp [isx_BadStep], ?_⟩
    refine ⟨_, _, false, rfl, by simp [isx_BadPace], ?_⟩
    refine ⟨_, _, false, rfl, by simp [isx_Contradiction], ?_⟩
    refine ⟨by simp, ?_⟩
    refine ⟨by simp, ?_⟩
    refine ⟨_, _, false, rfl, by simp [isx_NoKey], ?_⟩
    refine ⟨_, _, true, rfl, by simp [isx_Impossible], ?_⟩
    refine ⟨_, _, false, rfl, by simp [isx_BadName], ?_⟩
    refine ⟨by simp, ?_⟩
    refine ⟨by simp, ?_⟩
    refine ⟨_, _, false, rfl, by simp [isx_UnknownName], ?_⟩
    refine ⟨_, _, false, rfl, by simp [isx_WrongRange], ?_⟩
    refine ⟨_, _, false, rfl, by simp [isx_TooMany], ?_⟩
    refine ⟨by simp, ?_⟩
    refine ⟨by simp, ?_⟩
    refine ⟨_, _, false, rfl, by simp [isx_NoAnswer], ?_⟩
    refine ⟨_, _, false, rfl, by simp [isx_NotServed], ?_⟩
    refine ⟨_, _, false, rfl, by simp [isx_Refused], ?_⟩
    refine ⟨by simp, ?_⟩
    refine ⟨by simp, ?_⟩
    exact hq
  · cases hC
    refine ⟨_, _, false, rfl, by simp [isx_BadStretch], ?_⟩
    refine ⟨_, _, false, rfl, by simp [isx_BadText], ?_⟩
    refine ⟨_, _, false, rfl, by simp [isx_NoMember], ?_⟩
    refine ⟨by simp, ?_⟩
    refine ⟨_, _, false, rfl, by simp [isx_BadStep], ?_⟩
    refine ⟨_, _, false, rfl, by simp [isx_BadPace], ?_⟩
    refine ⟨_, _, false, rfl, by simp [isx_Contradiction], ?_⟩
    refine ⟨by simp, ?_⟩
    refine ⟨by simp, ?_⟩
    refine ⟨_, _, false, rfl, by simp [isx_NoKey], ?_⟩
    refine ⟨_, _, false, rfl, by simp [isx_Impossible], ?_⟩
    refine ⟨_, _, true, rfl, by simp [isx_BadName], ?_⟩
    refine ⟨by simp, ?_⟩
    refine ⟨by simp, ?_⟩
    refine ⟨_, _, false, rfl, by simp [isx_UnknownName], ?_⟩
    refine ⟨_, _, false, rfl, by simp [isx_WrongRange], ?_⟩
    refine ⟨_, _, false, rfl, by simp [isx_TooMany], ?_⟩
    refine ⟨by simp, ?_⟩
    refine ⟨by simp, ?_⟩
    refine ⟨_, _, false, rfl, by simp [isx_NoAnswer], ?_⟩
    refine ⟨_, _, false, rfl, by simp [isx_NotServed], ?_⟩
    refine ⟨_, _, false, rfl, by simp [isx_Refused], ?_⟩
    refine ⟨by simp, ?_⟩
    refine ⟨by simp, ?_⟩
    exact hq
  · cases hC
    refine ⟨_, _, false, rfl, by simp [isx_BadStretch], ?_⟩
    refine ⟨_, _, false, rfl, by simp [isx_BadText], ?_⟩
    refine ⟨_, _, false, rfl, by simp [isx_NoMember], ?_⟩
    refine ⟨by simp, ?_⟩
    refine ⟨_, _, false, rfl, by simp [isx_BadStep], ?_⟩
    refine ⟨_, _, false, rfl, by simp [isx_BadPace], ?_⟩
    refine ⟨_, _, false, rfl, by simp [isx_Contradiction], ?_⟩
    refine ⟨by simp, ?_⟩
    refine ⟨by simp, ?_⟩
    refine ⟨_, _, false, rfl, by simp [isx_NoKey], ?_⟩
    refine ⟨_, _, false, rfl, by simp [isx_Impossible], ?_⟩
    refine ⟨_, _, false, rfl, by simp [isx_BadName], ?_⟩
    refine ⟨by simp, ?_⟩
    refine ⟨by simp, ?_⟩
    refine ⟨_, _, true, rfl, by simp [isx_UnknownName], ?_⟩
    refine ⟨_, _, false, rfl, by simp [isx_WrongRange], ?_⟩
    refine ⟨_, _, false, rfl, by simp [isx_TooMany], ?_⟩
    refine ⟨by simp, ?_⟩
    refine ⟨by simp, ?_⟩
    refine ⟨_, _, false, rfl, by simp [isx_NoAnswer], ?_⟩
    refine ⟨_, _, false, rfl, by simp [isx_NotServed], ?_⟩
    refine ⟨_, _, false, rfl, by simp [isx_Refused], ?_⟩
    refine ⟨by simp, ?_⟩
    refine ⟨by simp, ?_⟩
    exact hq
  · cases hC
    refine ⟨_, _, false, rfl, by simp [isx_BadStretch], ?_⟩
    refine ⟨_, _, false, rfl, by simp [isx_BadText], ?_⟩
    refine ⟨_, _, false, rfl, by simp [isx_NoMember], ?_⟩
    refine ⟨by simp, ?_⟩
    refine ⟨_, _, false, rfl, by simp [isx_BadStep], ?_⟩
    refine ⟨_, _, false, rfl, by simp [isx_BadPace], ?_⟩
    refine ⟨_, _, false, rfl, by simp [isx_Contradiction], ?_⟩
    refine ⟨by simp, ?_⟩
    refine ⟨by simp, ?_⟩
    refine ⟨_, _, false, rfl, by simp [isx_NoKey], ?_⟩
    refine ⟨_, _, false, rfl, by simp [isx_Impossible], ?_⟩
    refine ⟨_, _, false, rfl, by simp [isx_BadName], ?_⟩
    refine ⟨by simp, ?_⟩
    refine ⟨by simp, ?_⟩
    refine ⟨_, _, false, rfl, by simp [isx_UnknownName], ?_⟩
    refine ⟨_, _, true, rfl, by simp [isx_WrongRange], ?_⟩
    refine ⟨_, _, false, rfl, by simp [isx_TooMany], ?_⟩
    refine ⟨by simp, ?_⟩
    refine ⟨by simp, ?_⟩
    refine ⟨_, _, false, rfl, by simp [isx_NoAnswer], ?_⟩
    refine ⟨_, _, false, rfl, by simp [isx_NotServed], ?_⟩
    refine ⟨_, _, false, rfl, by simp [isx_Refused], ?_⟩
    refine ⟨by simp, ?_⟩
    refine ⟨by simp, ?_⟩
    exact hq
  · cases hC
    refine ⟨_, _, false, rfl, by simp [isx_BadStretch], ?_⟩
    refine ⟨_, _, false, rfl, by simp [isx_BadText], ?_⟩
    refine ⟨_, _, false, rfl, by simp [isx_NoMember], ?_⟩
    refine ⟨by simp, ?_⟩
    refine ⟨_, _, false, rfl, by simp [isx_BadStep], ?_⟩
    refine ⟨_, _, false, rfl, by simp [isx_BadPace], ?_⟩
    refine ⟨_, _, false, rfl, by simp [isx_Contradiction], ?_⟩
    refine ⟨by simp, ?_⟩
    refine ⟨by simp, ?_⟩
    refine ⟨_, _, false, rfl, by simp [isx_NoKey], ?_⟩
    refine ⟨_, _, false, rfl, by simp [isx_Impossible], ?_⟩
    refine ⟨_, _, false, rfl, by simp [isx_BadName], ?_⟩
    refine ⟨by simp, ?_⟩
    refine ⟨by simp, ?_⟩
    refine ⟨_, _, false, rfl, by simp [isx_UnknownName], ?_⟩
    refine ⟨_, _, false, rfl, by simp [isx_WrongRange], ?_⟩
    refine ⟨_, _, true, rfl, by simp [isx_TooMany], ?_⟩
    refine ⟨by simp, ?_⟩
    refine ⟨by simp, ?_⟩
    refine ⟨_, _, false, rfl, by simp [isx_NoAnswer], ?_⟩
    refine ⟨_, _, false, rfl, by simp [isx_NotServed], ?_⟩
    refine ⟨_, _, false, rfl, by simp [isx_Refused], ?_⟩
    refine ⟨by simp, ?_⟩
    refine ⟨by simp, ?_⟩
    exact hq
  · cases hC
    refine ⟨_, _, false, rfl, by simp [isx_BadStretch], ?_⟩
    refine ⟨_, _, false, rfl, by simp [isx_BadText], ?_⟩
    refine ⟨_, _, false, rfl, by simp [isx_NoMember], ?_⟩
    refine ⟨by simp, ?_⟩
    refine ⟨_, _, false, rfl, by simp [isx_BadStep], ?_⟩
    refine ⟨_, _, false, rfl, by simp [isx_BadPace], ?_⟩
    refine ⟨_, _, false, rfl, by simp [isx_Contradiction], ?_⟩
    refine ⟨by simp, ?_⟩
    refine ⟨by simp, ?_⟩
    refine ⟨_, _, false, rfl, by simp [isx_NoKey], ?_⟩
    refine ⟨_, _, false, rfl, by simp [isx_Impossible], ?_⟩
    refine ⟨_, _, false, rfl, by simp [isx_BadName], ?_⟩
    refine ⟨by simp, ?_⟩
    refine ⟨by simp, ?_⟩
    refine ⟨_, _, false, rfl, by simp [isx_UnknownName], ?_⟩
    refine ⟨_, _, false, rfl, by simp [isx_WrongRange], ?_⟩
    refine ⟨_, _, false, rfl, by simp [isx_TooMany], ?_⟩
    refine ⟨by simp, ?_⟩
    refine ⟨by simp, ?_⟩
    refine ⟨_, _, true, rfl, by simp [isx_NoAnswer], ?_⟩
    refine ⟨_, _, false, rfl, by simp [isx_NotServed], ?_⟩
    refine ⟨_, _, false, rfl, by simp [isx_Refused], ?_⟩
    refine ⟨by simp, ?_⟩
    refine ⟨by simp, ?_⟩
    exact hq
  · cases hC
    refine ⟨_, _, false, rfl, by simp [isx_BadStretch], ?_⟩
    refine ⟨_, _, false, rfl, by simp [isx_BadText], ?_⟩
    refine ⟨_, _, false, rfl, by simp [isx_NoMember], ?_⟩
    refine ⟨by simp, ?_⟩
    refine ⟨_, _, false, rfl, by simp [isx_BadStep], ?_⟩
    refine ⟨_, _, false, rfl, by simp [isx_BadPace], ?_⟩
    refine ⟨_, _, false, rfl, by simp [isx_Contradiction], ?_⟩
    refine ⟨by simp, ?_⟩
    refine ⟨by simp, ?_⟩
    refine ⟨_, _, false, rfl, by simp [isx_NoKey], ?_⟩
    refine ⟨_, _, false, rfl, by simp [isx_Impossible], ?_⟩
    refine ⟨_, _, false, rfl, by simp [isx_BadName], ?_⟩
    refine ⟨by simp, ?_⟩
    refine ⟨by simp, ?_⟩
    refine ⟨_, _, false, rfl, by simp [isx_UnknownName], ?_⟩
    refine ⟨_, _, false, rfl, by simp [isx_WrongRange], ?_⟩
    refine ⟨_, _, false, rfl, by simp [isx_TooMany], ?_⟩
    refine ⟨by simp, ?_⟩
    refine ⟨by simp, ?_⟩
    refine ⟨_, _, false, rfl, by simp [isx_NoAnswer], ?_⟩
    refine ⟨_, _, true, rfl, by simp [isx_NotServed], ?_⟩
    refine ⟨_, _, false, rfl, by simp [isx_Refused], ?_⟩
    refine ⟨by simp, ?_⟩
    refine ⟨by simp, ?_⟩
    exact hq
  · cases hC
    refine ⟨_, _, false, rfl, by simp [isx_BadStretch], ?_⟩
    refine ⟨_, _, false, rfl, by simp [isx_BadText], ?_⟩
    refine ⟨_, _, false, rfl, by simp [isx_NoMember], ?_⟩
    refine ⟨by simp, ?_⟩
    refine ⟨_, _, false, rfl, by simp [isx_BadStep], ?_⟩
    refine ⟨_, _, false, rfl, by simp [isx_BadPace], ?_⟩
    refine ⟨_, _, false, rfl, by simp [isx_Contradiction], ?_⟩
    refine ⟨by simp, ?_⟩
    refine ⟨by simp, ?_⟩
    refine ⟨_, _, false, rfl, by simp [isx_NoKey], ?_⟩
    refine ⟨_, _, false, rfl, by simp [isx_Impossible], ?_⟩
    refine ⟨_, _, false, rfl, by simp [isx_BadName], ?_⟩
    refine ⟨by simp, ?_⟩
    refine ⟨by simp, ?_⟩
    refine ⟨_, _, false, rfl, by simp [isx_UnknownName], ?_⟩
    refine ⟨_, _, false, rfl, by simp [isx_WrongRange], ?_⟩
    refine ⟨_, _, false, rfl, by simp [isx_TooMany], ?_⟩
    refine ⟨by simp, ?_⟩
    refine ⟨by simp, ?_⟩
    refine ⟨_, _, false, rfl, by simp [isx_NoAnswer], ?_⟩
    refine ⟨_, _, false, rfl, by simp [isx_NotServed], ?_⟩
    refine ⟨_, _, true, rfl, by simp [isx_Refused], ?_⟩
    refine ⟨by simp, ?_⟩
    refine ⟨by simp, ?_⟩
    exact hq


def sd__law_family (kl : Kl) : Sd := fun as Q _ => ∃ (x y : Int) (w : Str), as = [.v (.int x), .v (.int y), .v (.str w)] ∧ okD 59 (.v (.str w)) = true ∧ Q (.v (.bl true))
def d__law_family (kl : Kl) : DS := (dSeq (dAsg (dLst (dCons (dMakeXv kl.BadStretch ["low", "high"] (dCons (dVar 0) (dCons (dVar 1) dNil))) (dCons (dMakeXv kl.BadText ["text"] (dCons (dVar 2) dNil)) (dCons (dMakeXv kl.NoMember ["index"] (dCons (dVar 0) dNil)) (dCons (dMakeXv kl.BadStep ["number"] (dCons (dVar 0) dNil)) (dCons (dMakeXv kl.BadPace ["slowest", "fastest"] (dCons (dC .non) (dCons (dVar 1) dNil))) (dCons (dMakeXv0 kl.Contradiction) dNil))))))) (gdName 3))
  (dSeq (dAsg (dOp dAdd (dVar 3) (dLst (dCons (dMakeXv kl.NoKey ["key"] (dCons (dVar 0) dNil)) (dCons (dMakeXv kl.Impossible ["key", "value"] (dCons (dVar 0) (dCons (dVar 1) dNil))) (dCons (dMakeXv kl.BadName ["name"] (dCons (dVar 2) dNil)) (dCons (dMakeXv kl.UnknownName ["name"] (dCons (dVar 2) dNil)) (dCons (dMakeXv kl.WrongRange ["first", "last"] (dCons (dVar 0) (dCons (dVar 1) dNil))) dNil))))))) (gdName 3))
  (dSeq (dAsg (dOp dAdd (dVar 3) (dLst (dCons (dMakeXv kl.TooMany ["limit"] (dCons (dVar 0) dNil)) (dCons (dMakeXv kl.NoAnswer ["name", "key"] (dCons (dVar 2) (dCons (dVar 1) dNil))) (dCons (dMakeXv kl.NotServed ["wanted"] (dCons (dVar 0) dNil)) (dCons (dMakeXv kl.Refused ["name"] (dCons (dVar 2) dNil)) dNil)))))) (gdName 3))
  (dSeq (dFor (iR1 (dCons (dC (.int 15)) dNil)) (gdName 4)
  (dSeq (dIfS (dOr (dNot (dTru (dCB (dIsV (.ref kl.ReadError) (isx_ReadError kl)) (dCons (dOp dIx (dVar 3) (dVar 4)) (dCons (dC (.ref kl.ReadError)) dNil))))) (dNot (dTru (dCB (dIsV (.ty "ValueError") (isx_ValueError kl)) (dCons (dOp dIx (dVar 3) (dVar 4)) (dCons (dC (.ty "ValueError")) dNil))))))
  (dRetE (dC (.bl false)))
  dNext)
  (dIfS (dTest (dOp dNe (dCall (sd__law_classes kl) [] (dCons (dOp dIx (dVar 3) (dVar 4)) dNil)) (dLc (iR1 (dCons (dC (.int 15)) dNil)) (gdName 7) dYes (dOp dEq (dVar 7) (dVar 4)) [7])))
  (dRetE (dC (.bl false)))
  dNext)))
  (dSeq (dAsg (dLst (dCons (dXv kl.BadStretch "low" (dOp dIx (dVar 3) (dC (.int 0)))) (dCons (dXv kl.BadStretch "high" (dOp dIx (dVar 3) (dC (.int 0)))) (dCons (dXv kl.BadText "text" (dOp dIx (dVar 3) (dC (.int 1)))) (dCons (dXv kl.NoMember "index" (dOp dIx (dVar 3) (dC (.int 2)))) (dCons (dXv kl.BadStep "number" (dOp dIx (dVar 3) (dC (.int 3)))) (dCons (dXv kl.BadPace "slowest" (dOp dIx (dVar 3) (dC (.int 4)))) dNil))))))) (gdName 5))
  (dSeq (dAsg (dOp dAdd (dVar 5) (dLst (dCons (dXv kl.BadPace "fastest" (dOp dIx (dVar 3) (dC (.int 4)))) (dCons (dXv kl.NoKey "key" (dOp dIx (dVar 3) (dC (.int 6)))) (dCons (dXv kl.Impossible "key" (dOp dIx (dVar 3) (dC (.int 7)))) (dCons (dXv kl.Impossible "value" (dOp dIx (dVar 3) (dC (.int 7)))) (dCons (dXv kl.BadName "name" (dOp dIx (dVar 3) (dC (.int 8)))) (dCons (dXv kl.UnknownName "name" (dOp dIx (dVar 3) (dC (.int 9)))) dNil)))))))) (gdName 5))
  (dSeq (dAsg (dOp dAdd (dVar 5) (dLst (dCons (dXv kl.WrongRange "first" (dOp dIx (dVar 3) (dC (.int 10)))) (dCons (dXv kl.WrongRange "last" (dOp dIx (dVar 3) (dC (.int 10)))) (dCons (dXv kl.TooMany "limit" (dOp dIx (dVar 3) (dC (.int 11)))) (dCons (dXv kl.NoAnswer "name" (dOp dIx (dVar 3) (dC (.int 12)))) (dCons (dXv kl.NoAnswer "key" (dOp dIx (dVar 3) (dC (.int 12)))) dNil))))))) (gdName 5))
  (dSeq (dAsg (dOp dAdd (dVar 5) (dLst (dCons (dXv kl.NotServed "wanted" (dOp dIx (dVar 3) (dC (.int 13)))) (dCons (dXv kl.Refused "name" (dOp dIx (dVar 3) (dC (.int 14)))) dNil)))) (gdName 5))
  (dSeq (dAsg (dLst (dCons (dVar 0) (dCons (dVar 1) (dCons (dVar 2) (dCons (dVar 0) (dCons (dVar 0) (dCons (dC .non) (dCons (dVar 1) (dCons (dVar 0) (dCons (dVar 0) (dCons (dVar 1) (dCons (dVar 2) (dCons (dVar 2) (dCons (dVar 0) (dCons (dVar 1) (dCons (dVar 0) (dCons (dVar 2) (dCons (dVar 1) (dCons (dVar 0) (dCons (dVar 2) dNil)))))))))))))))))))) (gdName 6))
  (dRetE (dOp dEq (dVar 5) (dVar 6))))))))))))
theorem len__law_family (kl : Kl) : ∀ as Q E, sd__law_family kl as Q E → as.length = 3 := by
  rintro _ _ _ ⟨_, _, _, rfl, _⟩
  rfl
def thingsD (kl : Kl) (x y : Int) (w : Str) : List Dt := [.xv kl.BadStretch [("high", .v (.int y)), ("low", .v (.int x))], .xv kl.BadText [("text", .v (.str w))], .xv kl.NoMember [("index", .v (.int x))], .xv kl.BadStep [("number", .v (.int x))], .xv kl.BadPace [("fastest", .v (.int y)), ("slowest", .v .non)], .xv kl.Contradiction [], .xv kl.NoKey [("key", .v (.int x))], .xv kl.Impossible [("value", .v (.int y)), ("key", .v (.int x))], .xv kl.BadName [("name", .v (.str w))], .xv kl.UnknownName [("name", .v (.str w))], .xv kl.WrongRange [("last", .v (.int y)), ("first", .v (.int x))], .xv kl.TooMany [("limit", .v (.int x))], .xv kl.NoAnswer [("key", .v (.int y)), ("name", .v (.str w))], .xv kl.NotServed [("wanted", .v (.int x))], .xv kl.Refused [("name", .v (.str w))]]
theorem thing_at (kl : Kl) (x y : Int) (w : Str) {j : Nat} (h : j < 15) : ∃ C gs, atI (thingsD kl x y w) (0 + (j : Int)) = some (.xv C gs) ∧ (xcl kl)[j]? = some C ∧ (C, true) ∈ isx_ReadError kl ∧ (C, true) ∈ isx_ValueError kl := by
  rcases nat15 h with rfl | rfl | rfl | rfl | rfl | rfl | rfl | rfl | rfl | rfl | rfl | rfl | rfl | rfl | rfl
  · exact ⟨kl.BadStretch, _, rfl, rfl, by simp [isx_ReadError], by simp [isx_ValueError]⟩
  · exact ⟨kl.BadText, _, rfl, rfl, by simp [isx_ReadError], by simp [isx_ValueError]⟩
  · exact ⟨kl.NoMember, _, rfl, rfl, by simp [isx_ReadError], by simp [isx_ValueError]⟩
  · exact ⟨kl.BadStep, _, rfl, rfl, by simp [isx_ReadError], by simp [isx_ValueError]⟩
  · exact ⟨kl.BadPace, _, rfl, rfl, by simp [isx_ReadError], by simp [isx_ValueError]⟩
  · exact ⟨kl.Contradiction, _, rfl, rfl, by simp [isx_ReadError], by simp [isx_ValueError]⟩
  · exact ⟨kl.NoKey, _, rfl, rfl, by simp [isx_ReadError], by simp [isx_ValueError]⟩
  · exact ⟨kl.Impossible, _, rfl, rfl, by simp [isx_ReadError], by simp [isx_ValueError]⟩
  · exact ⟨kl.BadName, _, rfl, rfl, by simp [isx_ReadError], by simp [isx_ValueError]⟩
  · exact ⟨kl.UnknownName, _, rfl, rfl, by simp [isx_ReadError], by simp [isx_ValueError]⟩
  · exact ⟨kl.WrongRange, _, rfl, rfl, by simp [isx_ReadError], by simp [isx_ValueError]⟩
  · exact ⟨kl.TooMany, _, rfl, rfl, by simp [isx_ReadError], by simp [isx_ValueError]⟩
  · exact ⟨kl.NoAnswer, _, rfl, rfl, by simp [isx_ReadError], by simp [isx_ValueError]⟩
  · exact ⟨kl.NotServed, _, rfl, rfl, by simp [isx_ReadError], by simp [isx_ValueError]⟩
  · exact ⟨kl.Refused, _, rfl, rfl, by simp [isx_ReadError], by simp [isx_ValueError]⟩
theorem pure__law_family (kl : Kl) : ∀ as Q E, sd__law_family kl as Q E → d__law_family kl (dEnds Q E) (startD 8 as) := by
  rintro as Q E ⟨x, y, w, rfl, ow, hq⟩
  refine ⟨rfl, rfl, rfl, rfl, rfl, by simp, ?_⟩
  refine ⟨rfl, rfl, rfl, rfl, rfl, by simp, ?_⟩
  refine ⟨by simp, ?_⟩
  refine ⟨rfl, rfl, rfl, rfl, by simp, ?_⟩
  refine ⟨by simp, ?_⟩
  refine ⟨by decide, by decide, ?_⟩
  refine for_rng (fun i ρ => ∃ s4 : Sl, ρ = [.int x, .int y, .dat (.v (.str w)), .dat (.lst (thingsD kl x y w)), s4, .emp, .emp, .emp]) ⟨_, rfl⟩ ?_ ?_
  · rintro i ρ hi ⟨s4, rfl⟩
    have hi : i < 15 := hi
    obtain ⟨C, gs, e, hC, r1, r2⟩ := thing_at kl x y w hi
    refine ⟨_, e, ?_⟩
    refine ⟨_, _, true, rfl, r1, ?_⟩
    refine ⟨_, e, ?_⟩
    refine ⟨_, _, true, rfl, r2, ?_⟩
    refine ⟨_, e, i, C, gs, rfl, hC, ?_⟩
    refine ⟨by decide, by decide, ?_⟩
    refine lc_rng (fun n => .v (.bl (decide (n = i)))) (by decide) (fun n hn R hR => ?_) ?_
    · refine ⟨_, _, rfl, rfl, rfl, rfl, ?_⟩
      rw [eqv_ii]
      have e2 : decide ((0 + (n : Int)) = 0 + (i : Int)) = decide (n = i) := by
        rw [Bool.eq_iff_iff, decide_eq_true_iff, decide_eq_true_iff]
        omega
      rw [e2]
      exact hR
    refine dNe_self (d := oneAt i) (by rfl) ?_
    exact ⟨_, rfl⟩
  rintro ρ ⟨s4, rfl⟩
  refine ⟨_, rfl, _, _, rfl, rfl, _, rfl, _, _, rfl, rfl, _, rfl, _, _, rfl, rfl, _, rfl, _, _, rfl, rfl, _, rfl, _, _, rfl, rfl, _, rfl, _, _, rfl, rfl, by simp, ?_⟩
  refine ⟨_, rfl, _, _, rfl, rfl, _, rfl, _, _, rfl, rfl, _, rfl, _, _, rfl, rfl, _, rfl, _, _, rfl, rfl, _, rfl, _, _, rfl, rfl, _, rfl, _, _, rfl, rfl, by simp, ?_⟩
  refine ⟨by simp, ?_⟩
  refine ⟨_, rfl, _, _, rfl, rfl, _, rfl, _, _, rfl, rfl, _, rfl, _, _, rfl, rfl, _, rfl, _, _, rfl, rfl, _, rfl, _, _, rfl, rfl, by simp, ?_⟩
  refine ⟨by simp, ?_⟩
  refine ⟨_, rfl, _, _, rfl, rfl, _, rfl, _, _, rfl, rfl, by simp, ?_⟩
  refine ⟨by simp, ?_⟩
  refine ⟨by simp, ?_⟩
  refine dEq_self (d := .lst [.v (.int x), .v (.int y), .v (.str w), .v (.int x), .v (.int x), .v .non, .v (.int y), .v (.int x), .v (.int x), .v (.int y), .v (.str w), .v (.str w), .v (.int x), .v (.int y), .v (.int x), .v (.str w), .v (.int y), .v (.int x), .v (.str w)]) (by show List.all _ (okD 59) = true; simp only [List.all_cons, List.all_nil, ow, Bool.and_true]; rfl) ?_
  exact hq


def d_law (kl : Kl) : DS := (dSeq (dAsg (dCall sd__law_zone [] (dCons (dVar 1) dNil)) (gdName 2))
  (dSeq (dAsg (dCall sd__law_pairs [] (dCons (dVar 1) (dCons (dVar 2) (dCons (dC (.int 8)) dNil)))) (gdName 3))
  (dSeq (dSetF 4 (fList (dVar 3)))
  (dSeq (dFor (iR1 (dCons (dOp dAdd (dC (.int 1)) (dCall sd__law_next [] (dCons (dVar 1) (dCons (dC (.int 2)) dNil)))) dNil)) (gdName 5)
  (dSeq (dAsg (dCall sd__law_next [] (dCons (dVar 1) (dCons (dOp dAdd (dCB dLen (dCons (dVar 4) dNil)) (dC (.int 1))) dNil))) (gdName 6))
  (dIns 4 (dVar 6) (dCall sd__law_spoilt [] (dCons (dVar 1) (dCons (dVar 2) dNil))))))
  (dSeq (dAsg (dC .non) (gdName 7))
  (dFrz 4 (dSeq (dFor (iSeq (dVar 4)) (gdSq 2 (gdCons (gdName 8) (gdCons (gdName 9) gdNil)))
  (dIfS (dAnd (dTest (dOp dIsN (dVar 7) (dC .non))) (dOr (dTest (dOp dLt (dVar 8) (dUn dNeg (dOp dPow (dC (.int 10)) (dC (.int 18)))))) (dOr (dTest (dOp dGt (dVar 9) (dOp dPow (dC (.int 10)) (dC (.int 18))))) (dTest (dOp dGt (dVar 8) (dVar 9))))))
  (dAsg (dTup (dCons (dVar 8) (dCons (dVar 9) dNil))) (gdName 7))
  dNext))
  (dSeq (dAsg (dCB dListOf (dCons (dVar 4) dNil)) (gdName 10))
  (dSeq (dIfS (dTest (dOp dEq (dCall sd__law_next [] (dCons (dVar 1) (dCons (dC (.int 2)) dNil))) (dC (.int 1))))
  (dAsg (dCB dTupleOf (dCons (dVar 4) dNil)) (gdName 10))
  dNext)
  (dSeq (dAsg (dCall (sd__law_refused kl) [] (dCons (dVar 10) dNil)) (gdName 11))
  (dSeq (dIfS (dOr (dTest (dOp dNe (dCB dLen (dCons (dVar 11) dNil)) (dC (.int 4)))) (dOr (dNot (dTru (dCall sd__law_is_int [] (dCons (dOp dIx (dVar 11) (dC (.int 0))) dNil)))) (dNot (dTru (dCall sd__law_is_int [] (dCons (dOp dIx (dVar 11) (dC (.int 1))) dNil))))))
  (dRetE (dC (.bl false)))
  dNext)
  (dSeq (dIfS (dOr (dTest (dOp dNe (dVar 11) (dLst (dCons (dOp dIx (dVar 7) (dC (.int 0))) (dCons (dOp dIx (dVar 7) (dC (.int 1))) (dCons (dC (.bl true)) (dCons (dC (.bl false)) dNil))))))) (dTest (dOp dNe (dCB dListOf (dCons (dVar 10) dNil)) (dVar 4))))
  (dRetE (dC (.bl false)))
  dNext)
  (dSeq (dAsg (dMake (sd_Stretches___init__ kl) (dCons (dCB dListOf (dCons (dVar 3) dNil)) dNil)) (gdName 12))
  (dSeq (dFor (iSeq (dVar 3)) (gdSq 2 (gdCons (gdName 8) (gdCons (gdName 9) gdNil)))
  (dIfS (dOr (dTest (dOp (dNiS kl.Stretches (sd_Stretches___contains__ kl) dNotIn) (dVar 8) (dVar 12))) (dTest (dOp (dNiS kl.Stretches (sd_Stretches___contains__ kl) dNotIn) (dVar 9) (dVar 12))))
  (dRetE (dC (.bl false)))
  dNext))
  (dSeq (dAsg (dOp dSub (dC (.int 3)) (dCall sd__law_next [] (dCons (dVar 1) (dCons (dOp dPow (dC (.int 10)) (dC (.int 19))) dNil)))) (gdName 13))
  (dSeq (dAsg (dOp dAdd (dC (.int 5)) (dCall sd__law_next [] (dCons (dVar 1) (dCons (dOp dPow (dC (.int 10)) (dC (.int 19))) dNil)))) (gdName 14))
  (dSeq (dIfS (dNot (dTru (dCall (sd__law_family kl) [] (dCons (dVar 13) (dCons (dVar 14) (dCons (dOp dIx (dLst (dCons (dC (.str (PySem.Str.ofString "price"))) (dCons (dC (.str (PySem.Str.ofString "a"))) (dCons (dC (.str (PySem.Str.ofString "stock"))) dNil)))) (dCall sd__law_next [] (dCons (dVar 1) (dCons (dC (.int 3)) dNil)))) dNil))))))
  (dRetE (dC (.bl false)))
  dNext)
  (dRetE (dOp dEq (dCall (sd__law_refused kl) [] (dCons (dVar 3) dNil)) (dLst dNil))))))))))))))))))))
theorem plain4 {a b c d : Dt} {Q : List Dt → Prop} (h : Q [a, b, c, d]) : DW.plain [.dat a, .dat b, .dat c, .dat d] Q := h
theorem find_add {rs : List Pr} {p : Pr} (k : Nat) (h : badP p = true) : (rs.take k ++ [p] ++ rs.drop k).find? badP ≠ none := by
  intro e
  have := List.find?_eq_none.mp e p (List.mem_append_left _ (List.mem_append_right _ (List.mem_singleton.mpr rfl)))
  exact this h
theorem asgList {i j : Nat} {ds : List Dt} {u : DS} {D : DEnds} {ρ : En} (h : ρ.getD j .emp = .dat (.lst ds)) (q : u D (ρ.set i (.dat (.lst ds)))) : dSeq (dAsg (dCB dListOf (dCons (dVar j) dNil)) (gdName i)) u D ρ := by
  show dVar j ρ _ (fun x => D.ex x ρ)
  exact dVar_ap h q
def dueD : Option Pr → Dt
  | none => .v .non
  | some p => prD p
theorem pure_law (kl : Kl) : ∀ ns : List Int, ns.length ≤ 63 → d_law kl (dEnds isTrue fun _ => False) (lawEn 15 ns) := by
  intro ns _
  have e0 : lawEn 15 ns = [.emp, .dat .drw, .emp, .emp, .emp, .emp, .emp, .emp, .emp, .emp, .emp, .emp, .emp, .emp, .emp] := rfl
  rw [e0]
  clear e0
  refine ⟨rfl, fun a b ha hab hb => ?_⟩
  refine ⟨a, b, 8, rfl, ha, by omega, hb, by decide, by decide, fun good gg gl => ?_⟩
  refine ⟨_, rfl, ?_⟩
  refine ⟨2, rfl, by decide, fun n n0 n1 => ?_⟩
  refine ⟨by omega, by omega, ?_⟩
  refine for_rng (fun i ρ => ∃ (rs : List Pr) (L : List Dt) (s5 s6 : Sl), ρ = [.emp, .dat .drw, .dat (.tup [.v (.int a), .v (.int b)]), .dat (.lst (good.map prD)), .own L, s5, s6, .emp, .emp, .emp, .emp, .emp, .emp, .emp, .emp] ∧ L = rs.map prD ∧ rs.length ≤ 9 + i ∧ (1 ≤ i → rs.find? badP ≠ none)) ⟨good, _, _, _, rfl, rfl, by omega, fun h => absurd h (by decide)⟩ ?_ ?_
  · rintro i ρ hi ⟨rs, _, s5, s6, rfl, rfl, lr, _⟩
    have hi2 : i < 2 := by omega
    refine ⟨((rs.map prD).length : Int) + 1, rfl, by omega, fun k k0 k1 => ?_⟩
    rw [List.length_map] at k1
    refine ⟨a, b, rfl, ha, by omega, hb, fun p hp => ?_⟩
    refine ⟨k, prD p, rfl, rfl, k0, by omega, by simp; omega, ?_⟩
    refine ⟨rs.take k.toNat ++ [p] ++ rs.drop k.toNat, _, _, _, rfl, ?_, ?_, fun _ => find_add _ hp⟩
    · simp [List.map_take, List.map_drop]
    · simp only [List.length_append, List.length_take, List.length_drop, List.length_cons, List.length_nil]
      omega
  rintro ρ ⟨rs, _, s5, s6, rfl, rfl, lr, bad⟩
  have bad : rs.find? badP ≠ none := bad (by omega)
  have lr : rs.length ≤ 11 := by omega
  clear n0 n1
  refine nxN ?_
  refine for_inv (fun i ρ => ∃ (s8 s9 : Sl), ρ = [.emp, .dat .drw, .dat (.tup [.v (.int a), .v (.int b)]), .dat (.lst (good.map prD)), .dat (.lst (rs.map prD)), s5, s6, .dat (dueD ((rs.take i).find? badP)), s8, s9, .emp, .emp, .emp, .emp, .emp]) ⟨_, _, rfl⟩ ?_ ?_
  · rintro i x ρ hx ⟨s8, s9, rfl⟩
    obtain ⟨p, hp, rfl⟩ := get_map hx
    refine ⟨rfl, rfl, ?_⟩
    rw [take_next hp, List.find?_append]
    cases e : (rs.take i).find? badP with
    | some q => exact ⟨rfl, _, rfl, _, _, rfl⟩
    | none =>
      refine ⟨rfl, _, rfl, ?_⟩
      have yes : badP p = true → (none : Option Pr).or ([p].find? badP) = some p := fun h => by
        rw [List.find?_cons, h]
        rfl
      have no : badP p = false → (none : Option Pr).or ([p].find? badP) = none := fun h => by
        rw [List.find?_cons, h]
        rfl
      refine ⟨c18, ?_⟩
      refine iteD (fun h => ?_) (fun h1 => ?_)
      · rw [yes (badP_t (.inl h))]
        exact ⟨by simp, _, _, rfl⟩
      refine ⟨c18, ?_⟩
      refine iteD (fun h => ?_) (fun h2 => ?_)
      · rw [yes (badP_t (.inr (.inl h)))]
        exact ⟨by simp, _, _, rfl⟩
      refine iteD (fun h => ?_) (fun h3 => ?_)
      · rw [yes (badP_t (.inr (.inr h)))]
        exact ⟨by simp, _, _, rfl⟩
      rw [no (decide_eq_false fun z => z.elim h1 fun z => z.elim h2 h3)]
      exact ⟨_, _, rfl⟩
  rintro ρ ⟨s8, s9, rfl⟩
  rw [List.length_map, List.take_length]
  cases ed : rs.find? badP with
  | none => exact absurd ed bad
  | some q =>
  refine nxN (asgList (by rfl) ?_)
  refine if_cut (fun ρ => ∃ d, (d = .lst (rs.map prD) ∨ d = .tup (rs.map prD)) ∧ ρ = [.emp, .dat .drw, .dat (.tup [.v (.int a), .v (.int b)]), .dat (.lst (good.map prD)), .dat (.lst (rs.map prD)), s5, s6, .dat (prD q), s8, s9, .dat d, .emp, .emp, .emp, .emp]) (fun K kk => ?_) ?_
  · refine ⟨2, rfl, by decide, fun n n0 n1 => ?_⟩
    refine ⟨_, _, rfl, rfl, rfl, rfl, ?_⟩
    exact iteE (fun h => kk _ ⟨_, .inr rfl, rfl⟩) (fun h => kk _ ⟨_, .inl rfl, rfl⟩)
  rintro ρ ⟨d, hd, rfl⟩
  refine ⟨rs, d, rfl, hd, by omega, fun p hp => ?_, fun z => by rw [ed] at z; cases z⟩
  rw [ed] at hp
  cases hp
  refine gdN (nxN ?_)
  refine ⟨.int 4, .int 4, rfl, rfl, rfl, rfl, ?_⟩
  have e4 : PyData.eqv (.int 4) (.int 4) = true := by
    rw [eqv_ii]
    rfl
  rw [e4]
  refine ⟨_, rfl, q.1, rfl, ?_⟩
  refine ⟨_, rfl, q.2, rfl, ?_⟩
  refine ⟨_, at2a, _, at2b, by simp, ?_⟩
  refine plain4 ?_
  refine dNe_self (d := .lst [.v (.int q.1), .v (.int q.2), .v (.bl true), .v (.bl false)]) (by rfl) ?_
  have ll : ((good.length : Nat) : Int) ≤ 8 + 1 := gl
  rcases hd with rfl | rfl
  all_goals
    refine ⟨.list (rs.map prY), .list (rs.map prY), pyL2 rs, pyL2 rs, okS (okL2 rs) (pyL2 rs), okS (okL2 rs) (pyL2 rs), ?_⟩
    rw [lst_eqv, decide_eq_true rfl]
    refine ⟨good, _, rfl, .inl rfl, by omega, fun p h => no_bad gg p h, fun _ s hs es ls => ?_⟩
    refine gdN (nxN ?_)
    refine for_inv (fun i ρ => ∃ (s8 s9 s10 s11 : Sl), ρ = [.emp, .dat .drw, .dat (.tup [.v (.int a), .v (.int b)]), .dat (.lst (good.map prD)), .dat (.lst (rs.map prD)), s5, s6, .dat (prD q), s8, s9, s10, s11, .dat (stD kl s), .emp, .emp]) ⟨_, _, _, _, rfl⟩ ?_ ?_
    · rintro i x ρ hx ⟨s8, s9, s10, s11, rfl⟩
      obtain ⟨p, hp, rfl⟩ := get_map hx
      have mp := List.mem_of_getElem? hp
      have le : p.1 ≤ p.2 := gg.1 p mp
      have b1 : hasB s p.1 = true := hasB_iff.mpr ((es _).mpr ⟨p, mp, Int.le_refl _, le⟩)
      have b2 : hasB s p.2 = true := hasB_iff.mpr ((es _).mpr ⟨p, mp, le, Int.le_refl _⟩)
      refine ⟨rfl, rfl, ?_⟩
      refine ⟨rfl, _, rfl, s, p.1, rfl, _, rfl, ?_⟩
      rw [b1]
      refine ⟨rfl, _, rfl, s, p.2, rfl, _, rfl, ?_⟩
      rw [b2]
      exact ⟨_, _, _, _, rfl⟩
    rintro ρ ⟨s8, s9, s10, s11, rfl⟩
    refine ⟨c19, _, rfl, by decide, fun m m0 m1 => ?_⟩
    refine ⟨c19, _, rfl, by decide, fun m' m0' m1' => ?_⟩
    refine ⟨by simp, ?_⟩
    refine ⟨3, rfl, by decide, fun j j0 j1 => ?_⟩
    have hj : j = 0 ∨ j = 1 ∨ j = 2 := by omega
    rcases hj with rfl | rfl | rfl
    all_goals
      refine ⟨_, rfl, _, _, _, rfl, by decide +kernel, ?_⟩
      refine ⟨good, _, rfl, .inl rfl, by omega, fun p h => no_bad gg p h, fun _ => ?_⟩
      refine ⟨by simp, ?_⟩
      refine dEq_self (d := .lst []) (by rfl) ?_
      rfl

structure Cf (K : PySem.W.Frag) (mg : Str → Option Value) (kl : Kl) : Prop where
  g_ReadError : mg "ReadError" = some (.ref kl.ReadError)
  g_BadStretch : mg "BadStretch" = some (.ref kl.BadStretch)
  g_BadText : mg "BadText" = some (.ref kl.BadText)
  g_NoMember : mg "NoMember" = some (.ref kl.NoMember)
  g_BadStep : mg "BadStep" = some (.ref kl.BadStep)
  g_BadPace : mg "BadPace" = some (.ref kl.BadPace)
  g_Contradiction : mg "Contradiction" = some (.ref kl.Contradiction)
  g_NoKey : mg "NoKey" = some (.ref kl.NoKey)
  g_Impossible : mg "Impossible" = some (.ref kl.Impossible)
  g_BadName : mg "BadName" = some (.ref kl.BadName)
  g_UnknownName : mg "UnknownName" = some (.ref kl.UnknownName)
  g_WrongRange : mg "WrongRange" = some (.ref kl.WrongRange)
  g_TooMany : mg "TooMany" = some (.ref kl.TooMany)
  g_NoAnswer : mg "NoAnswer" = some (.ref kl.NoAnswer)
  g_NotServed : mg "NotServed" = some (.ref kl.NotServed)
  g_Refused : mg "Refused" = some (.ref kl.Refused)
  g_Stretches : mg "Stretches" = some (.ref kl.Stretches)
  is_Stretches : IsTbl K kl.Stretches (is_Stretches kl)
  iss_Stretches : IsTblS K kl.Stretches (iss_Stretches kl)
  sl_pairs : SlOk K [kl.Stretches] "pairs"
  exm_ReadError : ∀ r ∈ exm_ReadError kl, PySem.W.exmOne K (.ref r.1) (.ref kl.ReadError) = some r.2
  exm_BadStretch : ∀ r ∈ exm_BadStretch kl, PySem.W.exmOne K (.ref r.1) (.ref kl.BadStretch) = some r.2
  isx_BadStep : IsTblX K (.ref kl.BadStep) (isx_BadStep kl)
  isx_NoMember : IsTblX K (.ref kl.NoMember) (isx_NoMember kl)
  isx_BadText : IsTblX K (.ref kl.BadText) (isx_BadText kl)
  isx_Contradiction : IsTblX K (.ref kl.Contradiction) (isx_Contradiction kl)
  isx_ValueError : IsTblX K (.ty "ValueError") (isx_ValueError kl)
  isx_ReadError : IsTblX K (.ref kl.ReadError) (isx_ReadError kl)
  isx_BadStretch : IsTblX K (.ref kl.BadStretch) (isx_BadStretch kl)
  isx_BadPace : IsTblX K (.ref kl.BadPace) (isx_BadPace kl)
  isx_BadName : IsTblX K (.ref kl.BadName) (isx_BadName kl)
  isx_Impossible : IsTblX K (.ref kl.Impossible) (isx_Impossible kl)
  isx_NoKey : IsTblX K (.ref kl.NoKey) (isx_NoKey kl)
  isx_TooMany : IsTblX K (.ref kl.TooMany) (isx_TooMany kl)
  isx_WrongRange : IsTblX K (.ref kl.WrongRange) (isx_WrongRange kl)
  isx_UnknownName : IsTblX K (.ref kl.UnknownName) (isx_UnknownName kl)
  isx_Refused : IsTblX K (.ref kl.Refused) (isx_Refused kl)
  isx_NotServed : IsTblX K (.ref kl.NotServed) (isx_NotServed kl)
  isx_NoAnswer : IsTblX K (.ref kl.NoAnswer) (isx_NoAnswer kl)
  xf_BadStretch : XfC K kl.BadStretch
  no_BadStretch_high : PySem.W.findIn K (.ref kl.BadStretch) "high" = some none
  no_BadStretch_low : PySem.W.findIn K (.ref kl.BadStretch) "low" = some none
  xf_BadPace : XfC K kl.BadPace
  no_BadPace_slowest : PySem.W.findIn K (.ref kl.BadPace) "slowest" = some none
  xf_BadStep : XfC K kl.BadStep
  no_BadStep_number : PySem.W.findIn K (.ref kl.BadStep) "number" = some none
  xf_NoMember : XfC K kl.NoMember
  no_NoMember_index : PySem.W.findIn K (.ref kl.NoMember) "index" = some none
  xf_BadText : XfC K kl.BadText
  no_BadText_text : PySem.W.findIn K (.ref kl.BadText) "text" = some none
  xf_UnknownName : XfC K kl.UnknownName
  no_UnknownName_name : PySem.W.findIn K (.ref kl.UnknownName) "name" = some none
  xf_BadName : XfC K kl.BadName
  no_BadName_name : PySem.W.findIn K (.ref kl.BadName) "name" = some none
  xf_Impossible : XfC K kl.Impossible
  no_Impossible_value : PySem.W.findIn K (.ref kl.Impossible) "value" = some none
  no_Impossible_key : PySem.W.findIn K (.ref kl.Impossible) "key" = some none
  xf_NoKey : XfC K kl.NoKey
  no_NoKey_key : PySem.W.findIn K (.ref kl.NoKey) "key" = some none
  no_BadPace_fastest : PySem.W.findIn K (.ref kl.BadPace) "fastest" = some none
  xf_NoAnswer : XfC K kl.NoAnswer
  no_NoAnswer_key : PySem.W.findIn K (.ref kl.NoAnswer) "key" = some none
  no_NoAnswer_name : PySem.W.findIn K (.ref kl.NoAnswer) "name" = some none
  xf_TooMany : XfC K kl.TooMany
  no_TooMany_limit : PySem.W.findIn K (.ref kl.TooMany) "limit" = some none
  xf_WrongRange : XfC K kl.WrongRange
  no_WrongRange_last : PySem.W.findIn K (.ref kl.WrongRange) "last" = some none
  no_WrongRange_first : PySem.W.findIn K (.ref kl.WrongRange) "first" = some none
  xf_Refused : XfC K kl.Refused
  no_Refused_name : PySem.W.findIn K (.ref kl.Refused) "name" = some none
  xf_NotServed : XfC K kl.NotServed
  no_NotServed_wanted : PySem.W.findIn K (.ref kl.NotServed) "wanted" = some none
def top (i : Nat) : Stmt := PySem.Challenge.pw_stretchesread_k03_refused_stretches.main.body.getD i (.Pass ⟨0, 0, 0, 0⟩)
structure Bi (mg : Str → Option Value) : Prop where
  int : mg "int" = none
  len : mg "len" = none
  min : mg "min" = none
  range : mg "range" = none
  abs : mg "abs" = none
  sorted : mg "sorted" = none
  max : mg "max" = none
  tuple : mg "tuple" = none
  str : mg "str" = none
  isinstance : mg "isinstance" = none
  bool : mg "bool" = none
  ValueError : mg "ValueError" = none
  list : mg "list" = none
structure Cs (mg : Str → Option Value) : Prop where
  LIMIT_stretches : ∃ t, mg "LIMIT_stretches" = some (.int 1000000000000000000 t)
  DIGITS : ∃ t, mg "DIGITS" = some (.str (PySem.Str.ofString "0123456789") t)
section
variable {P : Program} {w : World} {K : PySem.W.Frag} {mg : Str → Option Value} {base : Heap}
theorem mx_BadStretch {f fc : Addr} {fcl : List (Str × Addr)} {fd : FuncData} {kl : Kl} (Z : FunX P K ⟨"__init__", "BadStretch.__init__", defArgs (inClass (top 3) 0), defBody (inClass (top 3) 0), defScope (inClass (top 3) 0), fcl, fc⟩ kl.BadStretch f fd) (T : OexC K kl.BadStretch) (hi : PySem.W.findIn K (.ref kl.BadStretch) "__init__" = some (some (.ref f))) (ht : PySem.W.typeIn K (.ref f) = some (.type "function")) (hm : mg "BadStretch" = some (.ref kl.BadStretch)) (Sv : SupE K kl.BadStretch kl.BadStretch) (n1 : PySem.W.findIn K (.ref kl.BadStretch) "low" = some none) (n2 : PySem.W.findIn K (.ref kl.BadStretch) "high" = some none) : ExcMk P w K mg base 1 "BadStretch" kl.BadStretch ["low", "high"] :=
  excMk2 (N := ["self", "low", "high", "__class__"]) Z (NdefX.nscope_by (show NdefX.nscB ["self", "low", "high", "__class__"] ["self", "low", "high"] ["__class__"] (defScope (inClass (top 3) 0)) = true from by decide +kernel)) (by decide) T hi ht hm Sv n1 n2 (fun _ _ _ _ _ us hl => match us, hl with | [_, _, _], _ => rfl) (fun A outer s H E => pssa_cons (psa_expr (pea_svE ⟨⟨_, rfl⟩, ⟨_, Z⟩, (show List.lookup ("super" : Str) (defScope (inClass (top 3) 0)).names = some .globalImplicit from by decide +kernel), (show List.lookup ("__class__" : Str) (defScope (inClass (top 3) 0)).names = some .free from by decide +kernel), ⟨_, rfl, rfl, (show List.lookup ("self" : Str) (defScope (inClass (top 3) 0)).names = some .local from by decide +kernel)⟩, (show (defScope (inClass (top 3) 0)).kind = .function from by decide +kernel)⟩ (pa_cons pe_str pa_nil))) (pssa_of (pss_cons (ps_ost (pv 0) (pv 1)) (pss_one (ps_ost (pv 0) (pv 2))))))
theorem mx_BadText {f fc : Addr} {fcl : List (Str × Addr)} {fd : FuncData} {kl : Kl} (Z : FunX P K ⟨"__init__", "BadText.__init__", defArgs (inClass (top 4) 0), defBody (inClass (top 4) 0), defScope (inClass (top 4) 0), fcl, fc⟩ kl.BadText f fd) (T : OexC K kl.BadText) (hi : PySem.W.findIn K (.ref kl.BadText) "__init__" = some (some (.ref f))) (ht : PySem.W.typeIn K (.ref f) = some (.type "function")) (hm : mg "BadText" = some (.ref kl.BadText)) (Sv : SupE K kl.BadText kl.BadText) (n1 : PySem.W.findIn K (.ref kl.BadText) "text" = some none) : ExcMk P w K mg base 1 "BadText" kl.BadText ["text"] :=
  excMk1 (N := ["self", "text", "__class__"]) Z (NdefX.nscope_by (show NdefX.nscB ["self", "text", "__class__"] ["self", "text"] ["__class__"] (defScope (inClass (top 4) 0)) = true from by decide +kernel)) (by decide) T hi ht hm Sv n1 (fun _ _ _ _ _ us hl => match us, hl with | [_, _], _ => rfl) (fun A outer s H E => pssa_cons (psa_expr (pea_svE ⟨⟨_, rfl⟩, ⟨_, Z⟩, (show List.lookup ("super" : Str) (defScope (inClass (top 4) 0)).names = some .globalImplicit from by decide +kernel), (show List.lookup ("__class__" : Str) (defScope (inClass (top 4) 0)).names = some .free from by decide +kernel), ⟨_, rfl, rfl, (show List.lookup ("self" : Str) (defScope (inClass (top 4) 0)).names = some .local from by decide +kernel)⟩, (show (defScope (inClass (top 4) 0)).kind = .function from by decide +kernel)⟩ (pa_cons pe_str pa_nil))) (pssa_of (pss_one (ps_ost (pv 0) (pv 1)))))
theorem mx_NoMember {f fc : Addr} {fcl : List (Str × Addr)} {fd : FuncData} {kl : Kl} (Z : FunX P K ⟨"__init__", "NoMember.__init__", defArgs (inClass (top 5) 0), defBody (inClass (top 5) 0), defScope (inClass (top 5) 0), fcl, fc⟩ kl.NoMember f fd) (T : OexC K kl.NoMember) (hi : PySem.W.findIn K (.ref kl.NoMember) "__init__" = some (some (.ref f))) (ht : PySem.W.typeIn K (.ref f) = some (.type "function")) (hm : mg "NoMember" = some (.ref kl.NoMember)) (Sv : SupE K kl.NoMember kl.NoMember) (n1 : PySem.W.findIn K (.ref kl.NoMember) "index" = some none) : ExcMk P w K mg base 1 "NoMember" kl.NoMember ["index"] :=
  excMk1 (N := ["self", "index", "__class__"]) Z (NdefX.nscope_by (show NdefX.nscB ["self", "index", "__class__"] ["self", "index"] ["__class__"] (defScope (inClass (top 5) 0)) = true from by decide +kernel)) (by decide) T hi ht hm Sv n1 (fun _ _ _ _ _ us hl => match us, hl with | [_, _], _ => rfl) (fun A outer s H E => pssa_cons (psa_expr (pea_svE ⟨⟨_, rfl⟩, ⟨_, Z⟩, (show List.lookup ("super" : Str) (defScope (inClass (top 5) 0)).names = some .globalImplicit from by decide +kernel), (show List.lookup ("__class__" : Str) (defScope (inClass (top 5) 0)).names = some .free from by decide +kernel), ⟨_, rfl, rfl, (show List.lookup ("self" : Str) (defScope (inClass (top 5) 0)).names = some .local from by decide +kernel)⟩, (show (defScope (inClass (top 5) 0)).kind = .function from by decide +kernel)⟩ (pa_cons pe_str pa_nil))) (pssa_of (pss_one (ps_ost (pv 0) (pv 1)))))
theorem mx_BadStep {f fc : Addr} {fcl : List (Str × Addr)} {fd : FuncData} {kl : Kl} (Z : FunX P K ⟨"__init__", "BadStep.__init__", defArgs (inClass (top 6) 0), defBody (inClass (top 6) 0), defScope (inClass (top 6) 0), fcl, fc⟩ kl.BadStep f fd) (T : OexC K kl.BadStep) (hi : PySem.W.findIn K (.ref kl.BadStep) "__init__" = some (some (.ref f))) (ht : PySem.W.typeIn K (.ref f) = some (.type "function")) (hm : mg "BadStep" = some (.ref kl.BadStep)) (Sv : SupE K kl.BadStep kl.BadStep) (n1 : PySem.W.findIn K (.ref kl.BadStep) "number" = some none) : ExcMk P w K mg base 1 "BadStep" kl.BadStep ["number"] :=
  excMk1 (N := ["self", "number", "__class__"]) Z (NdefX.nscope_by (show NdefX.nscB ["self", "number", "__class__"] ["self", "number"] ["__class__"] (defScope (inClass (top 6) 0)) = true from by decide +kernel)) (by decide) T hi ht hm Sv n1 (fun _ _ _ _ _ us hl => match us, hl with | [_, _], _ => rfl) (fun A outer s H E => pssa_cons (psa_expr (pea_svE ⟨⟨_, rfl⟩, ⟨_, Z⟩, (show List.lookup ("super" : Str) (defScope (inClass (top 6) 0)).names = some .globalImplicit from by decide +kernel), (show List.lookup ("__class__" : Str) (defScope (inClass (top 6) 0)).names = some .free from by decide +kernel), ⟨_, rfl, rfl, (show List.lookup ("self" : Str) (defScope (inClass (top 6) 0)).names = some .local from by decide +kernel)⟩, (show (defScope (inClass (top 6) 0)).kind = .function from by decide +kernel)⟩ (pa_cons pe_str pa_nil))) (pssa_of (pss_one (ps_ost (pv 0) (pv 1)))))
theorem mx_BadPace {f fc : Addr} {fcl : List (Str × Addr)} {fd : FuncData} {kl : Kl} (Z : FunX P K ⟨"__init__", "BadPace.__init__", defArgs (inClass (top 7) 0), defBody (inClass (top 7) 0), defScope (inClass (top 7) 0), fcl, fc⟩ kl.BadPace f fd) (T : OexC K kl.BadPace) (hi : PySem.W.findIn K (.ref kl.BadPace) "__init__" = some (some (.ref f))) (ht : PySem.W.typeIn K (.ref f) = some (.type "function")) (hm : mg "BadPace" = some (.ref kl.BadPace)) (Sv : SupE K kl.BadPace kl.BadPace) (n1 : PySem.W.findIn K (.ref kl.BadPace) "slowest" = some none) (n2 : PySem.W.findIn K (.ref kl.BadPace) "fastest" = some none) : ExcMk P w K mg base 1 "BadPace" kl.BadPace ["slowest", "fastest"] :=
  excMk2 (N := ["self", "slowest", "fastest", "__class__"]) Z (NdefX.nscope_by (show NdefX.nscB ["self", "slowest", "fastest", "__class__"] ["self", "slowest", "fastest"] ["__class__"] (defScope (inClass (top 7) 0)) = true from by decide +kernel)) (by decide) T hi ht hm Sv n1 n2 (fun _ _ _ _ _ us hl => match us, hl with | [_, _, _], _ => rfl) (fun A outer s H E => pssa_cons (psa_expr (pea_svE ⟨⟨_, rfl⟩, ⟨_, Z⟩, (show List.lookup ("super" : Str) (defScope (inClass (top 7) 0)).names = some .globalImplicit from by decide +kernel), (show List.lookup ("__class__" : Str) (defScope (inClass (top 7) 0)).names = some .free from by decide +kernel), ⟨_, rfl, rfl, (show List.lookup ("self" : Str) (defScope (inClass (top 7) 0)).names = some .local from by decide +kernel)⟩, (show (defScope (inClass (top 7) 0)).kind = .function from by decide +kernel)⟩ (pa_cons pe_str pa_nil))) (pssa_of (pss_cons (ps_ost (pv 0) (pv 1)) (pss_one (ps_ost (pv 0) (pv 2))))))
theorem mx_NoKey {f fc : Addr} {fcl : List (Str × Addr)} {fd : FuncData} {kl : Kl} (Z : FunX P K ⟨"__init__", "NoKey.__init__", defArgs (inClass (top 9) 0), defBody (inClass (top 9) 0), defScope (inClass (top 9) 0), fcl, fc⟩ kl.NoKey f fd) (T : OexC K kl.NoKey) (hi : PySem.W.findIn K (.ref kl.NoKey) "__init__" = some (some (.ref f))) (ht : PySem.W.typeIn K (.ref f) = some (.type "function")) (hm : mg "NoKey" = some (.ref kl.NoKey)) (Sv : SupE K kl.NoKey kl.NoKey) (n1 : PySem.W.findIn K (.ref kl.NoKey) "key" = some none) : ExcMk P w K mg base 1 "NoKey" kl.NoKey ["key"] :=
  excMk1 (N := ["self", "key", "__class__"]) Z (NdefX.nscope_by (show NdefX.nscB ["self", "key", "__class__"] ["self", "key"] ["__class__"] (defScope (inClass (top 9) 0)) = true from by decide +kernel)) (by decide) T hi ht hm Sv n1 (fun _ _ _ _ _ us hl => match us, hl with | [_, _], _ => rfl) (fun A outer s H E => pssa_cons (psa_expr (pea_svE ⟨⟨_, rfl⟩, ⟨_, Z⟩, (show List.lookup ("super" : Str) (defScope (inClass (top 9) 0)).names = some .globalImplicit from by decide +kernel), (show List.lookup ("__class__" : Str) (defScope (inClass (top 9) 0)).names = some .free from by decide +kernel), ⟨_, rfl, rfl, (show List.lookup ("self" : Str) (defScope (inClass (top 9) 0)).names = some .local from by decide +kernel)⟩, (show (defScope (inClass (top 9) 0)).kind = .function from by decide +kernel)⟩ (pa_cons pe_str pa_nil))) (pssa_of (pss_one (ps_ost (pv 0) (pv 1)))))
theorem mx_Impossible {f fc : Addr} {fcl : List (Str × Addr)} {fd : FuncData} {kl : Kl} (Z : FunX P K ⟨"__init__", "Impossible.__init__", defArgs (inClass (top 10) 0), defBody (inClass (top 10) 0), defScope (inClass (top 10) 0), fcl, fc⟩ kl.Impossible f fd) (T : OexC K kl.Impossible) (hi : PySem.W.findIn K (.ref kl.Impossible) "__init__" = some (some (.ref f))) (ht : PySem.W.typeIn K (.ref f) = some (.type "function")) (hm : mg "Impossible" = some (.ref kl.Impossible)) (Sv : SupE K kl.Impossible kl.Impossible) (n1 : PySem.W.findIn K (.ref kl.Impossible) "key" = some none) (n2 : PySem.W.findIn K (.ref kl.Impossible) "value" = some none) : ExcMk P w K mg base 1 "Impossible" kl.Impossible ["key", "value"] :=
  excMk2 (N := ["self", "key", "value", "__class__"]) Z (NdefX.nscope_by (show NdefX.nscB ["self", "key", "value", "__class__"] ["self", "key", "value"] ["__class__"] (defScope (inClass (top 10) 0)) = true from by decide +kernel)) (by decide) T hi ht hm Sv n1 n2 (fun _ _ _ _ _ us hl => match us, hl with | [_, _, _], _ => rfl) (fun A outer s H E => pssa_cons (psa_expr (pea_svE ⟨⟨_, rfl⟩, ⟨_, Z⟩, (show List.lookup ("super" : Str) (defScope (inClass (top 10) 0)).names = some .globalImplicit from by decide +kernel), (show List.lookup ("__class__" : Str) (defScope (inClass (top 10) 0)).names = some .free from by decide +kernel), ⟨_, rfl, rfl, (show List.lookup ("self" : Str) (defScope (inClass (top 10) 0)).names = some .local from by decide +kernel)⟩, (show (defScope (inClass (top 10) 0)).kind = .function from by decide +kernel)⟩ (pa_cons pe_str pa_nil))) (pssa_of (pss_cons (ps_ost (pv 0) (pv 1)) (pss_one (ps_ost (pv 0) (pv 2))))))
theorem mx_BadName {f fc : Addr} {fcl : List (Str × Addr)} {fd : FuncData} {kl : Kl} (Z : FunX P K ⟨"__init__", "BadName.__init__", defArgs (inClass (top 11) 0), defBody (inClass (top 11) 0), defScope (inClass (top 11) 0), fcl, fc⟩ kl.BadName f fd) (T : OexC K kl.BadName) (hi : PySem.W.findIn K (.ref kl.BadName) "__init__" = some (some (.ref f))) (ht : PySem.W.typeIn K (.ref f) = some (.type "function")) (hm : mg "BadName" = some (.ref kl.BadName)) (Sv : SupE K kl.BadName kl.BadName) (n1 : PySem.W.findIn K (.ref kl.BadName) "name" = some none) : ExcMk P w K mg base 1 "BadName" kl.BadName ["name"] :=
  excMk1 (N := ["self", "name", "__class__"]) Z (NdefX.nscope_by (show NdefX.nscB ["self", "name", "__class__"] ["self", "name"] ["__class__"] (defScope (inClass (top 11) 0)) = true from by decide +kernel)) (by decide) T hi ht hm Sv n1 (fun _ _ _ _ _ us hl => match us, hl with | [_, _], _ => rfl) (fun A outer s H E => pssa_cons (psa_expr (pea_svE ⟨⟨_, rfl⟩, ⟨_, Z⟩, (show List.lookup ("super" : Str) (defScope (inClass (top 11) 0)).names = some .globalImplicit from by decide +kernel), (show List.lookup ("__class__" : Str) (defScope (inClass (top 11) 0)).names = some .free from by decide +kernel), ⟨_, rfl, rfl, (show List.lookup ("self" : Str) (defScope (inClass (top 11) 0)).names = some .local from by decide +kernel)⟩, (show (defScope (inClass (top 11) 0)).kind = .function from by decide +kernel)⟩ (pa_cons pe_str pa_nil))) (pssa_of (pss_one (ps_ost (pv 0) (pv 1)))))
theorem mx_UnknownName {f fc : Addr} {fcl : List (Str × Addr)} {fd : FuncData} {kl : Kl} (Z : FunX P K ⟨"__init__", "UnknownName.__init__", defArgs (inClass (top 12) 0), defBody (inClass (top 12) 0), defScope (inClass (top 12) 0), fcl, fc⟩ kl.UnknownName f fd) (T : OexC K kl.UnknownName) (hi : PySem.W.findIn K (.ref kl.UnknownName) "__init__" = some (some (.ref f))) (ht : PySem.W.typeIn K (.ref f) = some (.type "function")) (hm : mg "UnknownName" = some (.ref kl.UnknownName)) (Sv : SupE K kl.UnknownName kl.UnknownName) (n1 : PySem.W.findIn K (.ref kl.UnknownName) "name" = some none) : ExcMk P w K mg base 1 "UnknownName" kl.UnknownName ["name"] :=
  excMk1 (N := ["self", "name", "__class__"]) Z (NdefX.nscope_by (show NdefX.nscB ["self", "name", "__class__"] ["self", "name"] ["__class__"] (defScope (inClass (top 12) 0)) = true from by decide +kernel)) (by decide) T hi ht hm Sv n1 (fun _ _ _ _ _ us hl => match us, hl with | [_, _], _ => rfl) (fun A outer s H E => pssa_cons (psa_expr (pea_svE ⟨⟨_, rfl⟩, ⟨_, Z⟩, (show List.lookup ("super" : Str) (defScope (inClass (top 12) 0)).names = some .globalImplicit from by decide +kernel), (show List.lookup ("__class__" : Str) (defScope (inClass (top 12) 0)).names = some .free from by decide +kernel), ⟨_, rfl, rfl, (show List.lookup ("self" : Str) (defScope (inClass (top 12) 0)).names = some .local from by decide +kernel)⟩, (show (defScope (inClass (top 12) 0)).kind = .function from by decide +kernel)⟩ (pa_cons pe_str pa_nil))) (pssa_of (pss_one (ps_ost (pv 0) (pv 1)))))
theorem mx_WrongRange {f fc : Addr} {fcl : List (Str × Addr)} {fd : FuncData} {kl : Kl} (Z : FunX P K ⟨"__init__", "WrongRange.__init__", defArgs (inClass (top 13) 0), defBody (inClass (top 13) 0), defScope (inClass (top 13) 0), fcl, fc⟩ kl.WrongRange f fd) (T : OexC K kl.WrongRange) (hi : PySem.W.findIn K (.ref kl.WrongRange) "__init__" = some (some (.ref f))) (ht : PySem.W.typeIn K (.ref f) = some (.type "function")) (hm : mg "WrongRange" = some (.ref kl.WrongRange)) (Sv : SupE K kl.WrongRange kl.WrongRange) (n1 : PySem.W.findIn K (.ref kl.WrongRange) "first" = some none) (n2 : PySem.W.findIn K (.ref kl.WrongRange) "last" = some none) : ExcMk P w K mg base 1 "WrongRange" kl.WrongRange ["first", "last"] :=
  excMk2 (N := ["self", "first", "last", "__class__"]) Z (NdefX.nscope_by (show NdefX.nscB ["self", "first", "last", "__class__"] ["self", "first", "last"] ["__class__"] (defScope (inClass (top 13) 0)) = true from by decide +kernel)) (by decide) T hi ht hm Sv n1 n2 (fun _ _ _ _ _ us hl => match us, hl with | [_, _, _], _ => rfl) (fun A outer s H E => pssa_cons (psa_expr (pea_svE ⟨⟨_, rfl⟩, ⟨_, Z⟩, (show List.lookup ("super" : Str) (defScope (inClass (top 13) 0)).names = some .globalImplicit from by decide +kernel), (show List.lookup ("__class__" : Str) (defScope (inClass (top 13) 0)).names = some .free from by decide +kernel), ⟨_, rfl, rfl, (show List.lookup ("self" : Str) (defScope (inClass (top 13) 0)).names = some .local from by decide +kernel)⟩, (show (defScope (inClass (top 13) 0)).kind = .function from by decide +kernel)⟩ (pa_cons pe_str pa_nil))) (pssa_of (pss_cons (ps_ost (pv 0) (pv 1)) (pss_one (ps_ost (pv 0) (pv 2))))))
theorem mx_TooMany {f fc : Addr} {fcl : List (Str × Addr)} {fd : FuncData} {kl : Kl} (Z : FunX P K ⟨"__init__", "TooMany.__init__", defArgs (inClass (top 14) 0), defBody (inClass (top 14) 0), defScope (inClass (top 14) 0), fcl, fc⟩ kl.TooMany f fd) (T : OexC K kl.TooMany) (hi : PySem.W.findIn K (.ref kl.TooMany) "__init__" = some (some (.ref f))) (ht : PySem.W.typeIn K (.ref f) = some (.type "function")) (hm : mg "TooMany" = some (.ref kl.TooMany)) (Sv : SupE K kl.TooMany kl.TooMany) (n1 : PySem.W.findIn K (.ref kl.TooMany) "limit" = some none) : ExcMk P w K mg base 1 "TooMany" kl.TooMany ["limit"] :=
  excMk1 (N := ["self", "limit", "__class__"]) Z (NdefX.nscope_by (show NdefX.nscB ["self", "limit", "__class__"] ["self", "limit"] ["__class__"] (defScope (inClass (top 14) 0)) = true from by decide +kernel)) (by decide) T hi ht hm Sv n1 (fun _ _ _ _ _ us hl => match us, hl with | [_, _], _ => rfl) (fun A outer s H E => pssa_cons (psa_expr (pea_svE ⟨⟨_, rfl⟩, ⟨_, Z⟩, (show List.lookup ("super" : Str) (defScope (inClass (top 14) 0)).names = some .globalImplicit from by decide +kernel), (show List.lookup ("__class__" : Str) (defScope (inClass (top 14) 0)).names = some .free from by decide +kernel), ⟨_, rfl, rfl, (show List.lookup ("self" : Str) (defScope (inClass (top 14) 0)).names = some .local from by decide +kernel)⟩, (show (defScope (inClass (top 14) 0)).kind = .function from by decide +kernel)⟩ (pa_cons pe_str pa_nil))) (pssa_of (pss_one (ps_ost (pv 0) (pv 1)))))
theorem mx_NoAnswer {f fc : Addr} {fcl : List (Str × Addr)} {fd : FuncData} {kl : Kl} (Z : FunX P K ⟨"__init__", "NoAnswer.__init__", defArgs (inClass (top 15) 0), defBody (inClass (top 15) 0), defScope (inClass (top 15) 0), fcl, fc⟩ kl.NoAnswer f fd) (T : OexC K kl.NoAnswer) (hi : PySem.W.findIn K (.ref kl.NoAnswer) "__init__" = some (some (.ref f))) (ht : PySem.W.typeIn K (.ref f) = some (.type "function")) (hm : mg "NoAnswer" = some (.ref kl.NoAnswer)) (Sv : SupE K kl.NoAnswer kl.NoAnswer) (n1 : PySem.W.findIn K (.ref kl.NoAnswer) "name" = some none) (n2 : PySem.W.findIn K (.ref kl.NoAnswer) "key" = some none) : ExcMk P w K mg base 1 "NoAnswer" kl.NoAnswer ["name", "key"] :=
  excMk2 (N := ["self", "name", "key", "__class__"]) Z (NdefX.nscope_by (show NdefX.nscB ["self", "name", "key", "__class__"] ["self", "name", "key"] ["__class__"] (defScope (inClass (top 15) 0)) = true from by decide +kernel)) (by decide) T hi ht hm Sv n1 n2 (fun _ _ _ _ _ us hl => match us, hl with | [_, _, _], _ => rfl) (fun A outer s H E => pssa_cons (psa_expr (pea_svE ⟨⟨_, rfl⟩, ⟨_, Z⟩, (show List.lookup ("super" : Str) (defScope (inClass (top 15) 0)).names = some .globalImplicit from by decide +kernel), (show List.lookup ("__class__" : Str) (defScope (inClass (top 15) 0)).names = some .free from by decide +kernel), ⟨_, rfl, rfl, (show List.lookup ("self" : Str) (defScope (inClass (top 15) 0)).names = some .local from by decide +kernel)⟩, (show (defScope (inClass (top 15) 0)).kind = .function from by decide +kernel)⟩ (pa_cons pe_str pa_nil))) (pssa_of (pss_cons (ps_ost (pv 0) (pv 1)) (pss_one (ps_ost (pv 0) (pv 2))))))
theorem mx_NotServed {f fc : Addr} {fcl : List (Str × Addr)} {fd : FuncData} {kl : Kl} (Z : FunX P K ⟨"__init__", "NotServed.__init__", defArgs (inClass (top 16) 0), defBody (inClass (top 16) 0), defScope (inClass (top 16) 0), fcl, fc⟩ kl.NotServed f fd) (T : OexC K kl.NotServed) (hi : PySem.W.findIn K (.ref kl.NotServed) "__init__" = some (some (.ref f))) (ht : PySem.W.typeIn K (.ref f) = some (.type "function")) (hm : mg "NotServed" = some (.ref kl.NotServed)) (Sv : SupE K kl.NotServed kl.NotServed) (n1 : PySem.W.findIn K (.ref kl.NotServed) "wanted" = some none) : ExcMk P w K mg base 1 "NotServed" kl.NotServed ["wanted"] :=
  excMk1 (N := ["self", "wanted", "__class__"]) Z (NdefX.nscope_by (show NdefX.nscB ["self", "wanted", "__class__"] ["self", "wanted"] ["__class__"] (defScope (inClass (top 16) 0)) = true from by decide +kernel)) (by decide) T hi ht hm Sv n1 (fun _ _ _ _ _ us hl => match us, hl with | [_, _], _ => rfl) (fun A outer s H E => pssa_cons (psa_expr (pea_svE ⟨⟨_, rfl⟩, ⟨_, Z⟩, (show List.lookup ("super" : Str) (defScope (inClass (top 16) 0)).names = some .globalImplicit from by decide +kernel), (show List.lookup ("__class__" : Str) (defScope (inClass (top 16) 0)).names = some .free from by decide +kernel), ⟨_, rfl, rfl, (show List.lookup ("self" : Str) (defScope (inClass (top 16) 0)).names = some .local from by decide +kernel)⟩, (show (defScope (inClass (top 16) 0)).kind = .function from by decide +kernel)⟩ (pa_cons pe_str pa_nil))) (pssa_of (pss_one (ps_ost (pv 0) (pv 1)))))
theorem mx_Refused {f fc : Addr} {fcl : List (Str × Addr)} {fd : FuncData} {kl : Kl} (Z : FunX P K ⟨"__init__", "Refused.__init__", defArgs (inClass (top 17) 0), defBody (inClass (top 17) 0), defScope (inClass (top 17) 0), fcl, fc⟩ kl.Refused f fd) (T : OexC K kl.Refused) (hi : PySem.W.findIn K (.ref kl.Refused) "__init__" = some (some (.ref f))) (ht : PySem.W.typeIn K (.ref f) = some (.type "function")) (hm : mg "Refused" = some (.ref kl.Refused)) (Sv : SupE K kl.Refused kl.Refused) (n1 : PySem.W.findIn K (.ref kl.Refused) "name" = some none) : ExcMk P w K mg base 1 "Refused" kl.Refused ["name"] :=
  excMk1 (N := ["self", "name", "__class__"]) Z (NdefX.nscope_by (show NdefX.nscB ["self", "name", "__class__"] ["self", "name"] ["__class__"] (defScope (inClass (top 17) 0)) = true from by decide +kernel)) (by decide) T hi ht hm Sv n1 (fun _ _ _ _ _ us hl => match us, hl with | [_, _], _ => rfl) (fun A outer s H E => pssa_cons (psa_expr (pea_svE ⟨⟨_, rfl⟩, ⟨_, Z⟩, (show List.lookup ("super" : Str) (defScope (inClass (top 17) 0)).names = some .globalImplicit from by decide +kernel), (show List.lookup ("__class__" : Str) (defScope (inClass (top 17) 0)).names = some .free from by decide +kernel), ⟨_, rfl, rfl, (show List.lookup ("self" : Str) (defScope (inClass (top 17) 0)).names = some .local from by decide +kernel)⟩, (show (defScope (inClass (top 17) 0)).kind = .function from by decide +kernel)⟩ (pa_cons pe_str pa_nil))) (pssa_of (pss_one (ps_ost (pv 0) (pv 1)))))
theorem sc_joined : FnScope ["rows", "result", "low", "high", "before"] ["rows"] (defScope (top 21)) := ⟨rfl, rfl, rfl, by decide +kernel, rfl, by decide +kernel, by decide +kernel⟩
theorem fk_joined (D : DefAt K mg "joined" (top 21)) (bi : Bi mg) : Fnk P w K mg base "joined" 1 ["rows"] [] [] sd_joined :=
  fnk_by (k := 0) (N := ["rows", "result", "low", "high", "before"]) (ds := d_joined) D sc_joined len_joined (fun _ _ _ _ _ _ us hl => match us, hl with | [_], _ => rfl) (fun X W f cdv A outer s H E eX eW tk po hr hu nd => ⟨_, (dss_cons (ds_own 1 nd da_nil)
      (dss_cons (ds_for po rfl (di_seq (de_cb cr_sortT sc_sortP (by rfl) bi.sorted (by decide +kernel) (da_cons (de_var 0) da_nil))) (dg_sq rfl (dgs_cons (dg_name 2 nd) (dgs_cons (dg_name 3 nd) dgs_nil)))
      (dss_one (ds_if (dt_w (dw_and (dt_tru (de_var 1)) (dw_and1 (dt_cmp op_le sr_I0 (de_var 2) (de_add (de_ix ix_S sr_ix (de_ix ix_S sr_ix (de_var 1) (de_neg de_int) (fun _ _ => rfl)) de_int (fun _ _ => rfl)) de_int) (nomark _)))))
      (dss_cons (ds_pop 1 4 nd)
      (dss_one (ds_app 1 (de_tup (da_cons (de_ix ix_S sr_ix (de_var 4) de_int (fun _ _ => rfl)) (da_cons (de_cb (call_max2 rfl) sc_max2 (by rfl) bi.max (by decide +kernel) (da_cons (de_ix ix_S sr_ix (de_var 4) de_int (fun _ _ => rfl)) (da_cons (de_var 3) da_nil))) da_nil))))))
      (dss_one (ds_app 1 (de_tup (da_cons (de_var 2) (da_cons (de_var 3) da_nil))))))))
      (dss_frz 1 (dss_one (ds_ret (de_ct call_tupleS sc_tuple (by rfl) bi.tuple (by decide +kernel) (da_cons (de_var 1) da_nil)))))))⟩) pure_joined
theorem sc_Stretches___init__ : FnScope ["self", "pairs", "rows", "low", "high"] ["self", "pairs"] (defScope (inClass (top 27) 2)) := ⟨rfl, rfl, rfl, by decide +kernel, rfl, by decide +kernel, by decide +kernel⟩
theorem ms_Stretches___init__ {f : Addr} {fd : FuncData} {kl : Kl} (F : FunD K "__init__" "Stretches.__init__" (defArgs (inClass (top 27) 2)) (defBody (inClass (top 27) 2)) (defScope (inClass (top 27) 2)) [V.ref (He.dflAt ("Stretches", some "__init__") 0 K)] [] f fd) (bi : Bi mg) (cs : Cs mg) (c_joined : Fnk P w K mg base "joined" 1 ["rows"] [] [] sd_joined) (cf : Cf K mg kl) (x_BadStretch : ExcMk P w K mg base 1 "BadStretch" (kl).BadStretch ["low", "high"]) : FnOk P w K mg base (L2.CX P w) 3 f fd ["self", "pairs"] (spInS K kl.Stretches (sd_Stretches___init__ kl)) :=
  slnok_by (k := 2) (y := "self") (N := ["pairs", "rows", "low", "high"]) (ds := d_Stretches___init__ kl) F sc_Stretches___init__ (len_Stretches___init__ kl) (fun X W f cdv A outer s H E eX eW tk po hr hu nd => ⟨_, (dssb_cons (ds_own 2 nd da_nil)
      (dssb_cons (ds_for po rfl (di_seq (de_var 1)) (dg_sq rfl (dgs_cons (dg_name 3 nd) (dgs_cons (dg_name 4 nd) dgs_nil)))
      (dss_cons (ds_if (dt_w (dw_or (dt_cmp op_lt sr_I0 (de_var 3) (de_neg (de_globI (by rfl) cs.LIMIT_stretches)) (nomark _)) (dw_or (dt_cmp op_gt sr_I0 (de_var 4) (de_globI (by rfl) cs.LIMIT_stretches) (nomark _)) (dw_or1 (dt_cmp op_gt sr_I0 (de_var 3) (de_var 4) (nomark _))))))
      (dss_one (ds_raise x_BadStretch rfl tk (hr.mono (by decide)) (by rfl) (da_cons (de_var 3) (da_cons (de_var 4) da_nil))))
      dss_nil)
      (dss_one (ds_app 2 (de_tup (da_cons (de_var 3) (da_cons (de_var 4) da_nil)))))))
      (dssb_frz 2 (dssb_slf cf.sl_pairs (de_callF c_joined tk (hr.mono (by decide)) (by rfl) (da_cons (de_var 2) da_nil))))))⟩) (pure_Stretches___init__ kl)
theorem bo_Stretches___init__ {f : Addr} {fd : FuncData} (F : FunD K "__init__" "Stretches.__init__" (defArgs (inClass (top 27) 2)) (defBody (inClass (top 27) 2)) (defScope (inClass (top 27) 2)) [V.ref (He.dflAt ("Stretches", some "__init__") 0 K)] [] f fd) : Binds K fd ["self", "pairs"] [] := binds_of0 (FunD.binds1 F 2 1 (by simp) rfl (fun _ _ _ _ _ _ _ us its hl hi => match us, its, hl, hi with | [_, _], [_], _, _ => ⟨_, rfl, rfl⟩))
theorem sc_Stretches___contains__ : FnScope ["self", "number", "low", "high"] ["self", "number"] (defScope (inClass (top 27) 7)) := ⟨rfl, rfl, rfl, by decide +kernel, rfl, by decide +kernel, by decide +kernel⟩
theorem mf_Stretches___contains__ {f : Addr} {fd : FuncData} {kl : Kl} (F : FunD K "__contains__" "Stretches.__contains__" (defArgs (inClass (top 27) 7)) (defBody (inClass (top 27) 7)) (defScope (inClass (top 27) 7)) [] [] f fd) (bi : Bi mg) (cf : Cf K mg kl) : FnOk P w K mg base (L2.CX P w) 1 f fd ["self", "number"] (spOf K (sd_Stretches___contains__ kl)) ∧ Binds K fd ["self", "number"] [] :=
  mfn_by (k := 0) (N := ["self", "number", "low", "high"]) (ds := d_Stretches___contains__ kl) F sc_Stretches___contains__ (by intro as Q E h; obtain ⟨_, _, rfl, _⟩ := h; rfl) (fun _ _ _ _ _ _ us hl => match us, hl with | [_, _], _ => rfl) (fun X W f cdv A outer s H E eX eW tk po hr hu nd => ⟨_, (dss_cons (ds_for po rfl (di_seq (de_slA cf.sl_pairs (de_var 0))) (dg_sq rfl (dgs_cons (dg_name 2 nd) (dgs_cons (dg_name 3 nd) dgs_nil)))
      (dss_one (ds_if (dt_chain op_le op_le sr_I0 sr_I0 (de_var 2) (de_var 1) (de_var 3))
      (dss_one (ds_ret de_bl))
      dss_nil)))
      (dss_one (ds_ret de_bl)))⟩) (pure_Stretches___contains__ kl)
theorem sc__law_draws : FnScope ["_law_script", "_law_draws_here", "_law_k", "_law_size", "_law_turn", "_law_mixed"] ["_law_script"] (defScope (top 29)) := ⟨rfl, rfl, rfl, by decide +kernel, rfl, by decide +kernel, by decide +kernel⟩
theorem dk__law_draws (D : DefAt K mg "_law_draws" (top 29)) (bi : Bi mg) : Drk P w K mg base :=
  drk_of D sc__law_draws (fun _ _ _ _ _ _ us hl => match us, hl with | [_], _ => rfl) fun f cdv A outer s H E po =>
    have nd := sc__law_draws.nd
    ⟨_, (dss_cons (ds_own 1 nd da_nil)
      (dss_cons (ds_for po rfl (di_range1 (by rfl) bi.range (da_cons (de_cb (call_min2 rfl) sc_min2 (by rfl) bi.min (by decide +kernel) (da_cons (de_cb call_lenA sc_len (by rfl) bi.len (by decide +kernel) (da_cons (de_var 0) da_nil)) (da_cons de_int da_nil))) da_nil)) (dg_name 2 nd)
      (dss_cons (ds_asg (de_cb call_abs sc_abs (by rfl) bi.abs (by decide +kernel) (da_cons (de_ix ix_S sr_ix (de_var 0) (de_var 2) (fun _ _ => rfl)) da_nil)) (dg_name 3 nd))
      (dss_one (ds_if (dt_cmp op_ge sr_I0 (de_var 3) (de_pow de_int de_int) (nomark _))
      (dss_one (ds_for po rfl (di_range1 (by rfl) bi.range (da_cons de_int da_nil)) (dg_name 4 nd)
      (dss_one (ds_if (dt_cmp op_gt sr_I0 (de_var 3) de_int (nomark _))
      (dss_cons (ds_app 1 (de_mod (de_ct call_int1 sc_int1 (by rfl) bi.int (by decide +kernel) (da_cons (de_var 3) da_nil)) (de_pow de_int de_int)))
      (dss_one (ds_asg (de_fdiv (de_var 3) (de_pow de_int de_int)) (dg_name 3 nd))))
      dss_nil))))
      (dss_cons (ds_asg (de_add (de_mul de_int (de_var 3)) (de_ct call_int1 sc_int1 (by rfl) bi.int (by decide +kernel) (da_cons (de_cmp op_lt sr_I0 (de_ix ix_S sr_ix (de_var 0) (de_var 2) (fun _ _ => rfl)) de_int (nomark _)) da_nil))) (dg_name 3 nd))
      (dss_one (ds_for po rfl (di_range1 (by rfl) bi.range (da_cons de_int da_nil)) (dg_name 4 nd)
      (dss_cons (ds_asg (de_mod (de_ct call_int1 sc_int1 (by rfl) bi.int (by decide +kernel) (da_cons (de_add (de_mul (de_var 3) de_int) (de_mul (de_add (de_add (de_mul de_int (de_var 2)) (de_var 4)) de_int) de_int)) da_nil)) de_int) (dg_name 5 nd))
      (dss_cons (ds_asg (de_mod (de_ct call_int1 sc_int1 (by rfl) bi.int (by decide +kernel) (da_cons (de_mul (de_var 5) (de_var 5)) da_nil)) de_int) (dg_name 5 nd))
      (dss_one (ds_app 1 (de_mod (de_ct call_int1 sc_int1 (by rfl) bi.int (by decide +kernel) (da_cons (de_mul (de_var 5) (de_var 5)) da_nil)) de_int))))))))))))
      (dss_one (ds_retv 1))))⟩
theorem sc__law_next : FnScope ["_law_draws_here", "_law_many"] ["_law_draws_here", "_law_many"] (defScope (top 30)) := ⟨rfl, rfl, rfl, by decide +kernel, rfl, by decide +kernel, by decide +kernel⟩
theorem fk__law_next (D : DefAt K mg "_law_next" (top 30)) (bi : Bi mg) : Fnk P w K mg base "_law_next" 1 ["_law_draws_here", "_law_many"] [] [] sd__law_next :=
  fnk_next D sc__law_next (fun _ _ _ _ _ _ us hl => match us, hl with | [_, _], _ => rfl) fun f cdv A outer s H E hu =>
    pss_cons (ps_if (pt_cmpR (op_eqD hu) (pv 0) (pe_lst pa_nil) (nomark _)) (pss_one (ps_ret pe_int)) pss_nil)
      (pss_one (ps_ret (pe_op op_mod (pe_callTy call_int1 (by rfl) bi.int (by decide +kernel) (pa_cons (pe_bm PySem.F.plainAttrs_list PySem.F.slot_list_pop PySem.F.type_list_pop mt_popAt (pv 0) (pa_cons pe_int pa_nil)) pa_nil)) (pv 1))))
theorem sc__law_is_int : FnScope ["_law_value"] ["_law_value"] (defScope (top 31)) := ⟨rfl, rfl, rfl, by decide +kernel, rfl, by decide +kernel, by decide +kernel⟩
theorem fk__law_is_int (D : DefAt K mg "_law_is_int" (top 31)) (bi : Bi mg) : Fnk P w K mg base "_law_is_int" 1 ["_law_value"] [] [] sd__law_is_int :=
  fnk_by (k := 0) (N := ["_law_value"]) (ds := d__law_is_int) D sc__law_is_int len__law_is_int (fun _ _ _ _ _ _ us hl => match us, hl with | [_], _ => rfl) (fun X W f cdv A outer s H E eX eW tk po hr hu nd => ⟨_, (dss_one (ds_ret (de_and (de_cb call_isi (sc_isi .int) (by rfl) bi.isinstance (by decide +kernel) (da_cons (de_var 0) (da_cons (de_tyn (by rfl) bi.int (by decide +kernel)) da_nil))) (de_oneA (de_notV (de_cb call_isi (sc_isi .bool) (by rfl) bi.isinstance (by decide +kernel) (da_cons (de_var 0) (da_cons (de_tyn (by rfl) bi.bool (by decide +kernel)) da_nil))))))))⟩) pure__law_is_int
theorem sc__law_zone : FnScope ["_law_draws_here", "_law_kind"] ["_law_draws_here"] (defScope (top 32)) := ⟨rfl, rfl, rfl, by decide +kernel, rfl, by decide +kernel, by decide +kernel⟩
theorem fk__law_zone (D : DefAt K mg "_law_zone" (top 32)) (bi : Bi mg) (c__law_next : Fnk P w K mg base "_law_next" 1 ["_law_draws_here", "_law_many"] [] [] sd__law_next) : Fnk P w K mg base "_law_zone" 2 ["_law_draws_here"] [] [] sd__law_zone :=
  fnk_by (k := 1) (N := ["_law_draws_here", "_law_kind"]) (ds := d__law_zone) D sc__law_zone len__law_zone (fun _ _ _ _ _ _ us hl => match us, hl with | [_], _ => rfl) (fun X W f cdv A outer s H E eX eW tk po hr hu nd => ⟨_, (dss_cons (ds_asg (de_callF c__law_next tk (hr.mono (by decide)) (by rfl) (da_cons (de_var 0) (da_cons de_int da_nil))) (dg_name 1 nd))
      (dss_cons (ds_if (dt_cmp (op_eqA hu) sr_eq (de_var 1) de_int (nomark _))
      (dss_one (ds_ret (de_tup (da_cons (de_neg (de_pow de_int de_int)) (da_cons (de_pow de_int de_int) da_nil)))))
      dss_nil)
      (dss_cons (ds_if (dt_cmp (op_eqA hu) sr_eq (de_var 1) de_int (nomark _))
      (dss_one (ds_ret (de_tup (da_cons (de_sub (de_pow de_int de_int) de_int) (da_cons (de_pow de_int de_int) da_nil)))))
      dss_nil)
      (dss_cons (ds_if (dt_cmp (op_eqA hu) sr_eq (de_var 1) de_int (nomark _))
      (dss_one (ds_ret (de_tup (da_cons (de_neg (de_pow de_int de_int)) (da_cons (de_sub de_int (de_pow de_int de_int)) da_nil)))))
      dss_nil)
      (dss_cons (ds_if (dt_cmp (op_eqA hu) sr_eq (de_var 1) de_int (nomark _))
      (dss_one (ds_ret (de_tup (da_cons (de_neg de_int) (da_cons de_int da_nil)))))
      dss_nil)
      (dss_one (ds_ret (de_tup (da_cons (de_neg de_int) (da_cons de_int da_nil))))))))))⟩) pure__law_zone
theorem sc__law_pairs : FnScope ["_law_draws_here", "_law_zone_here", "_law_many", "_law_rows", "_law_k", "_law_low", "_law_length"] ["_law_draws_here", "_law_zone_here", "_law_many"] (defScope (top 33)) := ⟨rfl, rfl, rfl, by decide +kernel, rfl, by decide +kernel, by decide +kernel⟩
theorem fk__law_pairs (D : DefAt K mg "_law_pairs" (top 33)) (bi : Bi mg) (c__law_next : Fnk P w K mg base "_law_next" 1 ["_law_draws_here", "_law_many"] [] [] sd__law_next) : Fnk P w K mg base "_law_pairs" 2 ["_law_draws_here", "_law_zone_here", "_law_many"] [] [] sd__law_pairs :=
  fnk_by (k := 1) (N := ["_law_draws_here", "_law_zone_here", "_law_many", "_law_rows", "_law_k", "_law_low", "_law_length"]) (ds := d__law_pairs) D sc__law_pairs len__law_pairs (fun _ _ _ _ _ _ us hl => match us, hl with | [_, _, _], _ => rfl) (fun X W f cdv A outer s H E eX eW tk po hr hu nd => ⟨_, (dss_cons (ds_own 3 nd da_nil)
      (dss_cons (ds_for po rfl (di_range1 (by rfl) bi.range (da_cons (de_callF c__law_next tk (hr.mono (by decide)) (by rfl) (da_cons (de_var 0) (da_cons (de_add (de_var 2) de_int) da_nil))) da_nil)) (dg_name 4 nd)
      (dss_cons (ds_asg (de_add (de_ix ix_S sr_ix (de_var 1) de_int (fun _ _ => rfl)) (de_callF c__law_next tk (hr.mono (by decide)) (by rfl) (da_cons (de_var 0) (da_cons (de_add (de_sub (de_ix ix_S sr_ix (de_var 1) de_int (fun _ _ => rfl)) (de_ix ix_S sr_ix (de_var 1) de_int (fun _ _ => rfl))) de_int) da_nil)))) (dg_name 5 nd))
      (dss_cons (ds_asg (de_callF c__law_next tk (hr.mono (by decide)) (by rfl) (da_cons (de_var 0) (da_cons (de_pow de_int de_int) da_nil))) (dg_name 6 nd))
      (dss_cons (ds_if (dt_cmp (op_eqA hu) sr_eq (de_mod (de_ct call_int1 sc_int1 (by rfl) bi.int (by decide +kernel) (da_cons (de_var 6) da_nil)) de_int) de_int (nomark _))
      (dss_one (ds_asg (de_mod (de_ct call_int1 sc_int1 (by rfl) bi.int (by decide +kernel) (da_cons (de_fdiv (de_var 6) de_int) da_nil)) de_int) (dg_name 6 nd)))
      (dss_one (ds_asg (de_mod (de_ct call_int1 sc_int1 (by rfl) bi.int (by decide +kernel) (da_cons (de_fdiv (de_var 6) de_int) da_nil)) (de_add (de_sub (de_ix ix_S sr_ix (de_var 1) de_int (fun _ _ => rfl)) (de_var 5)) de_int)) (dg_name 6 nd))))
      (dss_one (ds_app 3 (de_tup (da_cons (de_var 5) (da_cons (de_cb (call_min2 rfl) sc_min2 (by rfl) bi.min (by decide +kernel) (da_cons (de_ix ix_S sr_ix (de_var 1) de_int (fun _ _ => rfl)) (da_cons (de_add (de_var 5) (de_var 6)) da_nil))) da_nil)))))))))
      (dss_cons (ds_if (dt_w (dw_and (dt_cmp (op_neA hu) sr_ne (de_var 3) (de_lst da_nil) (nomark _)) (dw_and1 (dt_cmp (op_eqA hu) sr_eq (de_callF c__law_next tk (hr.mono (by decide)) (by rfl) (da_cons (de_var 0) (da_cons de_int da_nil))) de_int (nomark _)))))
      (dss_one (ds_app 3 (de_ix ix_S sr_ix (de_var 3) de_int (fun _ _ => rfl))))
      dss_nil)
      (dss_one (ds_retv 3)))))⟩) pure__law_pairs
theorem sc__law_spoilt : FnScope ["_law_draws_here", "_law_zone_here", "_law_kind", "_law_number", "_law_more"] ["_law_draws_here", "_law_zone_here"] (defScope (top 34)) := ⟨rfl, rfl, rfl, by decide +kernel, rfl, by decide +kernel, by decide +kernel⟩
theorem fk__law_spoilt (D : DefAt K mg "_law_spoilt" (top 34)) (bi : Bi mg) (c__law_next : Fnk P w K mg base "_law_next" 1 ["_law_draws_here", "_law_many"] [] [] sd__law_next) : Fnk P w K mg base "_law_spoilt" 2 ["_law_draws_here", "_law_zone_here"] [] [] sd__law_spoilt :=
  fnk_by (k := 1) (N := ["_law_draws_here", "_law_zone_here", "_law_kind", "_law_number", "_law_more"]) (ds := d__law_spoilt) D sc__law_spoilt len__law_spoilt (fun _ _ _ _ _ _ us hl => match us, hl with | [_, _], _ => rfl) (fun X W f cdv A outer s H E eX eW tk po hr hu nd => ⟨_, (dss_cons (ds_asg (de_callF c__law_next tk (hr.mono (by decide)) (by rfl) (da_cons (de_var 0) (da_cons de_int da_nil))) (dg_name 2 nd))
      (dss_cons (ds_asg (de_add (de_ix ix_S sr_ix (de_var 1) de_int (fun _ _ => rfl)) (de_callF c__law_next tk (hr.mono (by decide)) (by rfl) (da_cons (de_var 0) (da_cons (de_add (de_sub (de_ix ix_S sr_ix (de_var 1) de_int (fun _ _ => rfl)) (de_ix ix_S sr_ix (de_var 1) de_int (fun _ _ => rfl))) de_int) da_nil)))) (dg_name 3 nd))
      (dss_cons (ds_asg (de_callF c__law_next tk (hr.mono (by decide)) (by rfl) (da_cons (de_var 0) (da_cons (de_pow de_int de_int) da_nil))) (dg_name 4 nd))
      (dss_cons (ds_if (dt_cmp (op_eqA hu) sr_eq (de_mod (de_ct call_int1 sc_int1 (by rfl) bi.int (by decide +kernel) (da_cons (de_var 4) da_nil)) de_int) de_int (nomark _))
      (dss_one (ds_asg (de_mod (de_ct call_int1 sc_int1 (by rfl) bi.int (by decide +kernel) (da_cons (de_fdiv (de_var 4) de_int) da_nil)) de_int) (dg_name 4 nd)))
      dss_nil)
      (dss_cons (ds_asg (de_add (de_var 4) de_int) (dg_name 4 nd))
      (dss_cons (ds_if (dt_cmp (op_eqA hu) sr_eq (de_var 2) de_int (nomark _))
      (dss_one (ds_ret (de_tup (da_cons (de_sub (de_neg (de_pow de_int de_int)) (de_var 4)) (da_cons (de_var 3) da_nil)))))
      dss_nil)
      (dss_cons (ds_if (dt_cmp (op_eqA hu) sr_eq (de_var 2) de_int (nomark _))
      (dss_one (ds_ret (de_tup (da_cons (de_var 3) (da_cons (de_add (de_pow de_int de_int) (de_var 4)) da_nil)))))
      dss_nil)
      (dss_cons (ds_if (dt_cmp (op_eqA hu) sr_eq (de_var 2) de_int (nomark _))
      (dss_one (ds_ret (de_tup (da_cons (de_sub (de_neg (de_pow de_int de_int)) (de_var 4)) (da_cons (de_add (de_pow de_int de_int) (de_var 4)) da_nil)))))
      dss_nil)
      (dss_cons (ds_if (dt_cmp (op_eqA hu) sr_eq (de_var 2) de_int (nomark _))
      (dss_one (ds_ret (de_tup (da_cons (de_add (de_pow de_int de_int) (de_var 4)) (da_cons (de_sub (de_neg (de_pow de_int de_int)) (de_var 4)) da_nil)))))
      dss_nil)
      (dss_one (ds_ret (de_tup (da_cons (de_add (de_var 3) (de_var 4)) (da_cons (de_var 3) da_nil))))))))))))))⟩) pure__law_spoilt
theorem sc__law_refused : FnScope ["_law_handed", "_law_told", "e", "_law_others"] ["_law_handed"] (defScope (top 35)) := ⟨rfl, rfl, rfl, by decide +kernel, rfl, by decide +kernel, by decide +kernel⟩
theorem fk__law_refused {kl : Kl} (D : DefAt K mg "_law_refused" (top 35)) (bi : Bi mg) (cf : Cf K mg kl) (kl_Stretches : MakeSl P w K mg base 3 "Stretches" (kl).Stretches (sd_Stretches___init__ kl)) : Fnk P w K mg base "_law_refused" 5 ["_law_handed"] [] [] (sd__law_refused kl) :=
  fnk_by (k := 4) (N := ["_law_handed", "_law_told", "e", "_law_others"]) (ds := d__law_refused kl) D sc__law_refused (len__law_refused kl) (fun _ _ _ _ _ _ us hl => match us, hl with | [_], _ => rfl) (fun X W f cdv A outer s H E eX eW tk po hr hu nd => ⟨_, (dss_cons (ds_asg (de_lst da_nil) (dg_name 1 nd))
      (dss_cons (ds_try nd tk (fun W' pn xe tk po => (dss_one (ds_expr (de_makeSl kl_Stretches tk (hr.mono (by decide)) (by rfl) (da_cons (de_var 0) da_nil)))))
      (dck_named (i := 2) cf.exm_BadStretch (by rfl) cf.g_BadStretch (fun a oe cls d pn hz hf => (dss_cons (ds_asg (de_or (de_cb (call_isX hz hf) (sc_isX cf.isx_BadText) (by rfl) bi.isinstance (by decide +kernel) (da_cons (de_var 2) (da_cons (de_clsn (by rfl) cf.g_BadText) da_nil))) (de_or (de_cb (call_isX hz hf) (sc_isX cf.isx_NoMember) (by rfl) bi.isinstance (by decide +kernel) (da_cons (de_var 2) (da_cons (de_clsn (by rfl) cf.g_NoMember) da_nil))) (de_oneO (de_cb (call_isX hz hf) (sc_isX cf.isx_BadStep) (by rfl) bi.isinstance (by decide +kernel) (da_cons (de_var 2) (da_cons (de_clsn (by rfl) cf.g_BadStep) da_nil)))))) (dg_name 3 nd))
      (dss_cons (ds_asg (de_or (de_var 3) (de_oneO (de_cb (call_isX hz hf) (sc_isX cf.isx_Contradiction) (by rfl) bi.isinstance (by decide +kernel) (da_cons (de_var 2) (da_cons (de_clsn (by rfl) cf.g_Contradiction) da_nil))))) (dg_name 3 nd))
      (dss_one (ds_asg (de_lst (da_cons (de_xf cf.xf_BadStretch cf.no_BadStretch_low hz hf (de_var 2)) (da_cons (de_xf cf.xf_BadStretch cf.no_BadStretch_high hz hf (de_var 2)) (da_cons (de_and (de_cb (call_isX hz hf) (sc_isX cf.isx_ReadError) (by rfl) bi.isinstance (by decide +kernel) (da_cons (de_var 2) (da_cons (de_clsn (by rfl) cf.g_ReadError) da_nil))) (de_oneA (de_cb (call_isX hz hf) (sc_isX cf.isx_ValueError) (by rfl) bi.isinstance (by decide +kernel) (da_cons (de_var 2) (da_cons (de_tyn (by rfl) bi.ValueError (by decide +kernel)) da_nil))))) (da_cons (de_var 3) da_nil))))) (dg_name 1 nd)))))) (dck_bare cf.exm_ReadError (by rfl) cf.g_ReadError (fun a oe cls d pn hz hf => (dss_one (ds_asg (de_lst da_nil) (dg_name 1 nd)))) dck_nil)))
      (dss_one (ds_retv 1))))⟩) (pure__law_refused kl)
theorem sc__law_classes : FnScope ["_law_thing", "_law_found"] ["_law_thing"] (defScope (top 36)) := ⟨rfl, rfl, rfl, by decide +kernel, rfl, by decide +kernel, by decide +kernel⟩
theorem fk__law_classes {kl : Kl} (D : DefAt K mg "_law_classes" (top 36)) (bi : Bi mg) (cf : Cf K mg kl) : Fnk P w K mg base "_law_classes" 1 ["_law_thing"] [] [] (sd__law_classes kl) :=
  fnk_by (k := 0) (N := ["_law_thing", "_law_found"]) (ds := d__law_classes kl) D sc__law_classes (len__law_classes kl) (fun _ _ _ _ _ _ us hl => match us, hl with | [_], _ => rfl) (fun X W f cdv A outer s H E eX eW tk po hr hu nd => ⟨_, (dss_cons (ds_asg (de_lst (da_cons (de_cb call_isV (sc_isV cf.isx_BadStretch) (by rfl) bi.isinstance (by decide +kernel) (da_cons (de_var 0) (da_cons (de_clsn (by rfl) cf.g_BadStretch) da_nil))) (da_cons (de_cb call_isV (sc_isV cf.isx_BadText) (by rfl) bi.isinstance (by decide +kernel) (da_cons (de_var 0) (da_cons (de_clsn (by rfl) cf.g_BadText) da_nil))) (da_cons (de_cb call_isV (sc_isV cf.isx_NoMember) (by rfl) bi.isinstance (by decide +kernel) (da_cons (de_var 0) (da_cons (de_clsn (by rfl) cf.g_NoMember) da_nil))) da_nil)))) (dg_name 1 nd))
      (dss_cons (ds_asg (de_add (de_var 1) (de_lst (da_cons (de_cb call_isV (sc_isV cf.isx_BadStep) (by rfl) bi.isinstance (by decide +kernel) (da_cons (de_var 0) (da_cons (de_clsn (by rfl) cf.g_BadStep) da_nil))) (da_cons (de_cb call_isV (sc_isV cf.isx_BadPace) (by rfl) bi.isinstance (by decide +kernel) (da_cons (de_var 0) (da_cons (de_clsn (by rfl) cf.g_BadPace) da_nil))) (da_cons (de_cb call_isV (sc_isV cf.isx_Contradiction) (by rfl) bi.isinstance (by decide +kernel) (da_cons (de_var 0) (da_cons (de_clsn (by rfl) cf.g_Contradiction) da_nil))) da_nil))))) (dg_name 1 nd))
      (dss_cons (ds_asg (de_add (de_var 1) (de_lst (da_cons (de_cb call_isV (sc_isV cf.isx_NoKey) (by rfl) bi.isinstance (by decide +kernel) (da_cons (de_var 0) (da_cons (de_clsn (by rfl) cf.g_NoKey) da_nil))) (da_cons (de_cb call_isV (sc_isV cf.isx_Impossible) (by rfl) bi.isinstance (by decide +kernel) (da_cons (de_var 0) (da_cons (de_clsn (by rfl) cf.g_Impossible) da_nil))) (da_cons (de_cb call_isV (sc_isV cf.isx_BadName) (by rfl) bi.isinstance (by decide +kernel) (da_cons (de_var 0) (da_cons (de_clsn (by rfl) cf.g_BadName) da_nil))) da_nil))))) (dg_name 1 nd))
      (dss_cons (ds_asg (de_add (de_var 1) (de_lst (da_cons (de_cb call_isV (sc_isV cf.isx_UnknownName) (by rfl) bi.isinstance (by decide +kernel) (da_cons (de_var 0) (da_cons (de_clsn (by rfl) cf.g_UnknownName) da_nil))) (da_cons (de_cb call_isV (sc_isV cf.isx_WrongRange) (by rfl) bi.isinstance (by decide +kernel) (da_cons (de_var 0) (da_cons (de_clsn (by rfl) cf.g_WrongRange) da_nil))) (da_cons (de_cb call_isV (sc_isV cf.isx_TooMany) (by rfl) bi.isinstance (by decide +kernel) (da_cons (de_var 0) (da_cons (de_clsn (by rfl) cf.g_TooMany) da_nil))) da_nil))))) (dg_name 1 nd))
      (dss_one (ds_ret (de_add (de_var 1) (de_lst (da_cons (de_cb call_isV (sc_isV cf.isx_NoAnswer) (by rfl) bi.isinstance (by decide +kernel) (da_cons (de_var 0) (da_cons (de_clsn (by rfl) cf.g_NoAnswer) da_nil))) (da_cons (de_cb call_isV (sc_isV cf.isx_NotServed) (by rfl) bi.isinstance (by decide +kernel) (da_cons (de_var 0) (da_cons (de_clsn (by rfl) cf.g_NotServed) da_nil))) (da_cons (de_cb call_isV (sc_isV cf.isx_Refused) (by rfl) bi.isinstance (by decide +kernel) (da_cons (de_var 0) (da_cons (de_clsn (by rfl) cf.g_Refused) da_nil))) da_nil)))))))))))⟩) (pure__law_classes kl)
theorem sc__law_family : FnScope ["_law_one", "_law_two", "_law_word", "_law_things", "_law_k", "_law_told", "_law_due", "_law_place"] ["_law_one", "_law_two", "_law_word"] (defScope (top 37)) := ⟨rfl, rfl, rfl, by decide +kernel, rfl, by decide +kernel, by decide +kernel⟩
theorem fk__law_family {kl : Kl} (D : DefAt K mg "_law_family" (top 37)) (bi : Bi mg) (c__law_classes : Fnk P w K mg base "_law_classes" 1 ["_law_thing"] [] [] (sd__law_classes kl)) (cf : Cf K mg kl) (x_BadPace : ExcMk P w K mg base 1 "BadPace" (kl).BadPace ["slowest", "fastest"]) (x_BadStep : ExcMk P w K mg base 1 "BadStep" (kl).BadStep ["number"]) (x_NoMember : ExcMk P w K mg base 1 "NoMember" (kl).NoMember ["index"]) (x_BadText : ExcMk P w K mg base 1 "BadText" (kl).BadText ["text"]) (x_BadStretch : ExcMk P w K mg base 1 "BadStretch" (kl).BadStretch ["low", "high"]) (x_WrongRange : ExcMk P w K mg base 1 "WrongRange" (kl).WrongRange ["first", "last"]) (x_UnknownName : ExcMk P w K mg base 1 "UnknownName" (kl).UnknownName ["name"]) (x_BadName : ExcMk P w K mg base 1 "BadName" (kl).BadName ["name"]) (x_Impossible : ExcMk P w K mg base 1 "Impossible" (kl).Impossible ["key", "value"]) (x_NoKey : ExcMk P w K mg base 1 "NoKey" (kl).NoKey ["key"]) (x_Refused : ExcMk P w K mg base 1 "Refused" (kl).Refused ["name"]) (x_NotServed : ExcMk P w K mg base 1 "NotServed" (kl).NotServed ["wanted"]) (x_NoAnswer : ExcMk P w K mg base 1 "NoAnswer" (kl).NoAnswer ["name", "key"]) (x_TooMany : ExcMk P w K mg base 1 "TooMany" (kl).TooMany ["limit"]) (x0_Contradiction : ExcM0 K mg "Contradiction" (kl).Contradiction) : Fnk P w K mg base "_law_family" 3 ["_law_one", "_law_two", "_law_word"] [] [] (sd__law_family kl) :=
  fnk_by (k := 2) (N := ["_law_one", "_law_two", "_law_word", "_law_things", "_law_k", "_law_told", "_law_due", "_law_place"]) (ds := d__law_family kl) D sc__law_family (len__law_family kl) (fun _ _ _ _ _ _ us hl => match us, hl with | [_, _, _], _ => rfl) (fun X W f cdv A outer s H E eX eW tk po hr hu nd => ⟨_, (dss_cons (ds_asg (de_lst (da_cons (de_makeXv x_BadStretch (hr.mono (by decide)) (by rfl) (da_cons (de_var 0) (da_cons (de_var 1) da_nil))) (da_cons (de_makeXv x_BadText (hr.mono (by decide)) (by rfl) (da_cons (de_var 2) da_nil)) (da_cons (de_makeXv x_NoMember (hr.mono (by decide)) (by rfl) (da_cons (de_var 0) da_nil)) (da_cons (de_makeXv x_BadStep (hr.mono (by decide)) (by rfl) (da_cons (de_var 0) da_nil)) (da_cons (de_makeXv x_BadPace (hr.mono (by decide)) (by rfl) (da_cons de_non (da_cons (de_var 1) da_nil))) (da_cons (de_makeXv0 x0_Contradiction (by rfl)) da_nil))))))) (dg_name 3 nd))
      (dss_cons (ds_asg (de_add (de_var 3) (de_lst (da_cons (de_makeXv x_NoKey (hr.mono (by decide)) (by rfl) (da_cons (de_var 0) da_nil)) (da_cons (de_makeXv x_Impossible (hr.mono (by decide)) (by rfl) (da_cons (de_var 0) (da_cons (de_var 1) da_nil))) (da_cons (de_makeXv x_BadName (hr.mono (by decide)) (by rfl) (da_cons (de_var 2) da_nil)) (da_cons (de_makeXv x_UnknownName (hr.mono (by decide)) (by rfl) (da_cons (de_var 2) da_nil)) (da_cons (de_makeXv x_WrongRange (hr.mono (by decide)) (by rfl) (da_cons (de_var 0) (da_cons (de_var 1) da_nil))) da_nil))))))) (dg_name 3 nd))
      (dss_cons (ds_asg (de_add (de_var 3) (de_lst (da_cons (de_makeXv x_TooMany (hr.mono (by decide)) (by rfl) (da_cons (de_var 0) da_nil)) (da_cons (de_makeXv x_NoAnswer (hr.mono (by decide)) (by rfl) (da_cons (de_var 2) (da_cons (de_var 1) da_nil))) (da_cons (de_makeXv x_NotServed (hr.mono (by decide)) (by rfl) (da_cons (de_var 0) da_nil)) (da_cons (de_makeXv x_Refused (hr.mono (by decide)) (by rfl) (da_cons (de_var 2) da_nil)) da_nil)))))) (dg_name 3 nd))
      (dss_cons (ds_for po rfl (di_range1 (by rfl) bi.range (da_cons de_int da_nil)) (dg_name 4 nd)
      (dss_cons (ds_if (dt_w (dw_or (dt_not (dt_tru (de_cb call_isV (sc_isV cf.isx_ReadError) (by rfl) bi.isinstance (by decide +kernel) (da_cons (de_ix ix_S sr_ix (de_var 3) (de_var 4) (fun _ _ => rfl)) (da_cons (de_clsn (by rfl) cf.g_ReadError) da_nil))))) (dw_or1 (dt_not (dt_tru (de_cb call_isV (sc_isV cf.isx_ValueError) (by rfl) bi.isinstance (by decide +kernel) (da_cons (de_ix ix_S sr_ix (de_var 3) (de_var 4) (fun _ _ => rfl)) (da_cons (de_tyn (by rfl) bi.ValueError (by decide +kernel)) da_nil))))))))
      (dss_one (ds_ret de_bl))
      dss_nil)
      (dss_one (ds_if (dt_cmp (op_neA hu) sr_ne (de_callF c__law_classes tk (hr.mono (by decide)) (by rfl) (da_cons (de_ix ix_S sr_ix (de_var 3) (de_var 4) (fun _ _ => rfl)) da_nil)) (de_lc (own := [("_law_place", 7)]) rfl nd (di_range1 (by rfl) bi.range (da_cons de_int da_nil)) (blkOk_by (N := ["_law_one", "_law_two", "_law_word", "_law_things", "_law_k", "_law_told", "_law_due", "_law_place"]) (sc := defScope (top 37)) (by decide +kernel)) (fun _ _ _ _ _ => (dg_name 7 nd)) (fun _ _ _ _ _ => dts_nil) (fun _ _ _ _ _ => (de_cmp (op_eqA hu) sr_eq (de_var 7) (de_var 4) (nomark _)))) (nomark _))
      (dss_one (ds_ret de_bl))
      dss_nil))))
      (dss_cons (ds_asg (de_lst (da_cons (de_xv cf.xf_BadStretch cf.no_BadStretch_low (de_ix ix_S sr_ix (de_var 3) de_int (fun _ _ => rfl))) (da_cons (de_xv cf.xf_BadStretch cf.no_BadStretch_high (de_ix ix_S sr_ix (de_var 3) de_int (fun _ _ => rfl))) (da_cons (de_xv cf.xf_BadText cf.no_BadText_text (de_ix ix_S sr_ix (de_var 3) de_int (fun _ _ => rfl))) (da_cons (de_xv cf.xf_NoMember cf.no_NoMember_index (de_ix ix_S sr_ix (de_var 3) de_int (fun _ _ => rfl))) (da_cons (de_xv cf.xf_BadStep cf.no_BadStep_number (de_ix ix_S sr_ix (de_var 3) de_int (fun _ _ => rfl))) (da_cons (de_xv cf.xf_BadPace cf.no_BadPace_slowest (de_ix ix_S sr_ix (de_var 3) de_int (fun _ _ => rfl))) da_nil))))))) (dg_name 5 nd))
      (dss_cons (ds_asg (de_add (de_var 5) (de_lst (da_cons (de_xv cf.xf_BadPace cf.no_BadPace_fastest (de_ix ix_S sr_ix (de_var 3) de_int (fun _ _ => rfl))) (da_cons (de_xv cf.xf_NoKey cf.no_NoKey_key (de_ix ix_S sr_ix (de_var 3) de_int (fun _ _ => rfl))) (da_cons (de_xv cf.xf_Impossible cf.no_Impossible_key (de_ix ix_S sr_ix (de_var 3) de_int (fun _ _ => rfl))) (da_cons (de_xv cf.xf_Impossible cf.no_Impossible_value (de_ix ix_S sr_ix (de_var 3) de_int (fun _ _ => rfl))) (da_cons (de_xv cf.xf_BadName cf.no_BadName_name (de_ix ix_S sr_ix (de_var 3) de_int (fun _ _ => rfl))) (da_cons (de_xv cf.xf_UnknownName cf.no_UnknownName_name (de_ix ix_S sr_ix (de_var 3) de_int (fun _ _ => rfl))) da_nil)))))))) (dg_name 5 nd))
      (dss_cons (ds_asg (de_add (de_var 5) (de_lst (da_cons (de_xv cf.xf_WrongRange cf.no_WrongRange_first (de_ix ix_S sr_ix (de_var 3) de_int (fun _ _ => rfl))) (da_cons (de_xv cf.xf_WrongRange cf.no_WrongRange_last (de_ix ix_S sr_ix (de_var 3) de_int (fun _ _ => rfl))) (da_cons (de_xv cf.xf_TooMany cf.no_TooMany_limit (de_ix ix_S sr_ix (de_var 3) de_int (fun _ _ => rfl))) (da_cons (de_xv cf.xf_NoAnswer cf.no_NoAnswer_name (de_ix ix_S sr_ix (de_var 3) de_int (fun _ _ => rfl))) (da_cons (de_xv cf.xf_NoAnswer cf.no_NoAnswer_key (de_ix ix_S sr_ix (de_var 3) de_int (fun _ _ => rfl))) da_nil))))))) (dg_name 5 nd))
      (dss_cons (ds_asg (de_add (de_var 5) (de_lst (da_cons (de_xv cf.xf_NotServed cf.no_NotServed_wanted (de_ix ix_S sr_ix (de_var 3) de_int (fun _ _ => rfl))) (da_cons (de_xv cf.xf_Refused cf.no_Refused_name (de_ix ix_S sr_ix (de_var 3) de_int (fun _ _ => rfl))) da_nil)))) (dg_name 5 nd))
      (dss_cons (ds_asg (de_lst (da_cons (de_var 0) (da_cons (de_var 1) (da_cons (de_var 2) (da_cons (de_var 0) (da_cons (de_var 0) (da_cons de_non (da_cons (de_var 1) (da_cons (de_var 0) (da_cons (de_var 0) (da_cons (de_var 1) (da_cons (de_var 2) (da_cons (de_var 2) (da_cons (de_var 0) (da_cons (de_var 1) (da_cons (de_var 0) (da_cons (de_var 2) (da_cons (de_var 1) (da_cons (de_var 0) (da_cons (de_var 2) da_nil)))))))))))))))))))) (dg_name 6 nd))
      (dss_one (ds_ret (de_cmp (op_eqA hu) sr_eq (de_var 5) (de_var 6) (nomark _)))))))))))))⟩) (pure__law_family kl)
theorem sc_law : FnScope ["_law_script", "_law_draws_here", "_law_zone_here", "_law_good", "_law_rows", "_law_k", "_law_place", "_law_due", "_law_low", "_law_high", "_law_handed", "_law_told", "_law_numbers", "_law_one", "_law_two"] ["_law_script"] (defScope (top 38)) := ⟨rfl, rfl, rfl, by decide +kernel, rfl, by decide +kernel, by decide +kernel⟩
theorem ok_law {kl : Kl} {f : Addr} {fd : FuncData} (F : FunD K "law" "law" (defArgs (top 38)) (defBody (top 38)) (defScope (top 38)) [] [] f fd) (bi : Bi mg) (dk : Drk P w K mg base) (c__law_zone : Fnk P w K mg base "_law_zone" 2 ["_law_draws_here"] [] [] sd__law_zone) (c__law_pairs : Fnk P w K mg base "_law_pairs" 2 ["_law_draws_here", "_law_zone_here", "_law_many"] [] [] sd__law_pairs) (c__law_next : Fnk P w K mg base "_law_next" 1 ["_law_draws_here", "_law_many"] [] [] sd__law_next) (c__law_spoilt : Fnk P w K mg base "_law_spoilt" 2 ["_law_draws_here", "_law_zone_here"] [] [] sd__law_spoilt) (c__law_refused : Fnk P w K mg base "_law_refused" 5 ["_law_handed"] [] [] (sd__law_refused kl)) (c__law_is_int : Fnk P w K mg base "_law_is_int" 1 ["_law_value"] [] [] sd__law_is_int) (c__law_family : Fnk P w K mg base "_law_family" 3 ["_law_one", "_law_two", "_law_word"] [] [] (sd__law_family kl)) (cf : Cf K mg kl) (kl_Stretches : MakeSl P w K mg base 3 "Stretches" (kl).Stretches (sd_Stretches___init__ kl)) (ms_Stretches___contains__ : MSl P w K mg base 1 "__contains__" (kl).Stretches (sd_Stretches___contains__ kl)) : FnOk P w K mg base (L2.CX P w) 6 f fd ["_law_script"] (spLaw K) :=
  fn_law (k := 5) (ds := (d_law kl)) F sc_law (by decide) (fun cdv A outer s H E hr =>
    have tk := tk_cx (P := P) (w := w) (K := K) (mg := mg) (base := base) (N := ["_law_script", "_law_draws_here", "_law_zone_here", "_law_good", "_law_rows", "_law_k", "_law_place", "_law_due", "_law_low", "_law_high", "_law_handed", "_law_told", "_law_numbers", "_law_one", "_law_two"]) (qual := "law") (scope := defScope (top 38)) (f := f) (cdv := cdv) (A := A) (outer := outer) (s := s) (H := H) (E := E)
    have po := po_cx (P := P) (w := w) (K := K) (mg := mg) (base := base) (N := ["_law_script", "_law_draws_here", "_law_zone_here", "_law_good", "_law_rows", "_law_k", "_law_place", "_law_due", "_law_low", "_law_high", "_law_handed", "_law_told", "_law_numbers", "_law_one", "_law_two"]) (qual := "law") (scope := defScope (top 38)) (f := f) (cdv := cdv) (A := A) (outer := outer) (s := s) (H := H) (E := E)
    have hu := hr.units
    have nd := sc_law.nd
    have T : DSSX (cxOf (L2.CX P w) P w K mg base ["_law_script", "_law_draws_here", "_law_zone_here", "_law_good", "_law_rows", "_law_k", "_law_place", "_law_due", "_law_low", "_law_high", "_law_handed", "_law_told", "_law_numbers", "_law_one", "_law_two"] "law" (defScope (top 38)) f cdv A outer s H E) (WX0 E) ((defBody (top 38)).drop 1) _ (d_law kl) := (dss_cons (ds_asg (de_callF c__law_zone tk (hr.mono (by decide)) (by rfl) (da_cons (de_var 1) da_nil)) (dg_name 2 nd))
      (dss_cons (ds_asg (de_callF c__law_pairs tk (hr.mono (by decide)) (by rfl) (da_cons (de_var 1) (da_cons (de_var 2) (da_cons de_int da_nil)))) (dg_name 3 nd))
      (dss_cons (ds_setF 4 nd (fe_list (by rfl) bi.list (de_var 3)))
      (dss_cons (ds_for po rfl (di_range1 (by rfl) bi.range (da_cons (de_add de_int (de_callF c__law_next tk (hr.mono (by decide)) (by rfl) (da_cons (de_var 1) (da_cons de_int da_nil)))) da_nil)) (dg_name 5 nd)
      (dss_cons (ds_asg (de_callF c__law_next tk (hr.mono (by decide)) (by rfl) (da_cons (de_var 1) (da_cons (de_add (de_cb call_lenA sc_len (by rfl) bi.len (by decide +kernel) (da_cons (de_var 4) da_nil)) de_int) da_nil))) (dg_name 6 nd))
      (dss_one (ds_ins 4 (de_var 6) (de_callF c__law_spoilt tk (hr.mono (by decide)) (by rfl) (da_cons (de_var 1) (da_cons (de_var 2) da_nil)))))))
      (dss_cons (ds_asg de_non (dg_name 7 nd))
      (dss_frz 4 (dss_cons (ds_for po rfl (di_seq (de_var 4)) (dg_sq rfl (dgs_cons (dg_name 8 nd) (dgs_cons (dg_name 9 nd) dgs_nil)))
      (dss_one (ds_if (dt_w (dw_and (dt_cmp op_isN sr_isN (de_var 7) de_non (nomark _)) (dw_and1 (dt_w (dw_or (dt_cmp op_lt sr_I0 (de_var 8) (de_neg (de_pow de_int de_int)) (nomark _)) (dw_or (dt_cmp op_gt sr_I0 (de_var 9) (de_pow de_int de_int) (nomark _)) (dw_or1 (dt_cmp op_gt sr_I0 (de_var 8) (de_var 9) (nomark _)))))))))
      (dss_one (ds_asg (de_tup (da_cons (de_var 8) (da_cons (de_var 9) da_nil))) (dg_name 7 nd)))
      dss_nil)))
      (dss_cons (ds_asg (de_ct call_listS sc_list (by rfl) bi.list (by decide +kernel) (da_cons (de_var 4) da_nil)) (dg_name 10 nd))
      (dss_cons (ds_if (dt_cmp (op_eqA hu) sr_eq (de_callF c__law_next tk (hr.mono (by decide)) (by rfl) (da_cons (de_var 1) (da_cons de_int da_nil))) de_int (nomark _))
      (dss_one (ds_asg (de_ct call_tupleS sc_tuple (by rfl) bi.tuple (by decide +kernel) (da_cons (de_var 4) da_nil)) (dg_name 10 nd)))
      dss_nil)
      (dss_cons (ds_asg (de_callF c__law_refused tk (hr.mono (by decide)) (by rfl) (da_cons (de_var 10) da_nil)) (dg_name 11 nd))
      (dss_cons (ds_if (dt_w (dw_or (dt_cmp (op_neA hu) sr_ne (de_cb call_lenA sc_len (by rfl) bi.len (by decide +kernel) (da_cons (de_var 11) da_nil)) de_int (nomark _)) (dw_or (dt_not (dt_tru (de_callF c__law_is_int tk (hr.mono (by decide)) (by rfl) (da_cons (de_ix ix_S sr_ix (de_var 11) de_int (fun _ _ => rfl)) da_nil)))) (dw_or1 (dt_not (dt_tru (de_callF c__law_is_int tk (hr.mono (by decide)) (by rfl) (da_cons (de_ix ix_S sr_ix (de_var 11) de_int (fun _ _ => rfl)) da_nil))))))))
      (dss_one (ds_ret de_bl))
      dss_nil)
      (dss_cons (ds_if (dt_w (dw_or (dt_cmp (op_neA hu) sr_ne (de_var 11) (de_lst (da_cons (de_ix ix_S sr_ix (de_var 7) de_int (fun _ _ => rfl)) (da_cons (de_ix ix_S sr_ix (de_var 7) de_int (fun _ _ => rfl)) (da_cons de_bl (da_cons de_bl da_nil))))) (nomark _)) (dw_or1 (dt_cmp (op_neA hu) sr_ne (de_ct call_listS sc_list (by rfl) bi.list (by decide +kernel) (da_cons (de_var 10) da_nil)) (de_var 4) (nomark _)))))
      (dss_one (ds_ret de_bl))
      dss_nil)
      (dss_cons (ds_asg (de_makeSl kl_Stretches tk (hr.mono (by decide)) (by rfl) (da_cons (de_ct call_listS sc_list (by rfl) bi.list (by decide +kernel) (da_cons (de_var 3) da_nil)) da_nil)) (dg_name 12 nd))
      (dss_cons (ds_for po rfl (di_seq (de_var 3)) (dg_sq rfl (dgs_cons (dg_name 8 nd) (dgs_cons (dg_name 9 nd) dgs_nil)))
      (dss_one (ds_if (dt_w (dw_or (dt_cmp (L2.OpR.or (op_niS ms_Stretches___contains__ (hr.mono (by decide))) op_notIn_seq) (sr_niS sr_notIn) (de_var 8) (de_var 12) (by with_unfolding_all rfl)) (dw_or1 (dt_cmp (L2.OpR.or (op_niS ms_Stretches___contains__ (hr.mono (by decide))) op_notIn_seq) (sr_niS sr_notIn) (de_var 9) (de_var 12) (by with_unfolding_all rfl)))))
      (dss_one (ds_ret de_bl))
      dss_nil)))
      (dss_cons (ds_asg (de_sub de_int (de_callF c__law_next tk (hr.mono (by decide)) (by rfl) (da_cons (de_var 1) (da_cons (de_pow de_int de_int) da_nil)))) (dg_name 13 nd))
      (dss_cons (ds_asg (de_add de_int (de_callF c__law_next tk (hr.mono (by decide)) (by rfl) (da_cons (de_var 1) (da_cons (de_pow de_int de_int) da_nil)))) (dg_name 14 nd))
      (dss_cons (ds_if (dt_not (dt_tru (de_callF c__law_family tk (hr.mono (by decide)) (by rfl) (da_cons (de_var 13) (da_cons (de_var 14) (da_cons (de_ix ix_S sr_ix (de_lst (da_cons de_str (da_cons de_str (da_cons de_str da_nil)))) (de_callF c__law_next tk (hr.mono (by decide)) (by rfl) (da_cons (de_var 1) (da_cons de_int da_nil))) (fun _ _ => rfl)) da_nil))))))
      (dss_one (ds_ret de_bl))
      dss_nil)
      (dss_one (ds_ret (de_cmp (op_eqA hu) sr_eq (de_callF c__law_refused tk (hr.mono (by decide)) (by rfl) (da_cons (de_var 3) da_nil)) (de_lst da_nil) (nomark _)))))))))))))))))))))
    ⟨_, pss_cons (ps_draws dk tk (hr.mono (by decide)) nd) T.1, T.2⟩) (pure_law kl)
end
def df (x : Str) (st : Stmt) : He.DefD := ⟨(x, none), x, x, defArgs st, defBody st, defScope st, [], []⟩
def fns : List He.DefD := [df "_law_draws" (top 29),
  df "_law_zone" (top 32),
  df "_law_next" (top 30),
  df "_law_pairs" (top 33),
  df "_law_spoilt" (top 34),
  df "_law_refused" (top 35),
  ⟨("Stretches", some "__init__"), "__init__", "Stretches.__init__", defArgs (inClass (top 27) 2), defBody (inClass (top 27) 2), defScope (inClass (top 27) 2), [.adr (He.dflAt ("Stretches", some "__init__") 0)], []⟩,
  df "joined" (top 21),
  df "_law_is_int" (top 31),
  df "_law_family" (top 37),
  df "_law_classes" (top 36),
  ⟨("Stretches", some "__contains__"), "__contains__", "Stretches.__contains__", defArgs (inClass (top 27) 7), defBody (inClass (top 27) 7), defScope (inClass (top 27) 7), [], []⟩,
  df "law" (top 38)]
def fas : List He.Fa := [.free "int", .free "len", .free "min", .free "range", .free "abs", .free "sorted", .free "max", .free "tuple", .free "str", .free "isinstance", .free "bool", .free "ValueError", .free "list", .int "LIMIT_stretches" 1000000000000000000, .str "DIGITS" (PySem.Str.ofString "0123456789"), .glo "_law_draws", .glo "_law_zone", .glo "_law_next", .glo "_law_pairs", .glo "_law_spoilt", .glo "_law_refused", .glo "ReadError", .glo "BadStretch", .glo "BadText", .glo "NoMember", .glo "BadStep", .glo "BadPace", .glo "Contradiction", .glo "NoKey", .glo "Impossible", .glo "BadName", .glo "UnknownName", .glo "WrongRange", .glo "TooMany", .glo "NoAnswer", .glo "NotServed", .glo "Refused", .glo "Stretches", .glo "joined", .mkr "Stretches", .glo "_law_is_int", .glo "_law_family", .glo "_law_classes", .meth "Stretches" "__contains__", .glo "law"]
def fxs : List DefX := [⟨("BadStretch", some "__init__"), "__init__", "BadStretch.__init__", defArgs (inClass (top 3) 0), defBody (inClass (top 3) 0), defScope (inClass (top 3) 0), "BadStretch"⟩,
  ⟨("BadPace", some "__init__"), "__init__", "BadPace.__init__", defArgs (inClass (top 7) 0), defBody (inClass (top 7) 0), defScope (inClass (top 7) 0), "BadPace"⟩,
  ⟨("BadStep", some "__init__"), "__init__", "BadStep.__init__", defArgs (inClass (top 6) 0), defBody (inClass (top 6) 0), defScope (inClass (top 6) 0), "BadStep"⟩,
  ⟨("NoMember", some "__init__"), "__init__", "NoMember.__init__", defArgs (inClass (top 5) 0), defBody (inClass (top 5) 0), defScope (inClass (top 5) 0), "NoMember"⟩,
  ⟨("BadText", some "__init__"), "__init__", "BadText.__init__", defArgs (inClass (top 4) 0), defBody (inClass (top 4) 0), defScope (inClass (top 4) 0), "BadText"⟩,
  ⟨("WrongRange", some "__init__"), "__init__", "WrongRange.__init__", defArgs (inClass (top 13) 0), defBody (inClass (top 13) 0), defScope (inClass (top 13) 0), "WrongRange"⟩,
  ⟨("UnknownName", some "__init__"), "__init__", "UnknownName.__init__", defArgs (inClass (top 12) 0), defBody (inClass (top 12) 0), defScope (inClass (top 12) 0), "UnknownName"⟩,
  ⟨("BadName", some "__init__"), "__init__", "BadName.__init__", defArgs (inClass (top 11) 0), defBody (inClass (top 11) 0), defScope (inClass (top 11) 0), "BadName"⟩,
  ⟨("Impossible", some "__init__"), "__init__", "Impossible.__init__", defArgs (inClass (top 10) 0), defBody (inClass (top 10) 0), defScope (inClass (top 10) 0), "Impossible"⟩,
  ⟨("NoKey", some "__init__"), "__init__", "NoKey.__init__", defArgs (inClass (top 9) 0), defBody (inClass (top 9) 0), defScope (inClass (top 9) 0), "NoKey"⟩,
  ⟨("Refused", some "__init__"), "__init__", "Refused.__init__", defArgs (inClass (top 17) 0), defBody (inClass (top 17) 0), defScope (inClass (top 17) 0), "Refused"⟩,
  ⟨("NotServed", some "__init__"), "__init__", "NotServed.__init__", defArgs (inClass (top 16) 0), defBody (inClass (top 16) 0), defScope (inClass (top 16) 0), "NotServed"⟩,
  ⟨("NoAnswer", some "__init__"), "__init__", "NoAnswer.__init__", defArgs (inClass (top 15) 0), defBody (inClass (top 15) 0), defScope (inClass (top 15) 0), "NoAnswer"⟩,
  ⟨("TooMany", some "__init__"), "__init__", "TooMany.__init__", defArgs (inClass (top 14) 0), defBody (inClass (top 14) 0), defScope (inClass (top 14) 0), "TooMany"⟩]
def exs : List (PySem.W.Frag → Bool) := [fun K => plB K (He.ga K "Stretches"),
  fun K => slcB K (He.ga K "Stretches"),
  fun K => siB K (He.ga K "Stretches"),
  fun K => kiB K (He.ga K "Stretches") (.ref (He.ga K "Stretches")) true,
  fun K => sl1B K (He.ga K "Stretches") "pairs",
  fun K => exmB K (He.ga K "Refused") (He.ga K "ReadError") true,
  fun K => exmB K (He.ga K "NotServed") (He.ga K "ReadError") true,
  fun K => exmB K (He.ga K "NoAnswer") (He.ga K "ReadError") true,
  fun K => exmB K (He.ga K "TooMany") (He.ga K "ReadError") true,
  fun K => exmB K (He.ga K "WrongRange") (He.ga K "ReadError") true,
  fun K => exmB K (He.ga K "UnknownName") (He.ga K "ReadError") true,
  fun K => exmB K (He.ga K "BadName") (He.ga K "ReadError") true,
  fun K => exmB K (He.ga K "Impossible") (He.ga K "ReadError") true,
  fun K => exmB K (He.ga K "NoKey") (He.ga K "ReadError") true,
  fun K => exmB K (He.ga K "Contradiction") (He.ga K "ReadError") true,
  fun K => exmB K (He.ga K "BadPace") (He.ga K "ReadError") true,
  fun K => exmB K (He.ga K "BadStep") (He.ga K "ReadError") true,
  fun K => exmB K (He.ga K "NoMember") (He.ga K "ReadError") true,
  fun K => exmB K (He.ga K "BadText") (He.ga K "ReadError") true,
  fun K => exmB K (He.ga K "BadStretch") (He.ga K "ReadError") true,
  fun K => exmB K (He.ga K "ReadError") (He.ga K "ReadError") true,
  fun K => exmB K (He.ga K "Refused") (He.ga K "BadStretch") false,
  fun K => exmB K (He.ga K "NotServed") (He.ga K "BadStretch") false,
  fun K => exmB K (He.ga K "NoAnswer") (He.ga K "BadStretch") false,
  fun K => exmB K (He.ga K "TooMany") (He.ga K "BadStretch") false,
  fun K => exmB K (He.ga K "WrongRange") (He.ga K "BadStretch") false,
  fun K => exmB K (He.ga K "UnknownName") (He.ga K "BadStretch") false,
  fun K => exmB K (He.ga K "BadName") (He.ga K "BadStretch") false,
  fun K => exmB K (He.ga K "Impossible") (He.ga K "BadStretch") false,
  fun K => exmB K (He.ga K "NoKey") (He.ga K "BadStretch") false,
  fun K => exmB K (He.ga K "Contradiction") (He.ga K "BadStretch") false,
  fun K => exmB K (He.ga K "BadPace") (He.ga K "BadStretch") false,
  fun K => exmB K (He.ga K "BadStep") (He.ga K "BadStretch") false,
  fun K => exmB K (He.ga K "NoMember") (He.ga K "BadStretch") false,
  fun K => exmB K (He.ga K "BadText") (He.ga K "BadStretch") false,
  fun K => exmB K (He.ga K "BadStretch") (He.ga K "BadStretch") true,
  fun K => exmB K (He.ga K "ReadError") (He.ga K "BadStretch") false,
  fun K => excB K (He.ga K "Refused"),
  fun K => kiB K (He.ga K "Refused") (.ref (He.ga K "BadStep")) false,
  fun K => excB K (He.ga K "NotServed"),
  fun K => kiB K (He.ga K "NotServed") (.ref (He.ga K "BadStep")) false,
  fun K => excB K (He.ga K "NoAnswer"),
  fun K => kiB K (He.ga K "NoAnswer") (.ref (He.ga K "BadStep")) false,
  fun K => excB K (He.ga K "TooMany"),
  fun K => kiB K (He.ga K "TooMany") (.ref (He.ga K "BadStep")) false,
  fun K => excB K (He.ga K "WrongRange"),
  fun K => kiB K (He.ga K "WrongRange") (.ref (He.ga K "BadStep")) false,
  fun K => excB K (He.ga K "UnknownName"),
  fun K => kiB K (He.ga K "UnknownName") (.ref (He.ga K "BadStep")) false,
  fun K => excB K (He.ga K "BadName"),
  fun K => kiB K (He.ga K "BadName") (.ref (He.ga K "BadStep")) false,
  fun K => excB K (He.ga K "Impossible"),
  fun K => kiB K (He.ga K "Impossible") (.ref (He.ga K "BadStep")) false,
  fun K => excB K (He.ga K "NoKey"),
  fun K => kiB K (He.ga K "NoKey") (.ref (He.ga K "BadStep")) false,
  fun K => excB K (He.ga K "Contradiction"),
  fun K => kiB K (He.ga K "Contradiction") (.ref (He.ga K "BadStep")) false,
  fun K => excB K (He.ga K "BadPace"),
  fun K => kiB K (He.ga K "BadPace") (.ref (He.ga K "BadStep")) false,
  fun K => excB K (He.ga K "BadStep"),
  fun K => kiB K (He.ga K "BadStep") (.ref (He.ga K "BadStep")) true,
  fun K => excB K (He.ga K "NoMember"),
  fun K => kiB K (He.ga K "NoMember") (.ref (He.ga K "BadStep")) false,
  fun K => excB K (He.ga K "BadText"),
  fun K => kiB K (He.ga K "BadText") (.ref (He.ga K "BadStep")) false,
  fun K => excB K (He.ga K "BadStretch"),
  fun K => kiB K (He.ga K "BadStretch") (.ref (He.ga K "BadStep")) false,
  fun K => excB K (He.ga K "ReadError"),
  fun K => kiB K (He.ga K "ReadError") (.ref (He.ga K "BadStep")) false,
  fun K => kiB K (He.ga K "Refused") (.ref (He.ga K "NoMember")) false,
  fun K => kiB K (He.ga K "NotServed") (.ref (He.ga K "NoMember")) false,
  fun K => kiB K (He.ga K "NoAnswer") (.ref (He.ga K "NoMember")) false,
  fun K => kiB K (He.ga K "TooMany") (.ref (He.ga K "NoMember")) false,
  fun K => kiB K (He.ga K "WrongRange") (.ref (He.ga K "NoMember")) false,
  fun K => kiB K (He.ga K "UnknownName") (.ref (He.ga K "NoMember")) false,
  fun K => kiB K (He.ga K "BadName") (.ref (He.ga K "NoMember")) false,
  fun K => kiB K (He.ga K "Impossible") (.ref (He.ga K "NoMember")) false,
  fun K => kiB K (He.ga K "NoKey") (.ref (He.ga K "NoMember")) false,
  fun K => kiB K (He.ga K "Contradiction") (.ref (He.ga K "NoMember")) false,
  fun K => kiB K (He.ga K "BadPace") (.ref (He.ga K "NoMember")) false,
  fun K => kiB K (He.ga K "BadStep") (.ref (He.ga K "NoMember")) false,
  fun K => kiB K (He.ga K "NoMember") (.ref (He.ga K "NoMember")) true,
  fun K => kiB K (He.ga K "BadText") (.ref (He.ga K "NoMember")) false,
  fun K => kiB K (He.ga K "BadStretch") (.ref (He.ga K "NoMember")) false,
  fun K => kiB K (He.ga K "ReadError") (.ref (He.ga K "NoMember")) false,
  fun K => kiB K (He.ga K "Refused") (.ref (He.ga K "BadText")) false,
  fun K => kiB K (He.ga K "NotServed") (.ref (He.ga K "BadText")) false,
  fun K => kiB K (He.ga K "NoAnswer") (.ref (He.ga K "BadText")) false,
  fun K => kiB K (He.ga K "TooMany") (.ref (He.ga K "BadText")) false,
  fun K => kiB K (He.ga K "WrongRange") (.ref (He.ga K "BadText")) false,
  fun K => kiB K (He.ga K "UnknownName") (.ref (He.ga K "BadText")) false,
  fun K => kiB K (He.ga K "BadName") (.ref (He.ga K "BadText")) false,
  fun K => kiB K (He.ga K "Impossible") (.ref (He.ga K "BadText")) false,
  fun K => kiB K (He.ga K "NoKey") (.ref (He.ga K "BadText")) false,
  fun K => kiB K (He.ga K "Contradiction") (.ref (He.ga K "BadText")) false,
  fun K => kiB K (He.ga K "BadPace") (.ref (He.ga K "BadText")) false,
  fun K => kiB K (He.ga K "BadStep") (.ref (He.ga K "BadText")) false,
  fun K => kiB K (He.ga K "NoMember") (.ref (He.ga K "BadText")) false,
  fun K => kiB K (He.ga K "BadText") (.ref (He.ga K "BadText")) true,
  fun K => kiB K (He.ga K "BadStretch") (.ref (He.ga K "BadText")) false,
  fun K => kiB K (He.ga K "ReadError") (.ref (He.ga K "BadText")) false,
  fun K => kiB K (He.ga K "Refused") (.ref (He.ga K "Contradiction")) false,
  fun K => kiB K (He.ga K "NotServed") (.ref (He.ga K "Contradiction")) false,
  fun K => kiB K (He.ga K "NoAnswer") (.ref (He.ga K "Contradiction")) false,
  fun K => kiB K (He.ga K "TooMany") (.ref (He.ga K "Contradiction")) false,
  fun K => kiB K (He.ga K "WrongRange") (.ref (He.ga K "Contradiction")) false,
  fun K => kiB K (He.ga K "UnknownName") (.ref (He.ga K "Contradiction")) false,
  fun K => kiB K (He.ga K "BadName") (.ref (He.ga K "Contradiction")) false,
  fun K => kiB K (He.ga K "Impossible") (.ref (He.ga K "Contradiction")) false,
  fun K => kiB K (He.ga K "NoKey") (.ref (He.ga K "Contradiction")) false,
  fun K => kiB K (He.ga K "Contradiction") (.ref (He.ga K "Contradiction")) true,
  fun K => kiB K (He.ga K "BadPace") (.ref (He.ga K "Contradiction")) false,
  fun K => kiB K (He.ga K "BadStep") (.ref (He.ga K "Contradiction")) false,
  fun K => kiB K (He.ga K "NoMember") (.ref (He.ga K "Contradiction")) false,
  fun K => kiB K (He.ga K "BadText") (.ref (He.ga K "Contradiction")) false,
  fun K => kiB K (He.ga K "BadStretch") (.ref (He.ga K "Contradiction")) false,
  fun K => kiB K (He.ga K "ReadError") (.ref (He.ga K "Contradiction")) false,
  fun K => kiB K (He.ga K "Refused") (.type "ValueError") true,
  fun K => kiB K (He.ga K "NotServed") (.type "ValueError") true,
  fun K => kiB K (He.ga K "NoAnswer") (.type "ValueError") true,
  fun K => kiB K (He.ga K "TooMany") (.type "ValueError") true,
  fun K => kiB K (He.ga K "WrongRange") (.type "ValueError") true,
  fun K => kiB K (He.ga K "UnknownName") (.type "ValueError") true,
  fun K => kiB K (He.ga K "BadName") (.type "ValueError") true,
  fun K => kiB K (He.ga K "Impossible") (.type "ValueError") true,
  fun K => kiB K (He.ga K "NoKey") (.type "ValueError") true,
  fun K => kiB K (He.ga K "Contradiction") (.type "ValueError") true,
  fun K => kiB K (He.ga K "BadPace") (.type "ValueError") true,
  fun K => kiB K (He.ga K "BadStep") (.type "ValueError") true,
  fun K => kiB K (He.ga K "NoMember") (.type "ValueError") true,
  fun K => kiB K (He.ga K "BadText") (.type "ValueError") true,
  fun K => kiB K (He.ga K "BadStretch") (.type "ValueError") true,
  fun K => kiB K (He.ga K "ReadError") (.type "ValueError") true,
  fun K => kiB K (He.ga K "Refused") (.ref (He.ga K "ReadError")) true,
  fun K => kiB K (He.ga K "NotServed") (.ref (He.ga K "ReadError")) true,
  fun K => kiB K (He.ga K "NoAnswer") (.ref (He.ga K "ReadError")) true,
  fun K => kiB K (He.ga K "TooMany") (.ref (He.ga K "ReadError")) true,
  fun K => kiB K (He.ga K "WrongRange") (.ref (He.ga K "ReadError")) true,
  fun K => kiB K (He.ga K "UnknownName") (.ref (He.ga K "ReadError")) true,
  fun K => kiB K (He.ga K "BadName") (.ref (He.ga K "ReadError")) true,
  fun K => kiB K (He.ga K "Impossible") (.ref (He.ga K "ReadError")) true,
  fun K => kiB K (He.ga K "NoKey") (.ref (He.ga K "ReadError")) true,
  fun K => kiB K (He.ga K "Contradiction") (.ref (He.ga K "ReadError")) true,
  fun K => kiB K (He.ga K "BadPace") (.ref (He.ga K "ReadError")) true,
  fun K => kiB K (He.ga K "BadStep") (.ref (He.ga K "ReadError")) true,
  fun K => kiB K (He.ga K "NoMember") (.ref (He.ga K "ReadError")) true,
  fun K => kiB K (He.ga K "BadText") (.ref (He.ga K "ReadError")) true,
  fun K => kiB K (He.ga K "BadStretch") (.ref (He.ga K "ReadError")) true,
  fun K => kiB K (He.ga K "ReadError") (.ref (He.ga K "ReadError")) true,
  fun K => kiB K (He.ga K "Refused") (.ref (He.ga K "BadStretch")) false,
  fun K => kiB K (He.ga K "NotServed") (.ref (He.ga K "BadStretch")) false,
  fun K => kiB K (He.ga K "NoAnswer") (.ref (He.ga K "BadStretch")) false,
  fun K => kiB K (He.ga K "TooMany") (.ref (He.ga K "BadStretch")) false,
  fun K => kiB K (He.ga K "WrongRange") (.ref (He.ga K "BadStretch")) false,
  fun K => kiB K (He.ga K "UnknownName") (.ref (He.ga K "BadStretch")) false,
  fun K => kiB K (He.ga K "BadName") (.ref (He.ga K "BadStretch")) false,
  fun K => kiB K (He.ga K "Impossible") (.ref (He.ga K "BadStretch")) false,
  fun K => kiB K (He.ga K "NoKey") (.ref (He.ga K "BadStretch")) false,
  fun K => kiB K (He.ga K "Contradiction") (.ref (He.ga K "BadStretch")) false,
  fun K => kiB K (He.ga K "BadPace") (.ref (He.ga K "BadStretch")) false,
  fun K => kiB K (He.ga K "BadStep") (.ref (He.ga K "BadStretch")) false,
  fun K => kiB K (He.ga K "NoMember") (.ref (He.ga K "BadStretch")) false,
  fun K => kiB K (He.ga K "BadText") (.ref (He.ga K "BadStretch")) false,
  fun K => kiB K (He.ga K "BadStretch") (.ref (He.ga K "BadStretch")) true,
  fun K => kiB K (He.ga K "ReadError") (.ref (He.ga K "BadStretch")) false,
  fun K => kiB K (He.ga K "Refused") (.ref (He.ga K "BadPace")) false,
  fun K => kiB K (He.ga K "NotServed") (.ref (He.ga K "BadPace")) false,
  fun K => kiB K (He.ga K "NoAnswer") (.ref (He.ga K "BadPace")) false,
  fun K => kiB K (He.ga K "TooMany") (.ref (He.ga K "BadPace")) false,
  fun K => kiB K (He.ga K "WrongRange") (.ref (He.ga K "BadPace")) false,
  fun K => kiB K (He.ga K "UnknownName") (.ref (He.ga K "BadPace")) false,
  fun K => kiB K (He.ga K "BadName") (.ref (He.ga K "BadPace")) false,
  fun K => kiB K (He.ga K "Impossible") (.ref (He.ga K "BadPace")) false,
  fun K => kiB K (He.ga K "NoKey") (.ref (He.ga K "BadPace")) false,
  fun K => kiB K (He.ga K "Contradiction") (.ref (He.ga K "BadPace")) false,
  fun K => kiB K (He.ga K "BadPace") (.ref (He.ga K "BadPace")) true,
  fun K => kiB K (He.ga K "BadStep") (.ref (He.ga K "BadPace")) false,
  fun K => kiB K (He.ga K "NoMember") (.ref (He.ga K "BadPace")) false,
  fun K => kiB K (He.ga K "BadText") (.ref (He.ga K "BadPace")) false,
  fun K => kiB K (He.ga K "BadStretch") (.ref (He.ga K "BadPace")) false,
  fun K => kiB K (He.ga K "ReadError") (.ref (He.ga K "BadPace")) false,
  fun K => kiB K (He.ga K "Refused") (.ref (He.ga K "BadName")) false,
  fun K => kiB K (He.ga K "NotServed") (.ref (He.ga K "BadName")) false,
  fun K => kiB K (He.ga K "NoAnswer") (.ref (He.ga K "BadName")) false,
  fun K => kiB K (He.ga K "TooMany") (.ref (He.ga K "BadName")) false,
  fun K => kiB K (He.ga K "WrongRange") (.ref (He.ga K "BadName")) false,
  fun K => kiB K (He.ga K "UnknownName") (.ref (He.ga K "BadName")) false,
  fun K => kiB K (He.ga K "BadName") (.ref (He.ga K "BadName")) true,
  fun K => kiB K (He.ga K "Impossible") (.ref (He.ga K "BadName")) false,
  fun K => kiB K (He.ga K "NoKey") (.ref (He.ga K "BadName")) false,
  fun K => kiB K (He.ga K "Contradiction") (.ref (He.ga K "BadName")) false,
  fun K => kiB K (He.ga K "BadPace") (.ref (He.ga K "BadName")) false,
  fun K => kiB K (He.ga K "BadStep") (.ref (He.ga K "BadName")) false,
  fun K => kiB K (He.ga K "NoMember") (.ref (He.ga K "BadName")) false,
  fun K => kiB K (He.ga K "BadText") (.ref (He.ga K "BadName")) false,
  fun K => kiB K (He.ga K "BadStretch") (.ref (He.ga K "BadName")) false,
  fun K => kiB K (He.ga K "ReadError") (.ref (He.ga K "BadName")) false,
  fun K => kiB K (He.ga K "Refused") (.ref (He.ga K "Impossible")) false,
  fun K => kiB K (He.ga K "NotServed") (.ref (He.ga K "Impossible")) false,
  fun K => kiB K (He.ga K "NoAnswer") (.ref (He.ga K "Impossible")) false,
  fun K => kiB K (He.ga K "TooMany") (.ref (He.ga K "Impossible")) false,
  fun K => kiB K (He.ga K "WrongRange") (.ref (He.ga K "Impossible")) false,
  fun K => kiB K (He.ga K "UnknownName") (.ref (He.ga K "Impossible")) false,
  fun K => kiB K (He.ga K "BadName") (.ref (He.ga K "Impossible")) false,
  fun K => kiB K (He.ga K "Impossible") (.ref (He.ga K "Impossible")) true,
  fun K => kiB K (He.ga K "NoKey") (.ref (He.ga K "Impossible")) false,
  fun K => kiB K (He.ga K "Contradiction") (.ref (He.ga K "Impossible")) false,
  fun K => kiB K (He.ga K "BadPace") (.ref (He.ga K "Impossible")) false,
  fun K => kiB K (He.ga K "BadStep") (.ref (He.ga K "Impossible")) false,
  fun K => kiB K (He.ga K "NoMember") (.ref (He.ga K "Impossible")) false,
  fun K => kiB K (He.ga K "BadText") (.ref (He.ga K "Impossible")) false,
  fun K => kiB K (He.ga K "BadStretch") (.ref (He.ga K "Impossible")) false,
  fun K => kiB K (He.ga K "ReadError") (.ref (He.ga K "Impossible")) false,
  fun K => kiB K (He.ga K "Refused") (.ref (He.ga K "NoKey")) false,
  fun K => kiB K (He.ga K "NotServed") (.ref (He.ga K "NoKey")) false,
  fun K => kiB K (He.ga K "NoAnswer") (.ref (He.ga K "NoKey")) false,
  fun K => kiB K (He.ga K "TooMany") (.ref (He.ga K "NoKey")) false,
  fun K => kiB K (He.ga K "WrongRange") (.ref (He.ga K "NoKey")) false,
  fun K => kiB K (He.ga K "UnknownName") (.ref (He.ga K "NoKey")) false,
  fun K => kiB K (He.ga K "BadName") (.ref (He.ga K "NoKey")) false,
  fun K => kiB K (He.ga K "Impossible") (.ref (He.ga K "NoKey")) false,
  fun K => kiB K (He.ga K "NoKey") (.ref (He.ga K "NoKey")) true,
  fun K => kiB K (He.ga K "Contradiction") (.ref (He.ga K "NoKey")) false,
  fun K => kiB K (He.ga K "BadPace") (.ref (He.ga K "NoKey")) false,
  fun K => kiB K (He.ga K "BadStep") (.ref (He.ga K "NoKey")) false,
  fun K => kiB K (He.ga K "NoMember") (.ref (He.ga K "NoKey")) false,
  fun K => kiB K (He.ga K "BadText") (.ref (He.ga K "NoKey")) false,
  fun K => kiB K (He.ga K "BadStretch") (.ref (He.ga K "NoKey")) false,
  fun K => kiB K (He.ga K "ReadError") (.ref (He.ga K "NoKey")) false,
  fun K => kiB K (He.ga K "Refused") (.ref (He.ga K "TooMany")) false,
  fun K => kiB K (He.ga K "NotServed") (.ref (He.ga K "TooMany")) false,
  fun K => kiB K (He.ga K "NoAnswer") (.ref (He.ga K "TooMany")) false,
  fun K => kiB K (He.ga K "TooMany") (.ref (He.ga K "TooMany")) true,
  fun K => kiB K (He.ga K "WrongRange") (.ref (He.ga K "TooMany")) false,
  fun K => kiB K (He.ga K "UnknownName") (.ref (He.ga K "TooMany")) false,
  fun K => kiB K (He.ga K "BadName") (.ref (He.ga K "TooMany")) false,
  fun K => kiB K (He.ga K "Impossible") (.ref (He.ga K "TooMany")) false,
  fun K => kiB K (He.ga K "NoKey") (.ref (He.ga K "TooMany")) false,
  fun K => kiB K (He.ga K "Contradiction") (.ref (He.ga K "TooMany")) false,
  fun K => kiB K (He.ga K "BadPace") (.ref (He.ga K "TooMany")) false,
  fun K => kiB K (He.ga K "BadStep") (.ref (He.ga K "TooMany")) false,
  fun K => kiB K (He.ga K "NoMember") (.ref (He.ga K "TooMany")) false,
  fun K => kiB K (He.ga K "BadText") (.ref (He.ga K "TooMany")) false,
  fun K => kiB K (He.ga K "BadStretch") (.ref (He.ga K "TooMany")) false,
  fun K => kiB K (He.ga K "ReadError") (.ref (He.ga K "TooMany")) false,
  fun K => kiB K (He.ga K "Refused") (.ref (He.ga K "WrongRange")) false,
  fun K => kiB K (He.ga K "NotServed") (.ref (He.ga K "WrongRange")) false,
  fun K => kiB K (He.ga K "NoAnswer") (.ref (He.ga K "WrongRange")) false,
  fun K => kiB K (He.ga K "TooMany") (.ref (He.ga K "WrongRange")) false,
  fun K => kiB K (He.ga K "WrongRange") (.ref (He.ga K "WrongRange")) true,
  fun K => kiB K (He.ga K "UnknownName") (.ref (He.ga K "WrongRange")) false,
  fun K => kiB K (He.ga K "BadName") (.ref (He.ga K "WrongRange")) false,
  fun K => kiB K (He.ga K "Impossible") (.ref (He.ga K "WrongRange")) false,
  fun K => kiB K (He.ga K "NoKey") (.ref (He.ga K "WrongRange")) false,
  fun K => kiB K (He.ga K "Contradiction") (.ref (He.ga K "WrongRange")) false,
  fun K => kiB K (He.ga K "BadPace") (.ref (He.ga K "WrongRange")) false,
  fun K => kiB K (He.ga K "BadStep") (.ref (He.ga K "WrongRange")) false,
  fun K => kiB K (He.ga K "NoMember") (.ref (He.ga K "WrongRange")) false,
  fun K => kiB K (He.ga K "BadText") (.ref (He.ga K "WrongRange")) false,
  fun K => kiB K (He.ga K "BadStretch") (.ref (He.ga K "WrongRange")) false,
  fun K => kiB K (He.ga K "ReadError") (.ref (He.ga K "WrongRange")) false,
  fun K => kiB K (He.ga K "Refused") (.ref (He.ga K "UnknownName")) false,
  fun K => kiB K (He.ga K "NotServed") (.ref (He.ga K "UnknownName")) false,
  fun K => kiB K (He.ga K "NoAnswer") (.ref (He.ga K "UnknownName")) false,
  fun K => kiB K (He.ga K "TooMany") (.ref (He.ga K "UnknownName")) false,
  fun K => kiB K (He.ga K "WrongRange") (.ref (He.ga K "UnknownName")) false,
  fun K => kiB K (He.ga K "UnknownName") (.ref (He.ga K "UnknownName")) true,
  fun K => kiB K (He.ga K "BadName") (.ref (He.ga K "UnknownName")) false,
  fun K => kiB K (He.ga K "Impossible") (.ref (He.ga K "UnknownName")) false,
  fun K => kiB K (He.ga K "NoKey") (.ref (He.ga K "UnknownName")) false,
  fun K => kiB K (He.ga K "Contradiction") (.ref (He.ga K "UnknownName")) false,
  fun K => kiB K (He.ga K "BadPace") (.ref (He.ga K "UnknownName")) false,
  fun K => kiB K (He.ga K "BadStep") (.ref (He.ga K "UnknownName")) false,
  fun K => kiB K (He.ga K "NoMember") (.ref (He.ga K "UnknownName")) false,
  fun K => kiB K (He.ga K "BadText") (.ref (He.ga K "UnknownName")) false,
  fun K => kiB K (He.ga K "BadStretch") (.ref (He.ga K "UnknownName")) false,
  fun K => kiB K (He.ga K "ReadError") (.ref (He.ga K "UnknownName")) false,
  fun K => kiB K (He.ga K "Refused") (.ref (He.ga K "Refused")) true,
  fun K => kiB K (He.ga K "NotServed") (.ref (He.ga K "Refused")) false,
  fun K => kiB K (He.ga K "NoAnswer") (.ref (He.ga K "Refused")) false,
  fun K => kiB K (He.ga K "TooMany") (.ref (He.ga K "Refused")) false,
  fun K => kiB K (He.ga K "WrongRange") (.ref (He.ga K "Refused")) false,
  fun K => kiB K (He.ga K "UnknownName") (.ref (He.ga K "Refused")) false,
  fun K => kiB K (He.ga K "BadName") (.ref (He.ga K "Refused")) false,
  fun K => kiB K (He.ga K "Impossible") (.ref (He.ga K "Refused")) false,
  fun K => kiB K (He.ga K "NoKey") (.ref (He.ga K "Refused")) false,
  fun K => kiB K (He.ga K "Contradiction") (.ref (He.ga K "Refused")) false,
  fun K => kiB K (He.ga K "BadPace") (.ref (He.ga K "Refused")) false,
  fun K => kiB K (He.ga K "BadStep") (.ref (He.ga K "Refused")) false,
  fun K => kiB K (He.ga K "NoMember") (.ref (He.ga K "Refused")) false,
  fun K => kiB K (He.ga K "BadText") (.ref (He.ga K "Refused")) false,
  fun K => kiB K (He.ga K "BadStretch") (.ref (He.ga K "Refused")) false,
  fun K => kiB K (He.ga K "ReadError") (.ref (He.ga K "Refused")) false,
  fun K => kiB K (He.ga K "Refused") (.ref (He.ga K "NotServed")) false,
  fun K => kiB K (He.ga K "NotServed") (.ref (He.ga K "NotServed")) true,
  fun K => kiB K (He.ga K "NoAnswer") (.ref (He.ga K "NotServed")) false,
  fun K => kiB K (He.ga K "TooMany") (.ref (He.ga K "NotServed")) false,
  fun K => kiB K (He.ga K "WrongRange") (.ref (He.ga K "NotServed")) false,
  fun K => kiB K (He.ga K "UnknownName") (.ref (He.ga K "NotServed")) false,
  fun K => kiB K (He.ga K "BadName") (.ref (He.ga K "NotServed")) false,
  fun K => kiB K (He.ga K "Impossible") (.ref (He.ga K "NotServed")) false,
  fun K => kiB K (He.ga K "NoKey") (.ref (He.ga K "NotServed")) false,
  fun K => kiB K (He.ga K "Contradiction") (.ref (He.ga K "NotServed")) false,
  fun K => kiB K (He.ga K "BadPace") (.ref (He.ga K "NotServed")) false,
  fun K => kiB K (He.ga K "BadStep") (.ref (He.ga K "NotServed")) false,
  fun K => kiB K (He.ga K "NoMember") (.ref (He.ga K "NotServed")) false,
  fun K => kiB K (He.ga K "BadText") (.ref (He.ga K "NotServed")) false,
  fun K => kiB K (He.ga K "BadStretch") (.ref (He.ga K "NotServed")) false,
  fun K => kiB K (He.ga K "ReadError") (.ref (He.ga K "NotServed")) false,
  fun K => kiB K (He.ga K "Refused") (.ref (He.ga K "NoAnswer")) false,
  fun K => kiB K (He.ga K "NotServed") (.ref (He.ga K "NoAnswer")) false,
  fun K => kiB K (He.ga K "NoAnswer") (.ref (He.ga K "NoAnswer")) true,
  fun K => kiB K (He.ga K "TooMany") (.ref (He.ga K "NoAnswer")) false,
  fun K => kiB K (He.ga K "WrongRange") (.ref (He.ga K "NoAnswer")) false,
  fun K => kiB K (He.ga K "UnknownName") (.ref (He.ga K "NoAnswer")) false,
  fun K => kiB K (He.ga K "BadName") (.ref (He.ga K "NoAnswer")) false,
  fun K => kiB K (He.ga K "Impossible") (.ref (He.ga K "NoAnswer")) false,
  fun K => kiB K (He.ga K "NoKey") (.ref (He.ga K "NoAnswer")) false,
  fun K => kiB K (He.ga K "Contradiction") (.ref (He.ga K "NoAnswer")) false,
  fun K => kiB K (He.ga K "BadPace") (.ref (He.ga K "NoAnswer")) false,
  fun K => kiB K (He.ga K "BadStep") (.ref (He.ga K "NoAnswer")) false,
  fun K => kiB K (He.ga K "NoMember") (.ref (He.ga K "NoAnswer")) false,
  fun K => kiB K (He.ga K "BadText") (.ref (He.ga K "NoAnswer")) false,
  fun K => kiB K (He.ga K "BadStretch") (.ref (He.ga K "NoAnswer")) false,
  fun K => kiB K (He.ga K "ReadError") (.ref (He.ga K "NoAnswer")) false,
  fun K => noatB K (He.ga K "BadStretch") "high",
  fun K => noatB K (He.ga K "BadStretch") "low",
  fun K => noatB K (He.ga K "BadPace") "slowest",
  fun K => noatB K (He.ga K "BadStep") "number",
  fun K => noatB K (He.ga K "NoMember") "index",
  fun K => noatB K (He.ga K "BadText") "text",
  fun K => noatB K (He.ga K "UnknownName") "name",
  fun K => noatB K (He.ga K "BadName") "name",
  fun K => noatB K (He.ga K "Impossible") "value",
  fun K => noatB K (He.ga K "Impossible") "key",
  fun K => noatB K (He.ga K "NoKey") "key",
  fun K => noatB K (He.ga K "BadPace") "fastest",
  fun K => noatB K (He.ga K "NoAnswer") "key",
  fun K => noatB K (He.ga K "NoAnswer") "name",
  fun K => noatB K (He.ga K "TooMany") "limit",
  fun K => noatB K (He.ga K "WrongRange") "last",
  fun K => noatB K (He.ga K "WrongRange") "first",
  fun K => noatB K (He.ga K "Refused") "name",
  fun K => noatB K (He.ga K "NotServed") "wanted",
  fun K => initB K (He.ga K "BadStretch") (He.fAd K ("BadStretch", some "__init__")),
  fun K => oexB K (He.ga K "BadStretch"),
  fun K => supEB K (He.ga K "BadStretch") (He.ga K "BadStretch"),
  fun K => initB K (He.ga K "BadPace") (He.fAd K ("BadPace", some "__init__")),
  fun K => oexB K (He.ga K "BadPace"),
  fun K => supEB K (He.ga K "BadPace") (He.ga K "BadPace"),
  fun K => initB K (He.ga K "BadStep") (He.fAd K ("BadStep", some "__init__")),
  fun K => oexB K (He.ga K "BadStep"),
  fun K => supEB K (He.ga K "BadStep") (He.ga K "BadStep"),
  fun K => initB K (He.ga K "NoMember") (He.fAd K ("NoMember", some "__init__")),
  fun K => oexB K (He.ga K "NoMember"),
  fun K => supEB K (He.ga K "NoMember") (He.ga K "NoMember"),
  fun K => initB K (He.ga K "BadText") (He.fAd K ("BadText", some "__init__")),
  fun K => oexB K (He.ga K "BadText"),
  fun K => supEB K (He.ga K "BadText") (He.ga K "BadText"),
  fun K => initB K (He.ga K "WrongRange") (He.fAd K ("WrongRange", some "__init__")),
  fun K => oexB K (He.ga K "WrongRange"),
  fun K => supEB K (He.ga K "WrongRange") (He.ga K "WrongRange"),
  fun K => initB K (He.ga K "UnknownName") (He.fAd K ("UnknownName", some "__init__")),
  fun K => oexB K (He.ga K "UnknownName"),
  fun K => supEB K (He.ga K "UnknownName") (He.ga K "UnknownName"),
  fun K => initB K (He.ga K "BadName") (He.fAd K ("BadName", some "__init__")),
  fun K => oexB K (He.ga K "BadName"),
  fun K => supEB K (He.ga K "BadName") (He.ga K "BadName"),
  fun K => initB K (He.ga K "Impossible") (He.fAd K ("Impossible", some "__init__")),
  fun K => oexB K (He.ga K "Impossible"),
  fun K => supEB K (He.ga K "Impossible") (He.ga K "Impossible"),
  fun K => initB K (He.ga K "NoKey") (He.fAd K ("NoKey", some "__init__")),
  fun K => oexB K (He.ga K "NoKey"),
  fun K => supEB K (He.ga K "NoKey") (He.ga K "NoKey"),
  fun K => initB K (He.ga K "Refused") (He.fAd K ("Refused", some "__init__")),
  fun K => oexB K (He.ga K "Refused"),
  fun K => supEB K (He.ga K "Refused") (He.ga K "Refused"),
  fun K => initB K (He.ga K "NotServed") (He.fAd K ("NotServed", some "__init__")),
  fun K => oexB K (He.ga K "NotServed"),
  fun K => supEB K (He.ga K "NotServed") (He.ga K "NotServed"),
  fun K => initB K (He.ga K "NoAnswer") (He.fAd K ("NoAnswer", some "__init__")),
  fun K => oexB K (He.ga K "NoAnswer"),
  fun K => supEB K (He.ga K "NoAnswer") (He.ga K "NoAnswer"),
  fun K => initB K (He.ga K "TooMany") (He.fAd K ("TooMany", some "__init__")),
  fun K => oexB K (He.ga K "TooMany"),
  fun K => supEB K (He.ga K "TooMany") (He.ga K "TooMany"),
  fun K => oexB K (He.ga K "Contradiction"),
  fun K => PySem.W.excIn K (He.ga K "Contradiction") PySem.HandSPX.veTail "ValueError.__new__"]
def fps : List DefP := []
def tp : Top := ⟨fas, fns, fxs, exs, fps⟩
abbrev R : PySem.W.OpenRow := PySem.W.OpenLaw.row PySem.Challenge.rw_stretchesread_k03_refused_stretches
abbrev hk : PySem.W.Hook := hookY R.prog 5 tp
def ob (s : PySem.W.SharedT) : AlX := obsY R.prog 5 tp (HandSHeadRun.getT s)
theorem ob_eq (s : PySem.W.SharedT) : ob s = hk.obs s.abs := obsY_eq (HandSHeadRun.getT_eq s)
def loose : List Str := (["_wall", "ReadError", "BadStretch", "BadText", "NoMember", "BadStep", "BadPace", "Contradiction", "NoKey", "Impossible", "BadName", "UnknownName", "WrongRange", "TooMany", "NoAnswer", "NotServed", "Refused", "LIMIT_stretches", "DIGITS", "joined", "common", "gaps", "written", "read_number", "read_stretch", "Stretches", "_law_draws", "_law_next", "_law_is_int", "_law_zone"] : List Str) ++ (["_law_pairs", "_law_spoilt", "_law_refused", "_law_classes", "_law_family"] : List Str)
theorem run_0 (w : World) : PcEq R 8000 (fun s => (lkY R (PySem.W.view R.prog [38]) loose w s, faO fas (KY 5 s), fpO fps (KY 5 s))) ((((true, PySem.W.openGood (PySem.W.view R.prog [38]) loose) : _ × _), true, fpV fps)) w := by
  intro os
  kernel_rfl
theorem run_1 (w : World) : PcEq R 8000 (fun s => (fnO fns (KY 5 s), exO (exs.take 225) (KY 5 s))) ((fnV fns, exV (exs.take 225))) w := by
  intro os
  kernel_rfl
theorem run_2 (w : World) : PcEq R 8000 (fun s => (exO (exs.drop 225) (KY 5 s), fxO R.prog fxs (KY 5 s))) ((exV (exs.drop 225), fxV fxs)) w := by
  intro os
  kernel_rfl
theorem run (w : World) : HandSHeadRun.RunEq R (PySem.W.view R.prog [38]) hk ob 8000 loose w :=
  run_of (run_0 w).ran fun os s e => ⟨(Prod.mk.inj ((run_0 w).at e)).1, top_of (Prod.mk.inj (Prod.mk.inj ((run_0 w).at e)).2).1 (Prod.mk.inj ((run_1 w).at e)).1 (Prod.mk.inj ((run_2 w).at e)).2 (ex_cut 225 (Prod.mk.inj ((run_1 w).at e)).2 (Prod.mk.inj ((run_2 w).at e)).1) (Prod.mk.inj (Prod.mk.inj ((run_0 w).at e)).2).2⟩
def klOf (K : PySem.W.Frag) : Kl := ⟨He.ga K "ReadError", He.ga K "BadStretch", He.ga K "BadText", He.ga K "NoMember", He.ga K "BadStep", He.ga K "BadPace", He.ga K "Contradiction", He.ga K "NoKey", He.ga K "Impossible", He.ga K "BadName", He.ga K "UnknownName", He.ga K "WrongRange", He.ga K "TooMany", He.ga K "NoAnswer", He.ga K "NotServed", He.ga K "Refused", He.ga K "Stretches"⟩
theorem facts {w : World} {K : PySem.W.Frag} {h : Heap} {mg : Str → Option Value} {fa : Addr} (X : K.In h) (G : h.Ns mainGlobals mg) (hfa : mg ("law" : Str) = some (.ref fa)) (c : tp.obs R.prog K = tp.val) :
    ∃ fd : FuncData, (∀ (s : Shared) (v : Value), BindsTo s fd ⟨[v], []⟩ [("_law_script", v)]) ∧ ∀ base : Heap, K.In base → base.Ns mainGlobals mg → FnOk R.prog w K mg base (L2.CX R.prog w) 6 fa fd ["_law_script"] (spLaw K) := by
  have c1 : He.SaysD fas fns K := Top.sd c
  obtain ⟨fd, F⟩ := c1.def_ 12 (d := df "law" (top 38)) rfl
  have e := hfa.symm.trans (He.glo_ok X G (c1.fact 44 (f := .glo "law") rfl))
  cases e
  have b := FunD.bindsA (ps := ["_law_script"]) F fun _ _ _ _ _ _ us hl => match us, hl with | [_], _ => rfl
  refine ⟨fd, fun s v => b s [v] rfl, fun base _ _ => ?_⟩
  let P : Program := R.prog
  have bi : Bi mg := ⟨He.free_ok X G (c1.fact 0 (f := .free "int") rfl), He.free_ok X G (c1.fact 1 (f := .free "len") rfl), He.free_ok X G (c1.fact 2 (f := .free "min") rfl), He.free_ok X G (c1.fact 3 (f := .free "range") rfl), He.free_ok X G (c1.fact 4 (f := .free "abs") rfl), He.free_ok X G (c1.fact 5 (f := .free "sorted") rfl), He.free_ok X G (c1.fact 6 (f := .free "max") rfl), He.free_ok X G (c1.fact 7 (f := .free "tuple") rfl), He.free_ok X G (c1.fact 8 (f := .free "str") rfl), He.free_ok X G (c1.fact 9 (f := .free "isinstance") rfl), He.free_ok X G (c1.fact 10 (f := .free "bool") rfl), He.free_ok X G (c1.fact 11 (f := .free "ValueError") rfl), He.free_ok X G (c1.fact 12 (f := .free "list") rfl)⟩
  have cs : Cs mg := ⟨He.int_ok X G (c1.fact 13 rfl), He.str_ok X G (c1.fact 14 rfl)⟩
  have dk : Drk P w K mg base := dk__law_draws (defAt_of X G c1 0 15 rfl rfl) bi
  have c__law_next : Fnk P w K mg base "_law_next" 1 ["_law_draws_here", "_law_many"] [] [] sd__law_next := fk__law_next (defAt_of X G c1 2 17 rfl rfl) bi
  have c__law_zone : Fnk P w K mg base "_law_zone" 2 ["_law_draws_here"] [] [] sd__law_zone := fk__law_zone (defAt_of X G c1 1 16 rfl rfl) bi c__law_next
  have c__law_pairs : Fnk P w K mg base "_law_pairs" 2 ["_law_draws_here", "_law_zone_here", "_law_many"] [] [] sd__law_pairs := fk__law_pairs (defAt_of X G c1 3 18 rfl rfl) bi c__law_next
  have c__law_spoilt : Fnk P w K mg base "_law_spoilt" 2 ["_law_draws_here", "_law_zone_here"] [] [] sd__law_spoilt := fk__law_spoilt (defAt_of X G c1 4 19 rfl rfl) bi c__law_next
  have cf : Cf K mg (klOf K) := {
    g_ReadError := (He.glo_ok X G (c1.fact 21 (f := .glo "ReadError") rfl))
    g_BadStretch := (He.glo_ok X G (c1.fact 22 (f := .glo "BadStretch") rfl))
    g_BadText := (He.glo_ok X G (c1.fact 23 (f := .glo "BadText") rfl))
    g_NoMember := (He.glo_ok X G (c1.fact 24 (f := .glo "NoMember") rfl))
    g_BadStep := (He.glo_ok X G (c1.fact 25 (f := .glo "BadStep") rfl))
    g_BadPace := (He.glo_ok X G (c1.fact 26 (f := .glo "BadPace") rfl))
    g_Contradiction := (He.glo_ok X G (c1.fact 27 (f := .glo "Contradiction") rfl))
    g_NoKey := (He.glo_ok X G (c1.fact 28 (f := .glo "NoKey") rfl))
    g_Impossible := (He.glo_ok X G (c1.fact 29 (f := .glo "Impossible") rfl))
    g_BadName := (He.glo_ok X G (c1.fact 30 (f := .glo "BadName") rfl))
    g_UnknownName := (He.glo_ok X G (c1.fact 31 (f := .glo "UnknownName") rfl))
    g_WrongRange := (He.glo_ok X G (c1.fact 32 (f := .glo "WrongRange") rfl))
    g_TooMany := (He.glo_ok X G (c1.fact 33 (f := .glo "TooMany") rfl))
    g_NoAnswer := (He.glo_ok X G (c1.fact 34 (f := .glo "NoAnswer") rfl))
    g_NotServed := (He.glo_ok X G (c1.fact 35 (f := .glo "NotServed") rfl))
    g_Refused := (He.glo_ok X G (c1.fact 36 (f := .glo "Refused") rfl))
    g_Stretches := (He.glo_ok X G (c1.fact 37 (f := .glo "Stretches") rfl))
    is_Stretches := ⟨all_nil, plB_ok (Top.e c 0 rfl)⟩
    iss_Stretches := isTblS_one (Top.e c 1 rfl) (Top.e c 2 rfl) (Top.e c 3 rfl)
    sl_pairs := slOk_one (Top.e c 1 rfl) (Top.e c 4 rfl)
    exm_ReadError := (all_cons (p := fun r : Addr × Bool => PySem.W.exmOne K (.ref r.1) (.ref (klOf K).ReadError) = some r.2) (exmB_ok (Top.e c 20 rfl)) (all_cons (p := fun r : Addr × Bool => PySem.W.exmOne K (.ref r.1) (.ref (klOf K).ReadError) = some r.2) (exmB_ok (Top.e c 19 rfl)) (all_cons (p := fun r : Addr × Bool => PySem.W.exmOne K (.ref r.1) (.ref (klOf K).ReadError) = some r.2) (exmB_ok (Top.e c 18 rfl)) (all_cons (p := fun r : Addr × Bool => PySem.W.exmOne K (.ref r.1) (.ref (klOf K).ReadError) = some r.2) (exmB_ok (Top.e c 17 rfl)) (all_cons (p := fun r : Addr × Bool => PySem.W.exmOne K (.ref r.1) (.ref (klOf K).ReadError) = some r.2) (exmB_ok (Top.e c 16 rfl)) (all_cons (p := fun r : Addr × Bool => PySem.W.exmOne K (.ref r.1) (.ref (klOf K).ReadError) = some r.2) (exmB_ok (Top.e c 15 rfl)) (all_cons (p := fun r : Addr × Bool => PySem.W.exmOne K (.ref r.1) (.ref (klOf K).ReadError) = some r.2) (exmB_ok (Top.e c 14 rfl)) (all_cons (p := fun r : Addr × Bool => PySem.W.exmOne K (.ref r.1) (.ref (klOf K).ReadError) = some r.2) (exmB_ok (Top.e c 13 rfl)) (all_cons (p := fun r : Addr × Bool => PySem.W.exmOne K (.ref r.1) (.ref (klOf K).ReadError) = some r.2) (exmB_ok (Top.e c 12 rfl)) (all_cons (p := fun r : Addr × Bool => PySem.W.exmOne K (.ref r.1) (.ref (klOf K).ReadError) = some r.2) (exmB_ok (Top.e c 11 rfl)) (all_cons (p := fun r : Addr × Bool => PySem.W.exmOne K (.ref r.1) (.ref (klOf K).ReadError) = some r.2) (exmB_ok (Top.e c 10 rfl)) (all_cons (p := fun r : Addr × Bool => PySem.W.exmOne K (.ref r.1) (.ref (klOf K).ReadError) = some r.2) (exmB_ok (Top.e c 9 rfl)) (all_cons (p := fun r : Addr × Bool => PySem.W.exmOne K (.ref r.1) (.ref (klOf K).ReadError) = some r.2) (exmB_ok (Top.e c 8 rfl)) (all_cons (p := fun r : Addr × Bool => PySem.W.exmOne K (.ref r.1) (.ref (klOf K).ReadError) = some r.2) (exmB_ok (Top.e c 7 rfl)) (all_cons (p := fun r : Addr × Bool => PySem.W.exmOne K (.ref r.1) (.ref (klOf K).ReadError) = some r.2) (exmB_ok (Top.e c 6 rfl)) (all_cons (p := fun r : Addr × Bool => PySem.W.exmOne K (.ref r.1) (.ref (klOf K).ReadError) = some r.2) (exmB_ok (Top.e c 5 rfl)) all_nil))))))))))))))))
    exm_BadStretch := (all_cons (p := fun r : Addr × Bool => PySem.W.exmOne K (.ref r.1) (.ref (klOf K).BadStretch) = some r.2) (exmB_ok (Top.e c 36 rfl)) (all_cons (p := fun r : Addr × Bool => PySem.W.exmOne K (.ref r.1) (.ref (klOf K).BadStretch) = some r.2) (exmB_ok (Top.e c 35 rfl)) (all_cons (p := fun r : Addr × Bool => PySem.W.exmOne K (.ref r.1) (.ref (klOf K).BadStretch) = some r.2) (exmB_ok (Top.e c 34 rfl)) (all_cons (p := fun r : Addr × Bool => PySem.W.exmOne K (.ref r.1) (.ref (klOf K).BadStretch) = some r.2) (exmB_ok (Top.e c 33 rfl)) (all_cons (p := fun r : Addr × Bool => PySem.W.exmOne K (.ref r.1) (.ref (klOf K).BadStretch) = some r.2) (exmB_ok (Top.e c 32 rfl)) (all_cons (p := fun r : Addr × Bool => PySem.W.exmOne K (.ref r.1) (.ref (klOf K).BadStretch) = some r.2) (exmB_ok (Top.e c 31 rfl)) (all_cons (p := fun r : Addr × Bool => PySem.W.exmOne K (.ref r.1) (.ref (klOf K).BadStretch) = some r.2) (exmB_ok (Top.e c 30 rfl)) (all_cons (p := fun r : Addr × Bool => PySem.W.exmOne K (.ref r.1) (.ref (klOf K).BadStretch) = some r.2) (exmB_ok (Top.e c 29 rfl)) (all_cons (p := fun r : Addr × Bool => PySem.W.exmOne K (.ref r.1) (.ref (klOf K).BadStretch) = some r.2) (exmB_ok (Top.e c 28 rfl)) (all_cons (p := fun r : Addr × Bool => PySem.W.exmOne K (.ref r.1) (.ref (klOf K).BadStretch) = some r.2) (exmB_ok (Top.e c 27 rfl)) (all_cons (p := fun r : Addr × Bool => PySem.W.exmOne K (.ref r.1) (.ref (klOf K).BadStretch) = some r.2) (exmB_ok (Top.e c 26 rfl)) (all_cons (p := fun r : Addr × Bool => PySem.W.exmOne K (.ref r.1) (.ref (klOf K).BadStretch) = some r.2) (exmB_ok (Top.e c 25 rfl)) (all_cons (p := fun r : Addr × Bool => PySem.W.exmOne K (.ref r.1) (.ref (klOf K).BadStretch) = some r.2) (exmB_ok (Top.e c 24 rfl)) (all_cons (p := fun r : Addr × Bool => PySem.W.exmOne K (.ref r.1) (.ref (klOf K).BadStretch) = some r.2) (exmB_ok (Top.e c 23 rfl)) (all_cons (p := fun r : Addr × Bool => PySem.W.exmOne K (.ref r.1) (.ref (klOf K).BadStretch) = some r.2) (exmB_ok (Top.e c 22 rfl)) (all_cons (p := fun r : Addr × Bool => PySem.W.exmOne K (.ref r.1) (.ref (klOf K).BadStretch) = some r.2) (exmB_ok (Top.e c 21 rfl)) all_nil))))))))))))))))
    isx_BadStep := ⟨(all_cons (p := fun r : Addr × Bool => ExcC K r.1 ∧ (PySem.W.clsIn K r.1).isSome = true) (excB_ok (Top.e c 67 rfl)) (all_cons (p := fun r : Addr × Bool => ExcC K r.1 ∧ (PySem.W.clsIn K r.1).isSome = true) (excB_ok (Top.e c 65 rfl)) (all_cons (p := fun r : Addr × Bool => ExcC K r.1 ∧ (PySem.W.clsIn K r.1).isSome = true) (excB_ok (Top.e c 63 rfl)) (all_cons (p := fun r : Addr × Bool => ExcC K r.1 ∧ (PySem.W.clsIn K r.1).isSome = true) (excB_ok (Top.e c 61 rfl)) (all_cons (p := fun r : Addr × Bool => ExcC K r.1 ∧ (PySem.W.clsIn K r.1).isSome = true) (excB_ok (Top.e c 59 rfl)) (all_cons (p := fun r : Addr × Bool => ExcC K r.1 ∧ (PySem.W.clsIn K r.1).isSome = true) (excB_ok (Top.e c 57 rfl)) (all_cons (p := fun r : Addr × Bool => ExcC K r.1 ∧ (PySem.W.clsIn K r.1).isSome = true) (excB_ok (Top.e c 55 rfl)) (all_cons (p := fun r : Addr × Bool => ExcC K r.1 ∧ (PySem.W.clsIn K r.1).isSome = true) (excB_ok (Top.e c 53 rfl)) (all_cons (p := fun r : Addr × Bool => ExcC K r.1 ∧ (PySem.W.clsIn K r.1).isSome = true) (excB_ok (Top.e c 51 rfl)) (all_cons (p := fun r : Addr × Bool => ExcC K r.1 ∧ (PySem.W.clsIn K r.1).isSome = true) (excB_ok (Top.e c 49 rfl)) (all_cons (p := fun r : Addr × Bool => ExcC K r.1 ∧ (PySem.W.clsIn K r.1).isSome = true) (excB_ok (Top.e c 47 rfl)) (all_cons (p := fun r : Addr × Bool => ExcC K r.1 ∧ (PySem.W.clsIn K r.1).isSome = true) (excB_ok (Top.e c 45 rfl)) (all_cons (p := fun r : Addr × Bool => ExcC K r.1 ∧ (PySem.W.clsIn K r.1).isSome = true) (excB_ok (Top.e c 43 rfl)) (all_cons (p := fun r : Addr × Bool => ExcC K r.1 ∧ (PySem.W.clsIn K r.1).isSome = true) (excB_ok (Top.e c 41 rfl)) (all_cons (p := fun r : Addr × Bool => ExcC K r.1 ∧ (PySem.W.clsIn K r.1).isSome = true) (excB_ok (Top.e c 39 rfl)) (all_cons (p := fun r : Addr × Bool => ExcC K r.1 ∧ (PySem.W.clsIn K r.1).isSome = true) (excB_ok (Top.e c 37 rfl)) all_nil)))))))))))))))), (.ref (He.ga K "BadStep")), fun u => relRef, (all_cons (p := fun r : Addr × Bool => PySem.W.kitOne K (.ref r.1) (.ref (He.ga K "BadStep")) = some r.2) (kiB_ok (Top.e c 68 rfl)) (all_cons (p := fun r : Addr × Bool => PySem.W.kitOne K (.ref r.1) (.ref (He.ga K "BadStep")) = some r.2) (kiB_ok (Top.e c 66 rfl)) (all_cons (p := fun r : Addr × Bool => PySem.W.kitOne K (.ref r.1) (.ref (He.ga K "BadStep")) = some r.2) (kiB_ok (Top.e c 64 rfl)) (all_cons (p := fun r : Addr × Bool => PySem.W.kitOne K (.ref r.1) (.ref (He.ga K "BadStep")) = some r.2) (kiB_ok (Top.e c 62 rfl)) (all_cons (p := fun r : Addr × Bool => PySem.W.kitOne K (.ref r.1) (.ref (He.ga K "BadStep")) = some r.2) (kiB_ok (Top.e c 60 rfl)) (all_cons (p := fun r : Addr × Bool => PySem.W.kitOne K (.ref r.1) (.ref (He.ga K "BadStep")) = some r.2) (kiB_ok (Top.e c 58 rfl)) (all_cons (p := fun r : Addr × Bool => PySem.W.kitOne K (.ref r.1) (.ref (He.ga K "BadStep")) = some r.2) (kiB_ok (Top.e c 56 rfl)) (all_cons (p := fun r : Addr × Bool => PySem.W.kitOne K (.ref r.1) (.ref (He.ga K "BadStep")) = some r.2) (kiB_ok (Top.e c 54 rfl)) (all_cons (p := fun r : Addr × Bool => PySem.W.kitOne K (.ref r.1) (.ref (He.ga K "BadStep")) = some r.2) (kiB_ok (Top.e c 52 rfl)) (all_cons (p := fun r : Addr × Bool => PySem.W.kitOne K (.ref r.1) (.ref (He.ga K "BadStep")) = some r.2) (kiB_ok (Top.e c 50 rfl)) (all_cons (p := fun r : Addr × Bool => PySem.W.kitOne K (.ref r.1) (.ref (He.ga K "BadStep")) = some r.2) (kiB_ok (Top.e c 48 rfl)) (all_cons (p := fun r : Addr × Bool => PySem.W.kitOne K (.ref r.1) (.ref (He.ga K "BadStep")) = some r.2) (kiB_ok (Top.e c 46 rfl)) (all_cons (p := fun r : Addr × Bool => PySem.W.kitOne K (.ref r.1) (.ref (He.ga K "BadStep")) = some r.2) (kiB_ok (Top.e c 44 rfl)) (all_cons (p := fun r : Addr × Bool => PySem.W.kitOne K (.ref r.1) (.ref (He.ga K "BadStep")) = some r.2) (kiB_ok (Top.e c 42 rfl)) (all_cons (p := fun r : Addr × Bool => PySem.W.kitOne K (.ref r.1) (.ref (He.ga K "BadStep")) = some r.2) (kiB_ok (Top.e c 40 rfl)) (all_cons (p := fun r : Addr × Bool => PySem.W.kitOne K (.ref r.1) (.ref (He.ga K "BadStep")) = some r.2) (kiB_ok (Top.e c 38 rfl)) all_nil))))))))))))))))⟩
    isx_NoMember := ⟨(all_cons (p := fun r : Addr × Bool => ExcC K r.1 ∧ (PySem.W.clsIn K r.1).isSome = true) (excB_ok (Top.e c 67 rfl)) (all_cons (p := fun r : Addr × Bool => ExcC K r.1 ∧ (PySem.W.clsIn K r.1).isSome = true) (excB_ok (Top.e c 65 rfl)) (all_cons (p := fun r : Addr × Bool => ExcC K r.1 ∧ (PySem.W.clsIn K r.1).isSome = true) (excB_ok (Top.e c 63 rfl)) (all_cons (p := fun r : Addr × Bool => ExcC K r.1 ∧ (PySem.W.clsIn K r.1).isSome = true) (excB_ok (Top.e c 61 rfl)) (all_cons (p := fun r : Addr × Bool => ExcC K r.1 ∧ (PySem.W.clsIn K r.1).isSome = true) (excB_ok (Top.e c 59 rfl)) (all_cons (p := fun r : Addr × Bool => ExcC K r.1 ∧ (PySem.W.clsIn K r.1).isSome = true) (excB_ok (Top.e c 57 rfl)) (all_cons (p := fun r : Addr × Bool => ExcC K r.1 ∧ (PySem.W.clsIn K r.1).isSome = true) (excB_ok (Top.e c 55 rfl)) (all_cons (p := fun r : Addr × Bool => ExcC K r.1 ∧ (PySem.W.clsIn K r.1).isSome = true) (excB_ok (Top.e c 53 rfl)) (all_cons (p := fun r : Addr × Bool => ExcC K r.1 ∧ (PySem.W.clsIn K r.1).isSome = true) (excB_ok (Top.e c 51 rfl)) (all_cons (p := fun r : Addr × Bool => ExcC K r.1 ∧ (PySem.W.clsIn K r.1).isSome = true) (excB_ok (Top.e c 49 rfl)) (all_cons (p := fun r : Addr × Bool => ExcC K r.1 ∧ (PySem.W.clsIn K r.1).isSome = true) (excB_ok (Top.e c 47 rfl)) (all_cons (p := fun r : Addr × Bool => ExcC K r.1 ∧ (PySem.W.clsIn K r.1).isSome = true) (excB_ok (Top.e c 45 rfl)) (all_cons (p := fun r : Addr × Bool => ExcC K r.1 ∧ (PySem.W.clsIn K r.1).isSome = true) (excB_ok (Top.e c 43 rfl)) (all_cons (p := fun r : Addr × Bool => ExcC K r.1 ∧ (PySem.W.clsIn K r.1).isSome = true) (excB_ok (Top.e c 41 rfl)) (all_cons (p := fun r : Addr × Bool => ExcC K r.1 ∧ (PySem.W.clsIn K r.1).isSome = true) (excB_ok (Top.e c 39 rfl)) (all_cons (p := fun r : Addr × Bool => ExcC K r.1 ∧ (PySem.W.clsIn K r.1).isSome = true) (excB_ok (Top.e c 37 rfl)) all_nil)))))))))))))))), (.ref (He.ga K "NoMember")), fun u => relRef, (all_cons (p := fun r : Addr × Bool => PySem.W.kitOne K (.ref r.1) (.ref (He.ga K "NoMember")) = some r.2) (kiB_ok (Top.e c 84 rfl)) (all_cons (p := fun r : Addr × Bool => PySem.W.kitOne K (.ref r.1) (.ref (He.ga K "NoMember")) = some r.2) (kiB_ok (Top.e c 83 rfl)) (all_cons (p := fun r : Addr × Bool => PySem.W.kitOne K (.ref r.1) (.ref (He.ga K "NoMember")) = some r.2) (kiB_ok (Top.e c 82 rfl)) (all_cons (p := fun r : Addr × Bool => PySem.W.kitOne K (.ref r.1) (.ref (He.ga K "NoMember")) = some r.2) (kiB_ok (Top.e c 81 rfl)) (all_cons (p := fun r : Addr × Bool => PySem.W.kitOne K (.ref r.1) (.ref (He.ga K "NoMember")) = some r.2) (kiB_ok (Top.e c 80 rfl)) (all_cons (p := fun r : Addr × Bool => PySem.W.kitOne K (.ref r.1) (.ref (He.ga K "NoMember")) = some r.2) (kiB_ok (Top.e c 79 rfl)) (all_cons (p := fun r : Addr × Bool => PySem.W.kitOne K (.ref r.1) (.ref (He.ga K "NoMember")) = some r.2) (kiB_ok (Top.e c 78 rfl)) (all_cons (p := fun r : Addr × Bool => PySem.W.kitOne K (.ref r.1) (.ref (He.ga K "NoMember")) = some r.2) (kiB_ok (Top.e c 77 rfl)) (all_cons (p := fun r : Addr × Bool => PySem.W.kitOne K (.ref r.1) (.ref (He.ga K "NoMember")) = some r.2) (kiB_ok (Top.e c 76 rfl)) (all_cons (p := fun r : Addr × Bool => PySem.W.kitOne K (.ref r.1) (.ref (He.ga K "NoMember")) = some r.2) (kiB_ok (Top.e c 75 rfl)) (all_cons (p := fun r : Addr × Bool => PySem.W.kitOne K (.ref r.1) (.ref (He.ga K "NoMember")) = some r.2) (kiB_ok (Top.e c 74 rfl)) (all_cons (p := fun r : Addr × Bool => PySem.W.kitOne K (.ref r.1) (.ref (He.ga K "NoMember")) = some r.2) (kiB_ok (Top.e c 73 rfl)) (all_cons (p := fun r : Addr × Bool => PySem.W.kitOne K (.ref r.1) (.ref (He.ga K "NoMember")) = some r.2) (kiB_ok (Top.e c 72 rfl)) (all_cons (p := fun r : Addr × Bool => PySem.W.kitOne K (.ref r.1) (.ref (He.ga K "NoMember")) = some r.2) (kiB_ok (Top.e c 71 rfl)) (all_cons (p := fun r : Addr × Bool => PySem.W.kitOne K (.ref r.1) (.ref (He.ga K "NoMember")) = some r.2) (kiB_ok (Top.e c 70 rfl)) (all_cons (p := fun r : Addr × Bool => PySem.W.kitOne K (.ref r.1) (.ref (He.ga K "NoMember")) = some r.2) (kiB_ok (Top.e c 69 rfl)) all_nil))))))))))))))))⟩
    isx_BadText := ⟨(all_cons (p := fun r : Addr × Bool => ExcC K r.1 ∧ (PySem.W.clsIn K r.1).isSome = true) (excB_ok (Top.e c 67 rfl)) (all_cons (p := fun r : Addr × Bool => ExcC K r.1 ∧ (PySem.W.clsIn K r.1).isSome = true) (excB_ok (Top.e c 65 rfl)) (all_cons (p := fun r : Addr × Bool => ExcC K r.1 ∧ (PySem.W.clsIn K r.1).isSome = true) (excB_ok (Top.e c 63 rfl)) (all_cons (p := fun r : Addr × Bool => ExcC K r.1 ∧ (PySem.W.clsIn K r.1).isSome = true) (excB_ok (Top.e c 61 rfl)) (all_cons (p := fun r : Addr × Bool => ExcC K r.1 ∧ (PySem.W.clsIn K r.1).isSome = true) (excB_ok (Top.e c 59 rfl)) (all_cons (p := fun r : Addr × Bool => ExcC K r.1 ∧ (PySem.W.clsIn K r.1).isSome = true) (excB_ok (Top.e c 57 rfl)) (all_cons (p := fun r : Addr × Bool => ExcC K r.1 ∧ (PySem.W.clsIn K r.1).isSome = true) (excB_ok (Top.e c 55 rfl)) (all_cons (p := fun r : Addr × Bool => ExcC K r.1 ∧ (PySem.W.clsIn K r.1).isSome = true) (excB_ok (Top.e c 53 rfl)) (all_cons (p := fun r : Addr × Bool => ExcC K r.1 ∧ (PySem.W.clsIn K r.1).isSome = true) (excB_ok (Top.e c 51 rfl)) (all_cons (p := fun r : Addr × Bool => ExcC K r.1 ∧ (PySem.W.clsIn K r.1).isSome = true) (excB_ok (Top.e c 49 rfl)) (all_cons (p := fun r : Addr × Bool => ExcC K r.1 ∧ (PySem.W.clsIn K r.1).isSome = true) (excB_ok (Top.e c 47 rfl)) (all_cons (p := fun r : Addr × Bool => ExcC K r.1 ∧ (PySem.W.clsIn K r.1).isSome = true) (excB_ok (Top.e c 45 rfl)) (all_cons (p := fun r : Addr × Bool => ExcC K r.1 ∧ (PySem.W.clsIn K r.1).isSome = true) (excB_ok (Top.e c 43 rfl)) (all_cons (p := fun r : Addr × Bool => ExcC K r.1 ∧ (PySem.W.clsIn K r.1).isSome = true) (excB_ok (Top.e c 41 rfl)) (all_cons (p := fun r : Addr × Bool => ExcC K r.1 ∧ (PySem.W.clsIn K r.1).isSome = true) (excB_ok (Top.e c 39 rfl)) (all_cons (p := fun r : Addr × Bool => ExcC K r.1 ∧ (PySem.W.clsIn K r.1).isSome = true) (excB_ok (Top.e c 37 rfl)) all_nil)))))))))))))))), (.ref (He.ga K "BadText")), fun u => relRef, (all_cons (p := fun r : Addr × Bool => PySem.W.kitOne K (.ref r.1) (.ref (He.ga K "BadText")) = some r.2) (kiB_ok (Top.e c 100 rfl)) (all_cons (p := fun r : Addr × Bool => PySem.W.kitOne K (.ref r.1) (.ref (He.ga K "BadText")) = some r.2) (kiB_ok (Top.e c 99 rfl)) (all_cons (p := fun r : Addr × Bool => PySem.W.kitOne K (.ref r.1) (.ref (He.ga K "BadText")) = some r.2) (kiB_ok (Top.e c 98 rfl)) (all_cons (p := fun r : Addr × Bool => PySem.W.kitOne K (.ref r.1) (.ref (He.ga K "BadText")) = some r.2) (kiB_ok (Top.e c 97 rfl)) (all_cons (p := fun r : Addr × Bool => PySem.W.kitOne K (.ref r.1) (.ref (He.ga K "BadText")) = some r.2) (kiB_ok (Top.e c 96 rfl)) (all_cons (p := fun r : Addr × Bool => PySem.W.kitOne K (.ref r.1) (.ref (He.ga K "BadText")) = some r.2) (kiB_ok (Top.e c 95 rfl)) (all_cons (p := fun r : Addr × Bool => PySem.W.kitOne K (.ref r.1) (.ref (He.ga K "BadText")) = some r.2) (kiB_ok (Top.e c 94 rfl)) (all_cons (p := fun r : Addr × Bool => PySem.W.kitOne K (.ref r.1) (.ref (He.ga K "BadText")) = some r.2) (kiB_ok (Top.e c 93 rfl)) (all_cons (p := fun r : Addr × Bool => PySem.W.kitOne K (.ref r.1) (.ref (He.ga K "BadText")) = some r.2) (kiB_ok (Top.e c 92 rfl)) (all_cons (p := fun r : Addr × Bool => PySem.W.kitOne K (.ref r.1) (.ref (He.ga K "BadText")) = some r.2) (kiB_ok (Top.e c 91 rfl)) (all_cons (p := fun r : Addr × Bool => PySem.W.kitOne K (.ref r.1) (.ref (He.ga K "BadText")) = some r.2) (kiB_ok (Top.e c 90 rfl)) (all_cons (p := fun r : Addr × Bool => PySem.W.kitOne K (.ref r.1) (.ref (He.ga K "BadText")) = some r.2) (kiB_ok (Top.e c 89 rfl)) (all_cons (p := fun r : Addr × Bool => PySem.W.kitOne K (.ref r.1) (.ref (He.ga K "BadText")) = some r.2) (kiB_ok (Top.e c 88 rfl)) (all_cons (p := fun r : Addr × Bool => PySem.W.kitOne K (.ref r.1) (.ref (He.ga K "BadText")) = some r.2) (kiB_ok (Top.e c 87 rfl)) (all_cons (p := fun r : Addr × Bool => PySem.W.kitOne K (.ref r.1) (.ref (He.ga K "BadText")) = some r.2) (kiB_ok (Top.e c 86 rfl)) (all_cons (p := fun r : Addr × Bool => PySem.W.kitOne K (.ref r.1) (.ref (He.ga K "BadText")) = some r.2) (kiB_ok (Top.e c 85 rfl)) all_nil))))))))))))))))⟩
    isx_Contradiction := ⟨(all_cons (p := fun r : Addr × Bool => ExcC K r.1 ∧ (PySem.W.clsIn K r.1).isSome = true) (excB_ok (Top.e c 67 rfl)) (all_cons (p := fun r : Addr × Bool => ExcC K r.1 ∧ (PySem.W.clsIn K r.1).isSome = true) (excB_ok (Top.e c 65 rfl)) (all_cons (p := fun r : Addr × Bool => ExcC K r.1 ∧ (PySem.W.clsIn K r.1).isSome = true) (excB_ok (Top.e c 63 rfl)) (all_cons (p := fun r : Addr × Bool => ExcC K r.1 ∧ (PySem.W.clsIn K r.1).isSome = true) (excB_ok (Top.e c 61 rfl)) (all_cons (p := fun r : Addr × Bool => ExcC K r.1 ∧ (PySem.W.clsIn K r.1).isSome = true) (excB_ok (Top.e c 59 rfl)) (all_cons (p := fun r : Addr × Bool => ExcC K r.1 ∧ (PySem.W.clsIn K r.1).isSome = true) (excB_ok (Top.e c 57 rfl)) (all_cons (p := fun r : Addr × Bool => ExcC K r.1 ∧ (PySem.W.clsIn K r.1).isSome = true) (excB_ok (Top.e c 55 rfl)) (all_cons (p := fun r : Addr × Bool => ExcC K r.1 ∧ (PySem.W.clsIn K r.1).isSome = true) (excB_ok (Top.e c 53 rfl)) (all_cons (p := fun r : Addr × Bool => ExcC K r.1 ∧ (PySem.W.clsIn K r.1).isSome = true) (excB_ok (Top.e c 51 rfl)) (all_cons (p := fun r : Addr × Bool => ExcC K r.1 ∧ (PySem.W.clsIn K r.1).isSome = true) (excB_ok (Top.e c 49 rfl)) (all_cons (p := fun r : Addr × Bool => ExcC K r.1 ∧ (PySem.W.clsIn K r.1).isSome = true) (excB_ok (Top.e c 47 rfl)) (all_cons (p := fun r : Addr × Bool => ExcC K r.1 ∧ (PySem.W.clsIn K r.1).isSome = true) (excB_ok (Top.e c 45 rfl)) (all_cons (p := fun r : Addr × Bool => ExcC K r.1 ∧ (PySem.W.clsIn K r.1).isSome = true) (excB_ok (Top.e c 43 rfl)) (all_cons (p := fun r : Addr × Bool => ExcC K r.1 ∧ (PySem.W.clsIn K r.1).isSome = true) (excB_ok (Top.e c 41 rfl)) (all_cons (p := fun r : Addr × Bool => ExcC K r.1 ∧ (PySem.W.clsIn K r.1).isSome = true) (excB_ok (Top.e c 39 rfl)) (all_cons (p := fun r : Addr × Bool => ExcC K r.1 ∧ (PySem.W.clsIn K r.1).isSome = true) (excB_ok (Top.e c 37 rfl)) all_nil)))))))))))))))), (.ref (He.ga K "Contradiction")), fun u => relRef, (all_cons (p := fun r : Addr × Bool => PySem.W.kitOne K (.ref r.1) (.ref (He.ga K "Contradiction")) = some r.2) (kiB_ok (Top.e c 116 rfl)) (all_cons (p := fun r : Addr × Bool => PySem.W.kitOne K (.ref r.1) (.ref (He.ga K "Contradiction")) = some r.2) (kiB_ok (Top.e c 115 rfl)) (all_cons (p := fun r : Addr × Bool => PySem.W.kitOne K (.ref r.1) (.ref (He.ga K "Contradiction")) = some r.2) (kiB_ok (Top.e c 114 rfl)) (all_cons (p := fun r : Addr × Bool => PySem.W.kitOne K (.ref r.1) (.ref (He.ga K "Contradiction")) = some r.2) (kiB_ok (Top.e c 113 rfl)) (all_cons (p := fun r : Addr × Bool => PySem.W.kitOne K (.ref r.1) (.ref (He.ga K "Contradiction")) = some r.2) (kiB_ok (Top.e c 112 rfl)) (all_cons (p := fun r : Addr × Bool => PySem.W.kitOne K (.ref r.1) (.ref (He.ga K "Contradiction")) = some r.2) (kiB_ok (Top.e c 111 rfl)) (all_cons (p := fun r : Addr × Bool => PySem.W.kitOne K (.ref r.1) (.ref (He.ga K "Contradiction")) = some r.2) (kiB_ok (Top.e c 110 rfl)) (all_cons (p := fun r : Addr × Bool => PySem.W.kitOne K (.ref r.1) (.ref (He.ga K "Contradiction")) = some r.2) (kiB_ok (Top.e c 109 rfl)) (all_cons (p := fun r : Addr × Bool => PySem.W.kitOne K (.ref r.1) (.ref (He.ga K "Contradiction")) = some r.2) (kiB_ok (Top.e c 108 rfl)) (all_cons (p := fun r : Addr × Bool => PySem.W.kitOne K (.ref r.1) (.ref (He.ga K "Contradiction")) = some r.2) (kiB_ok (Top.e c 107 rfl)) (all_cons (p := fun r : Addr × Bool => PySem.W.kitOne K (.ref r.1) (.ref (He.ga K "Contradiction")) = some r.2) (kiB_ok (Top.e c 106 rfl)) (all_cons (p := fun r : Addr × Bool => PySem.W.kitOne K (.ref r.1) (.ref (He.ga K "Contradiction")) = some r.2) (kiB_ok (Top.e c 105 rfl)) (all_cons (p := fun r : Addr × Bool => PySem.W.kitOne K (.ref r.1) (.ref (He.ga K "Contradiction")) = some r.2) (kiB_ok (Top.e c 104 rfl)) (all_cons (p := fun r : Addr × Bool => PySem.W.kitOne K (.ref r.1) (.ref (He.ga K "Contradiction")) = some r.2) (kiB_ok (Top.e c 103 rfl)) (all_cons (p := fun r : Addr × Bool => PySem.W.kitOne K (.ref r.1) (.ref (He.ga K "Contradiction")) = some r.2) (kiB_ok (Top.e c 102 rfl)) (all_cons (p := fun r : Addr × Bool => PySem.W.kitOne K (.ref r.1) (.ref (He.ga K "Contradiction")) = some r.2) (kiB_ok (Top.e c 101 rfl)) all_nil))))))))))))))))⟩
    isx_ValueError := ⟨(all_cons (p := fun r : Addr × Bool => ExcC K r.1 ∧ (PySem.W.clsIn K r.1).isSome = true) (excB_ok (Top.e c 67 rfl)) (all_cons (p := fun r : Addr × Bool => ExcC K r.1 ∧ (PySem.W.clsIn K r.1).isSome = true) (excB_ok (Top.e c 65 rfl)) (all_cons (p := fun r : Addr × Bool => ExcC K r.1 ∧ (PySem.W.clsIn K r.1).isSome = true) (excB_ok (Top.e c 63 rfl)) (all_cons (p := fun r : Addr × Bool => ExcC K r.1 ∧ (PySem.W.clsIn K r.1).isSome = true) (excB_ok (Top.e c 61 rfl)) (all_cons (p := fun r : Addr × Bool => ExcC K r.1 ∧ (PySem.W.clsIn K r.1).isSome = true) (excB_ok (Top.e c 59 rfl)) (all_cons (p := fun r : Addr × Bool => ExcC K r.1 ∧ (PySem.W.clsIn K r.1).isSome = true) (excB_ok (Top.e c 57 rfl)) (all_cons (p := fun r : Addr × Bool => ExcC K r.1 ∧ (PySem.W.clsIn K r.1).isSome = true) (excB_ok (Top.e c 55 rfl)) (all_cons (p := fun r : Addr × Bool => ExcC K r.1 ∧ (PySem.W.clsIn K r.1).isSome = true) (excB_ok (Top.e c 53 rfl)) (all_cons (p := fun r : Addr × Bool => ExcC K r.1 ∧ (PySem.W.clsIn K r.1).isSome = true) (excB_ok (Top.e c 51 rfl)) (all_cons (p := fun r : Addr × Bool => ExcC K r.1 ∧ (PySem.W.clsIn K r.1).isSome = true) (excB_ok (Top.e c 49 rfl)) (all_cons (p := fun r : Addr × Bool => ExcC K r.1 ∧ (PySem.W.clsIn K r.1).isSome = true) (excB_ok (Top.e c 47 rfl)) (all_cons (p := fun r : Addr × Bool => ExcC K r.1 ∧ (PySem.W.clsIn K r.1).isSome = true) (excB_ok (Top.e c 45 rfl)) (all_cons (p := fun r : Addr × Bool => ExcC K r.1 ∧ (PySem.W.clsIn K r.1).isSome = true) (excB_ok (Top.e c 43 rfl)) (all_cons (p := fun r : Addr × Bool => ExcC K r.1 ∧ (PySem.W.clsIn K r.1).isSome = true) (excB_ok (Top.e c 41 rfl)) (all_cons (p := fun r : Addr × Bool => ExcC K r.1 ∧ (PySem.W.clsIn K r.1).isSome = true) (excB_ok (Top.e c 39 rfl)) (all_cons (p := fun r : Addr × Bool => ExcC K r.1 ∧ (PySem.W.clsIn K r.1).isSome = true) (excB_ok (Top.e c 37 rfl)) all_nil)))))))))))))))), (.type "ValueError"), fun u => relTy, (all_cons (p := fun r : Addr × Bool => PySem.W.kitOne K (.ref r.1) (.type "ValueError") = some r.2) (kiB_ok (Top.e c 132 rfl)) (all_cons (p := fun r : Addr × Bool => PySem.W.kitOne K (.ref r.1) (.type "ValueError") = some r.2) (kiB_ok (Top.e c 131 rfl)) (all_cons (p := fun r : Addr × Bool => PySem.W.kitOne K (.ref r.1) (.type "ValueError") = some r.2) (kiB_ok (Top.e c 130 rfl)) (all_cons (p := fun r : Addr × Bool => PySem.W.kitOne K (.ref r.1) (.type "ValueError") = some r.2) (kiB_ok (Top.e c 129 rfl)) (all_cons (p := fun r : Addr × Bool => PySem.W.kitOne K (.ref r.1) (.type "ValueError") = some r.2) (kiB_ok (Top.e c 128 rfl)) (all_cons (p := fun r : Addr × Bool => PySem.W.kitOne K (.ref r.1) (.type "ValueError") = some r.2) (kiB_ok (Top.e c 127 rfl)) (all_cons (p := fun r : Addr × Bool => PySem.W.kitOne K (.ref r.1) (.type "ValueError") = some r.2) (kiB_ok (Top.e c 126 rfl)) (all_cons (p := fun r : Addr × Bool => PySem.W.kitOne K (.ref r.1) (.type "ValueError") = some r.2) (kiB_ok (Top.e c 125 rfl)) (all_cons (p := fun r : Addr × Bool => PySem.W.kitOne K (.ref r.1) (.type "ValueError") = some r.2) (kiB_ok (Top.e c 124 rfl)) (all_cons (p := fun r : Addr × Bool => PySem.W.kitOne K (.ref r.1) (.type "ValueError") = some r.2) (kiB_ok (Top.e c 123 rfl)) (all_cons (p := fun r : Addr × Bool => PySem.W.kitOne K (.ref r.1) (.type "ValueError") = some r.2) (kiB_ok (Top.e c 122 rfl)) (all_cons (p := fun r : Addr × Bool => PySem.W.kitOne K (.ref r.1) (.type "ValueError") = some r.2) (kiB_ok (Top.e c 121 rfl)) (all_cons (p := fun r : Addr × Bool => PySem.W.kitOne K (.ref r.1) (.type "ValueError") = some r.2) (kiB_ok (Top.e c 120 rfl)) (all_cons (p := fun r : Addr × Bool => PySem.W.kitOne K (.ref r.1) (.type "ValueError") = some r.2) (kiB_ok (Top.e c 119 rfl)) (all_cons (p := fun r : Addr × Bool => PySem.W.kitOne K (.ref r.1) (.type "ValueError") = some r.2) (kiB_ok (Top.e c 118 rfl)) (all_cons (p := fun r : Addr × Bool => PySem.W.kitOne K (.ref r.1) (.type "ValueError") = some r.2) (kiB_ok (Top.e c 117 rfl)) all_nil))))))))))))))))⟩
    isx_ReadError := ⟨(all_cons (p := fun r : Addr × Bool => ExcC K r.1 ∧ (PySem.W.clsIn K r.1).isSome = true) (excB_ok (Top.e c 67 rfl)) (all_cons (p := fun r : Addr × Bool => ExcC K r.1 ∧ (PySem.W.clsIn K r.1).isSome = true) (excB_ok (Top.e c 65 rfl)) (all_cons (p := fun r : Addr × Bool => ExcC K r.1 ∧ (PySem.W.clsIn K r.1).isSome = true) (excB_ok (Top.e c 63 rfl)) (all_cons (p := fun r : Addr × Bool => ExcC K r.1 ∧ (PySem.W.clsIn K r.1).isSome = true) (excB_ok (Top.e c 61 rfl)) (all_cons (p := fun r : Addr × Bool => ExcC K r.1 ∧ (PySem.W.clsIn K r.1).isSome = true) (excB_ok (Top.e c 59 rfl)) (all_cons (p := fun r : Addr × Bool => ExcC K r.1 ∧ (PySem.W.clsIn K r.1).isSome = true) (excB_ok (Top.e c 57 rfl)) (all_cons (p := fun r : Addr × Bool => ExcC K r.1 ∧ (PySem.W.clsIn K r.1).isSome = true) (excB_ok (Top.e c 55 rfl)) (all_cons (p := fun r : Addr × Bool => ExcC K r.1 ∧ (PySem.W.clsIn K r.1).isSome = true) (excB_ok (Top.e c 53 rfl)) (all_cons (p := fun r : Addr × Bool => ExcC K r.1 ∧ (PySem.W.clsIn K r.1).isSome = true) (excB_ok (Top.e c 51 rfl)) (all_cons (p := fun r : Addr × Bool => ExcC K r.1 ∧ (PySem.W.clsIn K r.1).isSome = true) (excB_ok (Top.e c 49 rfl)) (all_cons (p := fun r : Addr × Bool => ExcC K r.1 ∧ (PySem.W.clsIn K r.1).isSome = true) (excB_ok (Top.e c 47 rfl)) (all_cons (p := fun r : Addr × Bool => ExcC K r.1 ∧ (PySem.W.clsIn K r.1).isSome = true) (excB_ok (Top.e c 45 rfl)) (all_cons (p := fun r : Addr × Bool => ExcC K r.1 ∧ (PySem.W.clsIn K r.1).isSome = true) (excB_ok (Top.e c 43 rfl)) (all_cons (p := fun r : Addr × Bool => ExcC K r.1 ∧ (PySem.W.clsIn K r.1).isSome = true) (excB_ok (Top.e c 41 rfl)) (all_cons (p := fun r : Addr × Bool => ExcC K r.1 ∧ (PySem.W.clsIn K r.1).isSome = true) (excB_ok (Top.e c 39 rfl)) (all_cons (p := fun r : Addr × Bool => ExcC K r.1 ∧ (PySem.W.clsIn K r.1).isSome = true) (excB_ok (Top.e c 37 rfl)) all_nil)))))))))))))))), (.ref (He.ga K "ReadError")), fun u => relRef, (all_cons (p := fun r : Addr × Bool => PySem.W.kitOne K (.ref r.1) (.ref (He.ga K "ReadError")) = some r.2) (kiB_ok (Top.e c 148 rfl)) (all_cons (p := fun r : Addr × Bool => PySem.W.kitOne K (.ref r.1) (.ref (He.ga K "ReadError")) = some r.2) (kiB_ok (Top.e c 147 rfl)) (all_cons (p := fun r : Addr × Bool => PySem.W.kitOne K (.ref r.1) (.ref (He.ga K "ReadError")) = some r.2) (kiB_ok (Top.e c 146 rfl)) (all_cons (p := fun r : Addr × Bool => PySem.W.kitOne K (.ref r.1) (.ref (He.ga K "ReadError")) = some r.2) (kiB_ok (Top.e c 145 rfl)) (all_cons (p := fun r : Addr × Bool => PySem.W.kitOne K (.ref r.1) (.ref (He.ga K "ReadError")) = some r.2) (kiB_ok (Top.e c 144 rfl)) (all_cons (p := fun r : Addr × Bool => PySem.W.kitOne K (.ref r.1) (.ref (He.ga K "ReadError")) = some r.2) (kiB_ok (Top.e c 143 rfl)) (all_cons (p := fun r : Addr × Bool => PySem.W.kitOne K (.ref r.1) (.ref (He.ga K "ReadError")) = some r.2) (kiB_ok (Top.e c 142 rfl)) (all_cons (p := fun r : Addr × Bool => PySem.W.kitOne K (.ref r.1) (.ref (He.ga K "ReadError")) = some r.2) (kiB_ok (Top.e c 141 rfl)) (all_cons (p := fun r : Addr × Bool => PySem.W.kitOne K (.ref r.1) (.ref (He.ga K "ReadError")) = some r.2) (kiB_ok (Top.e c 140 rfl)) (all_cons (p := fun r : Addr × Bool => PySem.W.kitOne K (.ref r.1) (.ref (He.ga K "ReadError")) = some r.2) (kiB_ok (Top.e c 139 rfl)) (all_cons (p := fun r : Addr × Bool => PySem.W.kitOne K (.ref r.1) (.ref (He.ga K "ReadError")) = some r.2) (kiB_ok (Top.e c 138 rfl)) (all_cons (p := fun r : Addr × Bool => PySem.W.kitOne K (.ref r.1) (.ref (He.ga K "ReadError")) = some r.2) (kiB_ok (Top.e c 137 rfl)) (all_cons (p := fun r : Addr × Bool => PySem.W.kitOne K (.ref r.1) (.ref (He.ga K "ReadError")) = some r.2) (kiB_ok (Top.e c 136 rfl)) (all_cons (p := fun r : Addr × Bool => PySem.W.kitOne K (.ref r.1) (.ref (He.ga K "ReadError")) = some r.2) (kiB_ok (Top.e c 135 rfl)) (all_cons (p := fun r : Addr × Bool => PySem.W.kitOne K (.ref r.1) (.ref (He.ga K "ReadError")) = some r.2) (kiB_ok (Top.e c 134 rfl)) (all_cons (p := fun r : Addr × Bool => PySem.W.kitOne K (.ref r.1) (.ref (He.ga K "ReadError")) = some r.2) (kiB_ok (Top.e c 133 rfl)) all_nil))))))))))))))))⟩
    isx_BadStretch := ⟨(all_cons (p := fun r : Addr × Bool => ExcC K r.1 ∧ (PySem.W.clsIn K r.1).isSome = true) (excB_ok (Top.e c 67 rfl)) (all_cons (p := fun r : Addr × Bool => ExcC K r.1 ∧ (PySem.W.clsIn K r.1).isSome = true) (excB_ok (Top.e c 65 rfl)) (all_cons (p := fun r : Addr × Bool => ExcC K r.1 ∧ (PySem.W.clsIn K r.1).isSome = true) (excB_ok (Top.e c 63 rfl)) (all_cons (p := fun r : Addr × Bool => ExcC K r.1 ∧ (PySem.W.clsIn K r.1).isSome = true) (excB_ok (Top.e c 61 rfl)) (all_cons (p := fun r : Addr × Bool => ExcC K r.1 ∧ (PySem.W.clsIn K r.1).isSome = true) (excB_ok (Top.e c 59 rfl)) (all_cons (p := fun r : Addr × Bool => ExcC K r.1 ∧ (PySem.W.clsIn K r.1).isSome = true) (excB_ok (Top.e c 57 rfl)) (all_cons (p := fun r : Addr × Bool => ExcC K r.1 ∧ (PySem.W.clsIn K r.1).isSome = true) (excB_ok (Top.e c 55 rfl)) (all_cons (p := fun r : Addr × Bool => ExcC K r.1 ∧ (PySem.W.clsIn K r.1).isSome = true) (excB_ok (Top.e c 53 rfl)) (all_cons (p := fun r : Addr × Bool => ExcC K r.1 ∧ (PySem.W.clsIn K r.1).isSome = true) (excB_ok (Top.e c 51 rfl)) (all_cons (p := fun r : Addr × Bool => ExcC K r.1 ∧ (PySem.W.clsIn K r.1).isSome = true) (excB_ok (Top.e c 49 rfl)) (all_cons (p := fun r : Addr × Bool => ExcC K r.1 ∧ (PySem.W.clsIn K r.1).isSome = true) (excB_ok (Top.e c 47 rfl)) (all_cons (p := fun r : Addr × Bool => ExcC K r.1 ∧ (PySem.W.clsIn K r.1).isSome = true) (excB_ok (Top.e c 45 rfl)) (all_cons (p := fun r : Addr × Bool => ExcC K r.1 ∧ (PySem.W.clsIn K r.1).isSome = true) (excB_ok (Top.e c 43 rfl)) (all_cons (p := fun r : Addr × Bool => ExcC K r.1 ∧ (PySem.W.clsIn K r.1).isSome = true) (excB_ok (Top.e c 41 rfl)) (all_cons (p := fun r : Addr × Bool => ExcC K r.1 ∧ (PySem.W.clsIn K r.1).isSome = true) (excB_ok (Top.e c 39 rfl)) (all_cons (p := fun r : Addr × Bool => ExcC K r.1 ∧ (PySem.W.clsIn K r.1).isSome = true) (excB_ok (Top.e c 37 rfl)) all_nil)))))))))))))))), (.ref (He.ga K "BadStretch")), fun u => relRef, (all_cons (p := fun r : Addr × Bool => PySem.W.kitOne K (.ref r.1) (.ref (He.ga K "BadStretch")) = some r.2) (kiB_ok (Top.e c 164 rfl)) (all_cons (p := fun r : Addr × Bool => PySem.W.kitOne K (.ref r.1) (.ref (He.ga K "BadStretch")) = some r.2) (kiB_ok (Top.e c 163 rfl)) (all_cons (p := fun r : Addr × Bool => PySem.W.kitOne K (.ref r.1) (.ref (He.ga K "BadStretch")) = some r.2) (kiB_ok (Top.e c 162 rfl)) (all_cons (p := fun r : Addr × Bool => PySem.W.kitOne K (.ref r.1) (.ref (He.ga K "BadStretch")) = some r.2) (kiB_ok (Top.e c 161 rfl)) (all_cons (p := fun r : Addr × Bool => PySem.W.kitOne K (.ref r.1) (.ref (He.ga K "BadStretch")) = some r.2) (kiB_ok (Top.e c 160 rfl)) (all_cons (p := fun r : Addr × Bool => PySem.W.kitOne K (.ref r.1) (.ref (He.ga K "BadStretch")) = some r.2) (kiB_ok (Top.e c 159 rfl)) (all_cons (p := fun r : Addr × Bool => PySem.W.kitOne K (.ref r.1) (.ref (He.ga K "BadStretch")) = some r.2) (kiB_ok (Top.e c 158 rfl)) (all_cons (p := fun r : Addr × Bool => PySem.W.kitOne K (.ref r.1) (.ref (He.ga K "BadStretch")) = some r.2) (kiB_ok (Top.e c 157 rfl)) (all_cons (p := fun r : Addr × Bool => PySem.W.kitOne K (.ref r.1) (.ref (He.ga K "BadStretch")) = some r.2) (kiB_ok (Top.e c 156 rfl)) (all_cons (p := fun r : Addr × Bool => PySem.W.kitOne K (.ref r.1) (.ref (He.ga K "BadStretch")) = some r.2) (kiB_ok (Top.e c 155 rfl)) (all_cons (p := fun r : Addr × Bool => PySem.W.kitOne K (.ref r.1) (.ref (He.ga K "BadStretch")) = some r.2) (kiB_ok (Top.e c 154 rfl)) (all_cons (p := fun r : Addr × Bool => PySem.W.kitOne K (.ref r.1) (.ref (He.ga K "BadStretch")) = some r.2) (kiB_ok (Top.e c 153 rfl)) (all_cons (p := fun r : Addr × Bool => PySem.W.kitOne K (.ref r.1) (.ref (He.ga K "BadStretch")) = some r.2) (kiB_ok (Top.e c 152 rfl)) (all_cons (p := fun r : Addr × Bool => PySem.W.kitOne K (.ref r.1) (.ref (He.ga K "BadStretch")) = some r.2) (kiB_ok (Top.e c 151 rfl)) (all_cons (p := fun r : Addr × Bool => PySem.W.kitOne K (.ref r.1) (.ref (He.ga K "BadStretch")) = some r.2) (kiB_ok (Top.e c 150 rfl)) (all_cons (p := fun r : Addr × Bool => PySem.W.kitOne K (.ref r.1) (.ref (He.ga K "BadStretch")) = some r.2) (kiB_ok (Top.e c 149 rfl)) all_nil))))))))))))))))⟩
    isx_BadPace := ⟨(all_cons (p := fun r : Addr × Bool => ExcC K r.1 ∧ (PySem.W.clsIn K r.1).isSome = true) (excB_ok (Top.e c 67 rfl)) (all_cons (p := fun r : Addr × Bool => ExcC K r.1 ∧ (PySem.W.clsIn K r.1).isSome = true) (excB_ok (Top.e c 65 rfl)) (all_cons (p := fun r : Addr × Bool => ExcC K r.1 ∧ (PySem.W.clsIn K r.1).isSome = true) (excB_ok (Top.e c 63 rfl)) (all_cons (p := fun r : Addr × Bool => ExcC K r.1 ∧ (PySem.W.clsIn K r.1).isSome = true) (excB_ok (Top.e c 61 rfl)) (all_cons (p := fun r : Addr × Bool => ExcC K r.1 ∧ (PySem.W.clsIn K r.1).isSome = true) (excB_ok (Top.e c 59 rfl)) (all_cons (p := fun r : Addr × Bool => ExcC K r.1 ∧ (PySem.W.clsIn K r.1).isSome = true) (excB_ok (Top.e c 57 rfl)) (all_cons (p := fun r : Addr × Bool => ExcC K r.1 ∧ (PySem.W.clsIn K r.1).isSome = true) (excB_ok (Top.e c 55 rfl)) (all_cons (p := fun r : Addr × Bool => ExcC K r.1 ∧ (PySem.W.clsIn K r.1).isSome = true) (excB_ok (Top.e c 53 rfl)) (all_cons (p := fun r : Addr × Bool => ExcC K r.1 ∧ (PySem.W.clsIn K r.1).isSome = true) (excB_ok (Top.e c 51 rfl)) (all_cons (p := fun r : Addr × Bool => ExcC K r.1 ∧ (PySem.W.clsIn K r.1).isSome = true) (excB_ok (Top.e c 49 rfl)) (all_cons (p := fun r : Addr × Bool => ExcC K r.1 ∧ (PySem.W.clsIn K r.1).isSome = true) (excB_ok (Top.e c 47 rfl)) (all_cons (p := fun r : Addr × Bool => ExcC K r.1 ∧ (PySem.W.clsIn K r.1).isSome = true) (excB_ok (Top.e c 45 rfl)) (all_cons (p := fun r : Addr × Bool => ExcC K r.1 ∧ (PySem.W.clsIn K r.1).isSome = true) (excB_ok (Top.e c 43 rfl)) (all_cons (p := fun r : Addr × Bool => ExcC K r.1 ∧ (PySem.W.clsIn K r.1).isSome = true) (excB_ok (Top.e c 41 rfl)) (all_cons (p := fun r : Addr × Bool => ExcC K r.1 ∧ (PySem.W.clsIn K r.1).isSome = true) (excB_ok (Top.e c 39 rfl)) (all_cons (p := fun r : Addr × Bool => ExcC K r.1 ∧ (PySem.W.clsIn K r.1).isSome = true) (excB_ok (Top.e c 37 rfl)) all_nil)))))))))))))))), (.ref (He.ga K "BadPace")), fun u => relRef, (all_cons (p := fun r : Addr × Bool => PySem.W.kitOne K (.ref r.1) (.ref (He.ga K "BadPace")) = some r.2) (kiB_ok (Top.e c 180 rfl)) (all_cons (p := fun r : Addr × Bool => PySem.W.kitOne K (.ref r.1) (.ref (He.ga K "BadPace")) = some r.2) (kiB_ok (Top.e c 179 rfl)) (all_cons (p := fun r : Addr × Bool => PySem.W.kitOne K (.ref r.1) (.ref (He.ga K "BadPace")) = some r.2) (kiB_ok (Top.e c 178 rfl)) (all_cons (p := fun r : Addr × Bool => PySem.W.kitOne K (.ref r.1) (.ref (He.ga K "BadPace")) = some r.2) (kiB_ok (Top.e c 177 rfl)) (all_cons (p := fun r : Addr × Bool => PySem.W.kitOne K (.ref r.1) (.ref (He.ga K "BadPace")) = some r.2) (kiB_ok (Top.e c 176 rfl)) (all_cons (p := fun r : Addr × Bool => PySem.W.kitOne K (.ref r.1) (.ref (He.ga K "BadPace")) = some r.2) (kiB_ok (Top.e c 175 rfl)) (all_cons (p := fun r : Addr × Bool => PySem.W.kitOne K (.ref r.1) (.ref (He.ga K "BadPace")) = some r.2) (kiB_ok (Top.e c 174 rfl)) (all_cons (p := fun r : Addr × Bool => PySem.W.kitOne K (.ref r.1) (.ref (He.ga K "BadPace")) = some r.2) (kiB_ok (Top.e c 173 rfl)) (all_cons (p := fun r : Addr × Bool => PySem.W.kitOne K (.ref r.1) (.ref (He.ga K "BadPace")) = some r.2) (kiB_ok (Top.e c 172 rfl)) (all_cons (p := fun r : Addr × Bool => PySem.W.kitOne K (.ref r.1) (.ref (He.ga K "BadPace")) = some r.2) (kiB_ok (Top.e c 171 rfl)) (all_cons (p := fun r : Addr × Bool => PySem.W.kitOne K (.ref r.1) (.ref (He.ga K "BadPace")) = some r.2) (kiB_ok (Top.e c 170 rfl)) (all_cons (p := fun r : Addr × Bool => PySem.W.kitOne K (.ref r.1) (.ref (He.ga K "BadPace")) = some r.2) (kiB_ok (Top.e c 169 rfl)) (all_cons (p := fun r : Addr × Bool => PySem.W.kitOne K (.ref r.1) (.ref (He.ga K "BadPace")) = some r.2) (kiB_ok (Top.e c 168 rfl)) (all_cons (p := fun r : Addr × Bool => PySem.W.kitOne K (.ref r.1) (.ref (He.ga K "BadPace")) = some r.2) (kiB_ok (Top.e c 167 rfl)) (all_cons (p := fun r : Addr × Bool => PySem.W.kitOne K (.ref r.1) (.ref (He.ga K "BadPace")) = some r.2) (kiB_ok (Top.e c 166 rfl)) (all_cons (p := fun r : Addr × Bool => PySem.W.kitOne K (.ref r.1) (.ref (He.ga K "BadPace")) = some r.2) (kiB_ok (Top.e c 165 rfl)) all_nil))))))))))))))))⟩
    isx_BadName := ⟨(all_cons (p := fun r : Addr × Bool => ExcC K r.1 ∧ (PySem.W.clsIn K r.1).isSome = true) (excB_ok (Top.e c 67 rfl)) (all_cons (p := fun r : Addr × Bool => ExcC K r.1 ∧ (PySem.W.clsIn K r.1).isSome = true) (excB_ok (Top.e c 65 rfl)) (all_cons (p := fun r : Addr × Bool => ExcC K r.1 ∧ (PySem.W.clsIn K r.1).isSome = true) (excB_ok (Top.e c 63 rfl)) (all_cons (p := fun r : Addr × Bool => ExcC K r.1 ∧ (PySem.W.clsIn K r.1).isSome = true) (excB_ok (Top.e c 61 rfl)) (all_cons (p := fun r : Addr × Bool => ExcC K r.1 ∧ (PySem.W.clsIn K r.1).isSome = true) (excB_ok (Top.e c 59 rfl)) (all_cons (p := fun r : Addr × Bool => ExcC K r.1 ∧ (PySem.W.clsIn K r.1).isSome = true) (excB_ok (Top.e c 57 rfl)) (all_cons (p := fun r : Addr × Bool => ExcC K r.1 ∧ (PySem.W.clsIn K r.1).isSome = true) (excB_ok (Top.e c 55 rfl)) (all_cons (p := fun r : Addr × Bool => ExcC K r.1 ∧ (PySem.W.clsIn K r.1).isSome = true) (excB_ok (Top.e c 53 rfl)) (all_cons (p := fun r : Addr × Bool => ExcC K r.1 ∧ (PySem.W.clsIn K r.1).isSome = true) (excB_ok (Top.e c 51 rfl)) (all_cons (p := fun r : Addr × Bool => ExcC K r.1 ∧ (PySem.W.clsIn K r.1).isSome = true) (excB_ok (Top.e c 49 rfl)) (all_cons (p := fun r : Addr × Bool => ExcC K r.1 ∧ (PySem.W.clsIn K r.1).isSome = true) (excB_ok (Top.e c 47 rfl)) (all_cons (p := fun r : Addr × Bool => ExcC K r.1 ∧ (PySem.W.clsIn K r.1).isSome = true) (excB_ok (Top.e c 45 rfl)) (all_cons (p := fun r : Addr × Bool => ExcC K r.1 ∧ (PySem.W.clsIn K r.1).isSome = true) (excB_ok (Top.e c 43 rfl)) (all_cons (p := fun r : Addr × Bool => ExcC K r.1 ∧ (PySem.W.clsIn K r.1).isSome = true) (excB_ok (Top.e c 41 rfl)) (all_cons (p := fun r : Addr × Bool => ExcC K r.1 ∧ (PySem.W.clsIn K r.1).isSome = true) (excB_ok (Top.e c 39 rfl)) (all_cons (p := fun r : Addr × Bool => ExcC K r.1 ∧ (PySem.W.clsIn K r.1).isSome = true) (excB_ok (Top.e c 37 rfl)) all_nil)))))))))))))))), (.ref (He.ga K "BadName")), fun u => relRef, (all_cons (p := fun r : Addr × Bool => PySem.W.kitOne K (.ref r.1) (.ref (He.ga K "BadName")) = some r.2) (kiB_ok (Top.e c 196 rfl)) (all_cons (p := fun r : Addr × Bool => PySem.W.kitOne K (.ref r.1) (.ref (He.ga K "BadName")) = some r.2) (kiB_ok (Top.e c 195 rfl)) (all_cons (p := fun r : Addr × Bool => PySem.W.kitOne K (.ref r.1) (.ref (He.ga K "BadName")) = some r.2) (kiB_ok (Top.e c 194 rfl)) (all_cons (p := fun r : Addr × Bool => PySem.W.kitOne K (.ref r.1) (.ref (He.ga K "BadName")) = some r.2) (kiB_ok (Top.e c 193 rfl)) (all_cons (p := fun r : Addr × Bool => PySem.W.kitOne K (.ref r.1) (.ref (He.ga K "BadName")) = some r.2) (kiB_ok (Top.e c 192 rfl)) (all_cons (p := fun r : Addr × Bool => PySem.W.kitOne K (.ref r.1) (.ref (He.ga K "BadName")) = some r.2) (kiB_ok (Top.e c 191 rfl)) (all_cons (p := fun r : Addr × Bool => PySem.W.kitOne K (.ref r.1) (.ref (He.ga K "BadName")) = some r.2) (kiB_ok (Top.e c 190 rfl)) (all_cons (p := fun r : Addr × Bool => PySem.W.kitOne K (.ref r.1) (.ref (He.ga K "BadName")) = some r.2) (kiB_ok (Top.e c 189 rfl)) (all_cons (p := fun r : Addr × Bool => PySem.W.kitOne K (.ref r.1) (.ref (He.ga K "BadName")) = some r.2) (kiB_ok (Top.e c 188 rfl)) (all_cons (p := fun r : Addr × Bool => PySem.W.kitOne K (.ref r.1) (.ref (He.ga K "BadName")) = some r.2) (kiB_ok (Top.e c 187 rfl)) (all_cons (p := fun r : Addr × Bool => PySem.W.kitOne K (.ref r.1) (.ref (He.ga K "BadName")) = some r.2) (kiB_ok (Top.e c 186 rfl)) (all_cons (p := fun r : Addr × Bool => PySem.W.kitOne K (.ref r.1) (.ref (He.ga K "BadName")) = some r.2) (kiB_ok (Top.e c 185 rfl)) (all_cons (p := fun r : Addr × Bool => PySem.W.kitOne K (.ref r.1) (.ref (He.ga K "BadName")) = some r.2) (kiB_ok (Top.e c 184 rfl)) (all_cons (p := fun r : Addr × Bool => PySem.W.kitOne K (.ref r.1) (.ref (He.ga K "BadName")) = some r.2) (kiB_ok (Top.e c 183 rfl)) (all_cons (p := fun r : Addr × Bool => PySem.W.kitOne K (.ref r.1) (.ref (He.ga K "BadName")) = some r.2) (kiB_ok (Top.e c 182 rfl)) (all_cons (p := fun r : Addr × Bool => PySem.W.kitOne K (.ref r.1) (.ref (He.ga K "BadName")) = some r.2) (kiB_ok (Top.e c 181 rfl)) all_nil))))))))))))))))⟩
    isx_Impossible := ⟨(all_cons (p := fun r : Addr × Bool => ExcC K r.1 ∧ (PySem.W.clsIn K r.1).isSome = true) (excB_ok (Top.e c 67 rfl)) (all_cons (p := fun r : Addr × Bool => ExcC K r.1 ∧ (PySem.W.clsIn K r.1).isSome = true) (excB_ok (Top.e c 65 rfl)) (all_cons (p := fun r : Addr × Bool => ExcC K r.1 ∧ (PySem.W.clsIn K r.1).isSome = true) (excB_ok (Top.e c 63 rfl)) (all_cons (p := fun r : Addr × Bool => ExcC K r.1 ∧ (PySem.W.clsIn K r.1).isSome = true) (excB_ok (Top.e c 61 rfl)) (all_cons (p := fun r : Addr × Bool => ExcC K r.1 ∧ (PySem.W.clsIn K r.1).isSome = true) (excB_ok (Top.e c 59 rfl)) (all_cons (p := fun r : Addr × Bool => ExcC K r.1 ∧ (PySem.W.clsIn K r.1).isSome = true) (excB_ok (Top.e c 57 rfl)) (all_cons (p := fun r : Addr × Bool => ExcC K r.1 ∧ (PySem.W.clsIn K r.1).isSome = true) (excB_ok (Top.e c 55 rfl)) (all_cons (p := fun r : Addr × Bool => ExcC K r.1 ∧ (PySem.W.clsIn K r.1).isSome = true) (excB_ok (Top.e c 53 rfl)) (all_cons (p := fun r : Addr × Bool => ExcC K r.1 ∧ (PySem.W.clsIn K r.1).isSome = true) (excB_ok (Top.e c 51 rfl)) (all_cons (p := fun r : Addr × Bool => ExcC K r.1 ∧ (PySem.W.clsIn K r.1).isSome = true) (excB_ok (Top.e c 49 rfl)) (all_cons (p := fun r : Addr × Bool => ExcC K r.1 ∧ (PySem.W.clsIn K r.1).isSome = true) (excB_ok (Top.e c 47 rfl)) (all_cons (p := fun r : Addr × Bool => ExcC K r.1 ∧ (PySem.W.clsIn K r.1).isSome = true) (excB_ok (Top.e c 45 rfl)) (all_cons (p := fun r : Addr × Bool => ExcC K r.1 ∧ (PySem.W.clsIn K r.1).isSome = true) (excB_ok (Top.e c 43 rfl)) (all_cons (p := fun r : Addr × Bool => ExcC K r.1 ∧ (PySem.W.clsIn K r.1).isSome = true) (excB_ok (Top.e c 41 rfl)) (all_cons (p := fun r : Addr × Bool => ExcC K r.1 ∧ (PySem.W.clsIn K r.1).isSome = true) (excB_ok (Top.e c 39 rfl)) (all_cons (p := fun r : Addr × Bool => ExcC K r.1 ∧ (PySem.W.clsIn K r.1).isSome = true) (excB_ok (Top.e c 37 rfl)) all_nil)))))))))))))))), (.ref (He.ga K "Impossible")), fun u => relRef, (all_cons (p := fun r : Addr × Bool => PySem.W.kitOne K (.ref r.1) (.ref (He.ga K "Impossible")) = some r.2) (kiB_ok (Top.e c 212 rfl)) (all_cons (p := fun r : Addr × Bool => PySem.W.kitOne K (.ref r.1) (.ref (He.ga K "Impossible")) = some r.2) (kiB_ok (Top.e c 211 rfl)) (all_cons (p := fun r : Addr × Bool => PySem.W.kitOne K (.ref r.1) (.ref (He.ga K "Impossible")) = some r.2) (kiB_ok (Top.e c 210 rfl)) (all_cons (p := fun r : Addr × Bool => PySem.W.kitOne K (.ref r.1) (.ref (He.ga K "Impossible")) = some r.2) (kiB_ok (Top.e c 209 rfl)) (all_cons (p := fun r : Addr × Bool => PySem.W.kitOne K (.ref r.1) (.ref (He.ga K "Impossible")) = some r.2) (kiB_ok (Top.e c 208 rfl)) (all_cons (p := fun r : Addr × Bool => PySem.W.kitOne K (.ref r.1) (.ref (He.ga K "Impossible")) = some r.2) (kiB_ok (Top.e c 207 rfl)) (all_cons (p := fun r : Addr × Bool => PySem.W.kitOne K (.ref r.1) (.ref (He.ga K "Impossible")) = some r.2) (kiB_ok (Top.e c 206 rfl)) (all_cons (p := fun r : Addr × Bool => PySem.W.kitOne K (.ref r.1) (.ref (He.ga K "Impossible")) = some r.2) (kiB_ok (Top.e c 205 rfl)) (all_cons (p := fun r : Addr × Bool => PySem.W.kitOne K (.ref r.1) (.ref (He.ga K "Impossible")) = some r.2) (kiB_ok (Top.e c 204 rfl)) (all_cons (p := fun r : Addr × Bool => PySem.W.kitOne K (.ref r.1) (.ref (He.ga K "Impossible")) = some r.2) (kiB_ok (Top.e c 203 rfl)) (all_cons (p := fun r : Addr × Bool => PySem.W.kitOne K (.ref r.1) (.ref (He.ga K "Impossible")) = some r.2) (kiB_ok (Top.e c 202 rfl)) (all_cons (p := fun r : Addr × Bool => PySem.W.kitOne K (.ref r.1) (.ref (He.ga K "Impossible")) = some r.2) (kiB_ok (Top.e c 201 rfl)) (all_cons (p := fun r : Addr × Bool => PySem.W.kitOne K (.ref r.1) (.ref (He.ga K "Impossible")) = some r.2) (kiB_ok (Top.e c 200 rfl)) (all_cons (p := fun r : Addr × Bool => PySem.W.kitOne K (.ref r.1) (.ref (He.ga K "Impossible")) = some r.2) (kiB_ok (Top.e c 199 rfl)) (all_cons (p := fun r : Addr × Bool => PySem.W.kitOne K (.ref r.1) (.ref (He.ga K "Impossible")) = some r.2) (kiB_ok (Top.e c 198 rfl)) (all_cons (p := fun r : Addr × Bool => PySem.W.kitOne K (.ref r.1) (.ref (He.ga K "Impossible")) = some r.2) (kiB_ok (Top.e c 197 rfl)) all_nil))))))))))))))))⟩
    isx_NoKey := ⟨(all_cons (p := fun r : Addr × Bool => ExcC K r.1 ∧ (PySem.W.clsIn K r.1).isSome = true) (excB_ok (Top.e c 67 rfl)) (all_cons (p := fun r : Addr × Bool => ExcC K r.1 ∧ (PySem.W.clsIn K r.1).isSome = true) (excB_ok (Top.e c 65 rfl)) (all_cons (p := fun r : Addr × Bool => ExcC K r.1 ∧ (PySem.W.clsIn K r.1).isSome = true) (excB_ok (Top.e c 63 rfl)) (all_cons (p := fun r : Addr × Bool => ExcC K r.1 ∧ (PySem.W.clsIn K r.1).isSome = true) (excB_ok (Top.e c 61 rfl)) (all_cons (p := fun r : Addr × Bool => ExcC K r.1 ∧ (PySem.W.clsIn K r.1).isSome = true) (excB_ok (Top.e c 59 rfl)) (all_cons (p := fun r : Addr × Bool => ExcC K r.1 ∧ (PySem.W.clsIn K r.1).isSome = true) (excB_ok (Top.e c 57 rfl)) (all_cons (p := fun r : Addr × Bool => ExcC K r.1 ∧ (PySem.W.clsIn K r.1).isSome = true) (excB_ok (Top.e c 55 rfl)) (all_cons (p := fun r : Addr × Bool => ExcC K r.1 ∧ (PySem.W.clsIn K r.1).isSome = true) (excB_ok (Top.e c 53 rfl)) (all_cons (p := fun r : Addr × Bool => ExcC K r.1 ∧ (PySem.W.clsIn K r.1).isSome = true) (excB_ok (Top.e c 51 rfl)) (all_cons (p := fun r : Addr × Bool => ExcC K r.1 ∧ (PySem.W.clsIn K r.1).isSome = true) (excB_ok (Top.e c 49 rfl)) (all_cons (p := fun r : Addr × Bool => ExcC K r.1 ∧ (PySem.W.clsIn K r.1).isSome = true) (excB_ok (Top.e c 47 rfl)) (all_cons (p := fun r : Addr × Bool => ExcC K r.1 ∧ (PySem.W.clsIn K r.1).isSome = true) (excB_ok (Top.e c 45 rfl)) (all_cons (p := fun r : Addr × Bool => ExcC K r.1 ∧ (PySem.W.clsIn K r.1).isSome = true) (excB_ok (Top.e c 43 rfl)) (all_cons (p := fun r : Addr × Bool => ExcC K r.1 ∧ (PySem.W.clsIn K r.1).isSome = true) (excB_ok (Top.e c 41 rfl)) (all_cons (p := fun r : Addr × Bool => ExcC K r.1 ∧ (PySem.W.clsIn K r.1).isSome = true) (excB_ok (Top.e c 39 rfl)) (all_cons (p := fun r : Addr × Bool => ExcC K r.1 ∧ (PySem.W.clsIn K r.1).isSome = true) (excB_ok (Top.e c 37 rfl)) all_nil)))))))))))))))), (.ref (He.ga K "NoKey")), fun u => relRef, (all_cons (p := fun r : Addr × Bool => PySem.W.kitOne K (.ref r.1) (.ref (He.ga K "NoKey")) = some r.2) (kiB_ok (Top.e c 228 rfl)) (all_cons (p := fun r : Addr × Bool => PySem.W.kitOne K (.ref r.1) (.ref (He.ga K "NoKey")) = some r.2) (kiB_ok (Top.e c 227 rfl)) (all_cons (p := fun r : Addr × Bool => PySem.W.kitOne K (.ref r.1) (.ref (He.ga K "NoKey")) = some r.2) (kiB_ok (Top.e c 226 rfl)) (all_cons (p := fun r : Addr × Bool => PySem.W.kitOne K (.ref r.1) (.ref (He.ga K "NoKey")) = some r.2) (kiB_ok (Top.e c 225 rfl)) (all_cons (p := fun r : Addr × Bool => PySem.W.kitOne K (.ref r.1) (.ref (He.ga K "NoKey")) = some r.2) (kiB_ok (Top.e c 224 rfl)) (all_cons (p := fun r : Addr × Bool => PySem.W.kitOne K (.ref r.1) (.ref (He.ga K "NoKey")) = some r.2) (kiB_ok (Top.e c 223 rfl)) (all_cons (p := fun r : Addr × Bool => PySem.W.kitOne K (.ref r.1) (.ref (He.ga K "NoKey")) = some r.2) (kiB_ok (Top.e c 222 rfl)) (all_cons (p := fun r : Addr × Bool => PySem.W.kitOne K (.ref r.1) (.ref (He.ga K "NoKey")) = some r.2) (kiB_ok (Top.e c 221 rfl)) (all_cons (p := fun r : Addr × Bool => PySem.W.kitOne K (.ref r.1) (.ref (He.ga K "NoKey")) = some r.2) (kiB_ok (Top.e c 220 rfl)) (all_cons (p := fun r : Addr × Bool => PySem.W.kitOne K (.ref r.1) (.ref (He.ga K "NoKey")) = some r.2) (kiB_ok (Top.e c 219 rfl)) (all_cons (p := fun r : Addr × Bool => PySem.W.kitOne K (.ref r.1) (.ref (He.ga K "NoKey")) = some r.2) (kiB_ok (Top.e c 218 rfl)) (all_cons (p := fun r : Addr × Bool => PySem.W.kitOne K (.ref r.1) (.ref (He.ga K "NoKey")) = some r.2) (kiB_ok (Top.e c 217 rfl)) (all_cons (p := fun r : Addr × Bool => PySem.W.kitOne K (.ref r.1) (.ref (He.ga K "NoKey")) = some r.2) (kiB_ok (Top.e c 216 rfl)) (all_cons (p := fun r : Addr × Bool => PySem.W.kitOne K (.ref r.1) (.ref (He.ga K "NoKey")) = some r.2) (kiB_ok (Top.e c 215 rfl)) (all_cons (p := fun r : Addr × Bool => PySem.W.kitOne K (.ref r.1) (.ref (He.ga K "NoKey")) = some r.2) (kiB_ok (Top.e c 214 rfl)) (all_cons (p := fun r : Addr × Bool => PySem.W.kitOne K (.ref r.1) (.ref (He.ga K "NoKey")) = some r.2) (kiB_ok (Top.e c 213 rfl)) all_nil))))))))))))))))⟩
    isx_TooMany := ⟨(all_cons (p := fun r : Addr × Bool => ExcC K r.1 ∧ (PySem.W.clsIn K r.1).isSome = true) (excB_ok (Top.e c 67 rfl)) (all_cons (p := fun r : Addr × Bool => ExcC K r.1 ∧ (PySem.W.clsIn K r.1).isSome = true) (excB_ok (Top.e c 65 rfl)) (all_cons (p := fun r : Addr × Bool => ExcC K r.1 ∧ (PySem.W.clsIn K r.1).isSome = true) (excB_ok (Top.e c 63 rfl)) (all_cons (p := fun r : Addr × Bool => ExcC K r.1 ∧ (PySem.W.clsIn K r.1).isSome = true) (excB_ok (Top.e c 61 rfl)) (all_cons (p := fun r : Addr × Bool => ExcC K r.1 ∧ (PySem.W.clsIn K r.1).isSome = true) (excB_ok (Top.e c 59 rfl)) (all_cons (p := fun r : Addr × Bool => ExcC K r.1 ∧ (PySem.W.clsIn K r.1).isSome = true) (excB_ok (Top.e c 57 rfl)) (all_cons (p := fun r : Addr × Bool => ExcC K r.1 ∧ (PySem.W.clsIn K r.1).isSome = true) (excB_ok (Top.e c 55 rfl)) (all_cons (p := fun r : Addr × Bool => ExcC K r.1 ∧ (PySem.W.clsIn K r.1).isSome = true) (excB_ok (Top.e c 53 rfl)) (all_cons (p := fun r : Addr × Bool => ExcC K r.1 ∧ (PySem.W.clsIn K r.1).isSome = true) (excB_ok (Top.e c 51 rfl)) (all_cons (p := fun r : Addr × Bool => ExcC K r.1 ∧ (PySem.W.clsIn K r.1).isSome = true) (excB_ok (Top.e c 49 rfl)) (all_cons (p := fun r : Addr × Bool => ExcC K r.1 ∧ (PySem.W.clsIn K r.1).isSome = true) (excB_ok (Top.e c 47 rfl)) (all_cons (p := fun r : Addr × Bool => ExcC K r.1 ∧ (PySem.W.clsIn K r.1).isSome = true) (excB_ok (Top.e c 45 rfl)) (all_cons (p := fun r : Addr × Bool => ExcC K r.1 ∧ (PySem.W.clsIn K r.1).isSome = true) (excB_ok (Top.e c 43 rfl)) (all_cons (p := fun r : Addr × Bool => ExcC K r.1 ∧ (PySem.W.clsIn K r.1).isSome = true) (excB_ok (Top.e c 41 rfl)) (all_cons (p := fun r : Addr × Bool => ExcC K r.1 ∧ (PySem.W.clsIn K r.1).isSome = true) (excB_ok (Top.e c 39 rfl)) (all_cons (p := fun r : Addr × Bool => ExcC K r.1 ∧ (PySem.W.clsIn K r.1).isSome = true) (excB_ok (Top.e c 37 rfl)) all_nil)))))))))))))))), (.ref (He.ga K "TooMany")), fun u => relRef, (all_cons (p := fun r : Addr × Bool => PySem.W.kitOne K (.ref r.1) (.ref (He.ga K "TooMany")) = some r.2) (kiB_ok (Top.e c 244 rfl)) (all_cons (p := fun r : Addr × Bool => PySem.W.kitOne K (.ref r.1) (.ref (He.ga K "TooMany")) = some r.2) (kiB_ok (Top.e c 243 rfl)) (all_cons (p := fun r : Addr × Bool => PySem.W.kitOne K (.ref r.1) (.ref (He.ga K "TooMany")) = some r.2) (kiB_ok (Top.e c 242 rfl)) (all_cons (p := fun r : Addr × Bool => PySem.W.kitOne K (.ref r.1) (.ref (He.ga K "TooMany")) = some r.2) (kiB_ok (Top.e c 241 rfl)) (all_cons (p := fun r : Addr × Bool => PySem.W.kitOne K (.ref r.1) (.ref (He.ga K "TooMany")) = some r.2) (kiB_ok (Top.e c 240 rfl)) (all_cons (p := fun r : Addr × Bool => PySem.W.kitOne K (.ref r.1) (.ref (He.ga K "TooMany")) = some r.2) (kiB_ok (Top.e c 239 rfl)) (all_cons (p := fun r : Addr × Bool => PySem.W.kitOne K (.ref r.1) (.ref (He.ga K "TooMany")) = some r.2) (kiB_ok (Top.e c 238 rfl)) (all_cons (p := fun r : Addr × Bool => PySem.W.kitOne K (.ref r.1) (.ref (He.ga K "TooMany")) = some r.2) (kiB_ok (Top.e c 237 rfl)) (all_cons (p := fun r : Addr × Bool => PySem.W.kitOne K (.ref r.1) (.ref (He.ga K "TooMany")) = some r.2) (kiB_ok (Top.e c 236 rfl)) (all_cons (p := fun r : Addr × Bool => PySem.W.kitOne K (.ref r.1) (.ref (He.ga K "TooMany")) = some r.2) (kiB_ok (Top.e c 235 rfl)) (all_cons (p := fun r : Addr × Bool => PySem.W.kitOne K (.ref r.1) (.ref (He.ga K "TooMany")) = some r.2) (kiB_ok (Top.e c 234 rfl)) (all_cons (p := fun r : Addr × Bool => PySem.W.kitOne K (.ref r.1) (.ref (He.ga K "TooMany")) = some r.2) (kiB_ok (Top.e c 233 rfl)) (all_cons (p := fun r : Addr × Bool => PySem.W.kitOne K (.ref r.1) (.ref (He.ga K "TooMany")) = some r.2) (kiB_ok (Top.e c 232 rfl)) (all_cons (p := fun r : Addr × Bool => PySem.W.kitOne K (.ref r.1) (.ref (He.ga K "TooMany")) = some r.2) (kiB_ok (Top.e c 231 rfl)) (all_cons (p := fun r : Addr × Bool => PySem.W.kitOne K (.ref r.1) (.ref (He.ga K "TooMany")) = some r.2) (kiB_ok (Top.e c 230 rfl)) (all_cons (p := fun r : Addr × Bool => PySem.W.kitOne K (.ref r.1) (.ref (He.ga K "TooMany")) = some r.2) (kiB_ok (Top.e c 229 rfl)) all_nil))))))))))))))))⟩
    isx_WrongRange := ⟨(all_cons (p := fun r : Addr × Bool => ExcC K r.1 ∧ (PySem.W.clsIn K r.1).isSome = true) (excB_ok (Top.e c 67 rfl)) (all_cons (p := fun r : Addr × Bool => ExcC K r.1 ∧ (PySem.W.clsIn K r.1).isSome = true) (excB_ok (Top.e c 65 rfl)) (all_cons (p := fun r : Addr × Bool => ExcC K r.1 ∧ (PySem.W.clsIn K r.1).isSome = true) (excB_ok (Top.e c 63 rfl)) (all_cons (p := fun r : Addr × Bool => ExcC K r.1 ∧ (PySem.W.clsIn K r.1).isSome = true) (excB_ok (Top.e c 61 rfl)) (all_cons (p := fun r : Addr × Bool => ExcC K r.1 ∧ (PySem.W.clsIn K r.1).isSome = true) (excB_ok (Top.e c 59 rfl)) (all_cons (p := fun r : Addr × Bool => ExcC K r.1 ∧ (PySem.W.clsIn K r.1).isSome = true) (excB_ok (Top.e c 57 rfl)) (all_cons (p := fun r : Addr × Bool => ExcC K r.1 ∧ (PySem.W.clsIn K r.1).isSome = true) (excB_ok (Top.e c 55 rfl)) (all_cons (p := fun r : Addr × Bool => ExcC K r.1 ∧ (PySem.W.clsIn K r.1).isSome = true) (excB_ok (Top.e c 53 rfl)) (all_cons (p := fun r : Addr × Bool => ExcC K r.1 ∧ (PySem.W.clsIn K r.1).isSome = true) (excB_ok (Top.e c 51 rfl)) (all_cons (p := fun r : Addr × Bool => ExcC K r.1 ∧ (PySem.W.clsIn K r.1).isSome = true) (excB_ok (Top.e c 49 rfl)) (all_cons (p := fun r : Addr × Bool => ExcC K r.1 ∧ (PySem.W.clsIn K r.1).isSome = true) (excB_ok (Top.e c 47 rfl)) (all_cons (p := fun r : Addr × Bool => ExcC K r.1 ∧ (PySem.W.clsIn K r.1).isSome = true) (excB_ok (Top.e c 45 rfl)) (all_cons (p := fun r : Addr × Bool => ExcC K r.1 ∧ (PySem.W.clsIn K r.1).isSome = true) (excB_ok (Top.e c 43 rfl)) (all_cons (p := fun r : Addr × Bool => ExcC K r.1 ∧ (PySem.W.clsIn K r.1).isSome = true) (excB_ok (Top.e c 41 rfl)) (all_cons (p := fun r : Addr × Bool => ExcC K r.1 ∧ (PySem.W.clsIn K r.1).isSome = true) (excB_ok (Top.e c 39 rfl)) (all_cons (p := fun r : Addr × Bool => ExcC K r.1 ∧ (PySem.W.clsIn K r.1).isSome = true) (excB_ok (Top.e c 37 rfl)) all_nil)))))))))))))))), (.ref (He.ga K "WrongRange")), fun u => relRef, (all_cons (p := fun r : Addr × Bool => PySem.W.kitOne K (.ref r.1) (.ref (He.ga K "WrongRange")) = some r.2) (kiB_ok (Top.e c 260 rfl)) (all_cons (p := fun r : Addr × Bool => PySem.W.kitOne K (.ref r.1) (.ref (He.ga K "WrongRange")) = some r.2) (kiB_ok (Top.e c 259 rfl)) (all_cons (p := fun r : Addr × Bool => PySem.W.kitOne K (.ref r.1) (.ref (He.ga K "WrongRange")) = some r.2) (kiB_ok (Top.e c 258 rfl)) (all_cons (p := fun r : Addr × Bool => PySem.W.kitOne K (.ref r.1) (.ref (He.ga K "WrongRange")) = some r.2) (kiB_ok (Top.e c 257 rfl)) (all_cons (p := fun r : Addr × Bool => PySem.W.kitOne K (.ref r.1) (.ref (He.ga K "WrongRange")) = some r.2) (kiB_ok (Top.e c 256 rfl)) (all_cons (p := fun r : Addr × Bool => PySem.W.kitOne K (.ref r.1) (.ref (He.ga K "WrongRange")) = some r.2) (kiB_ok (Top.e c 255 rfl)) (all_cons (p := fun r : Addr × Bool => PySem.W.kitOne K (.ref r.1) (.ref (He.ga K "WrongRange")) = some r.2) (kiB_ok (Top.e c 254 rfl)) (all_cons (p := fun r : Addr × Bool => PySem.W.kitOne K (.ref r.1) (.ref (He.ga K "WrongRange")) = some r.2) (kiB_ok (Top.e c 253 rfl)) (all_cons (p := fun r : Addr × Bool => PySem.W.kitOne K (.ref r.1) (.ref (He.ga K "WrongRange")) = some r.2) (kiB_ok (Top.e c 252 rfl)) (all_cons (p := fun r : Addr × Bool => PySem.W.kitOne K (.ref r.1) (.ref (He.ga K "WrongRange")) = some r.2) (kiB_ok (Top.e c 251 rfl)) (all_cons (p := fun r : Addr × Bool => PySem.W.kitOne K (.ref r.1) (.ref (He.ga K "WrongRange")) = some r.2) (kiB_ok (Top.e c 250 rfl)) (all_cons (p := fun r : Addr × Bool => PySem.W.kitOne K (.ref r.1) (.ref (He.ga K "WrongRange")) = some r.2) (kiB_ok (Top.e c 249 rfl)) (all_cons (p := fun r : Addr × Bool => PySem.W.kitOne K (.ref r.1) (.ref (He.ga K "WrongRange")) = some r.2) (kiB_ok (Top.e c 248 rfl)) (all_cons (p := fun r : Addr × Bool => PySem.W.kitOne K (.ref r.1) (.ref (He.ga K "WrongRange")) = some r.2) (kiB_ok (Top.e c 247 rfl)) (all_cons (p := fun r : Addr × Bool => PySem.W.kitOne K (.ref r.1) (.ref (He.ga K "WrongRange")) = some r.2) (kiB_ok (Top.e c 246 rfl)) (all_cons (p := fun r : Addr × Bool => PySem.W.kitOne K (.ref r.1) (.ref (He.ga K "WrongRange")) = some r.2) (kiB_ok (Top.e c 245 rfl)) all_nil))))))))))))))))⟩
    isx_UnknownName := ⟨(all_cons (p := fun r : Addr × Bool => ExcC K r.1 ∧ (PySem.W.clsIn K r.1).isSome = true) (excB_ok (Top.e c 67 rfl)) (all_cons (p := fun r : Addr × Bool => ExcC K r.1 ∧ (PySem.W.clsIn K r.1).isSome = true) (excB_ok (Top.e c 65 rfl)) (all_cons (p := fun r : Addr × Bool => ExcC K r.1 ∧ (PySem.W.clsIn K r.1).isSome = true) (excB_ok (Top.e c 63 rfl)) (all_cons (p := fun r : Addr × Bool => ExcC K r.1 ∧ (PySem.W.clsIn K r.1).isSome = true) (excB_ok (Top.e c 61 rfl)) (all_cons (p := fun r : Addr × Bool => ExcC K r.1 ∧ (PySem.W.clsIn K r.1).isSome = true) (excB_ok (Top.e c 59 rfl)) (all_cons (p := fun r : Addr × Bool => ExcC K r.1 ∧ (PySem.W.clsIn K r.1).isSome = true) (excB_ok (Top.e c 57 rfl)) (all_cons (p := fun r : Addr × Bool => ExcC K r.1 ∧ (PySem.W.clsIn K r.1).isSome = true) (excB_ok (Top.e c 55 rfl)) (all_cons (p := fun r : Addr × Bool => ExcC K r.1 ∧ (PySem.W.clsIn K r.1).isSome = true) (excB_ok (Top.e c 53 rfl)) (all_cons (p := fun r : Addr × Bool => ExcC K r.1 ∧ (PySem.W.clsIn K r.1).isSome = true) (excB_ok (Top.e c 51 rfl)) (all_cons (p := fun r : Addr × Bool => ExcC K r.1 ∧ (PySem.W.clsIn K r.1).isSome = true) (excB_ok (Top.e c 49 rfl)) (all_cons (p := fun r : Addr × Bool => ExcC K r.1 ∧ (PySem.W.clsIn K r.1).isSome = true) (excB_ok (Top.e c 47 rfl)) (all_cons (p := fun r : Addr × Bool => ExcC K r.1 ∧ (PySem.W.clsIn K r.1).isSome = true) (excB_ok (Top.e c 45 rfl)) (all_cons (p := fun r : Addr × Bool => ExcC K r.1 ∧ (PySem.W.clsIn K r.1).isSome = true) (excB_ok (Top.e c 43 rfl)) (all_cons (p := fun r : Addr × Bool => ExcC K r.1 ∧ (PySem.W.clsIn K r.1).isSome = true) (excB_ok (Top.e c 41 rfl)) (all_cons (p := fun r : Addr × Bool => ExcC K r.1 ∧ (PySem.W.clsIn K r.1).isSome = true) (excB_ok (Top.e c 39 rfl)) (all_cons (p := fun r : Addr × Bool => ExcC K r.1 ∧ (PySem.W.clsIn K r.1).isSome = true) (excB_ok (Top.e c 37 rfl)) all_nil)))))))))))))))), (.ref (He.ga K "UnknownName")), fun u => relRef, (all_cons (p := fun r : Addr × Bool => PySem.W.kitOne K (.ref r.1) (.ref (He.ga K "UnknownName")) = some r.2) (kiB_ok (Top.e c 276 rfl)) (all_cons (p := fun r : Addr × Bool => PySem.W.kitOne K (.ref r.1) (.ref (He.ga K "UnknownName")) = some r.2) (kiB_ok (Top.e c 275 rfl)) (all_cons (p := fun r : Addr × Bool => PySem.W.kitOne K (.ref r.1) (.ref (He.ga K "UnknownName")) = some r.2) (kiB_ok (Top.e c 274 rfl)) (all_cons (p := fun r : Addr × Bool => PySem.W.kitOne K (.ref r.1) (.ref (He.ga K "UnknownName")) = some r.2) (kiB_ok (Top.e c 273 rfl)) (all_cons (p := fun r : Addr × Bool => PySem.W.kitOne K (.ref r.1) (.ref (He.ga K "UnknownName")) = some r.2) (kiB_ok (Top.e c 272 rfl)) (all_cons (p := fun r : Addr × Bool => PySem.W.kitOne K (.ref r.1) (.ref (He.ga K "UnknownName")) = some r.2) (kiB_ok (Top.e c 271 rfl)) (all_cons (p := fun r : Addr × Bool => PySem.W.kitOne K (.ref r.1) (.ref (He.ga K "UnknownName")) = some r.2) (kiB_ok (Top.e c 270 rfl)) (all_cons (p := fun r : Addr × Bool => PySem.W.kitOne K (.ref r.1) (.ref (He.ga K "UnknownName")) = some r.2) (kiB_ok (Top.e c 269 rfl)) (all_cons (p := fun r : Addr × Bool => PySem.W.kitOne K (.ref r.1) (.ref (He.ga K "UnknownName")) = some r.2) (kiB_ok (Top.e c 268 rfl)) (all_cons (p := fun r : Addr × Bool => PySem.W.kitOne K (.ref r.1) (.ref (He.ga K "UnknownName")) = some r.2) (kiB_ok (Top.e c 267 rfl)) (all_cons (p := fun r : Addr × Bool => PySem.W.kitOne K (.ref r.1) (.ref (He.ga K "UnknownName")) = some r.2) (kiB_ok (Top.e c 266 rfl)) (all_cons (p := fun r : Addr × Bool => PySem.W.kitOne K (.ref r.1) (.ref (He.ga K "UnknownName")) = some r.2) (kiB_ok (Top.e c 265 rfl)) (all_cons (p := fun r : Addr × Bool => PySem.W.kitOne K (.ref r.1) (.ref (He.ga K "UnknownName")) = some r.2) (kiB_ok (Top.e c 264 rfl)) (all_cons (p := fun r : Addr × Bool => PySem.W.kitOne K (.ref r.1) (.ref (He.ga K "UnknownName")) = some r.2) (kiB_ok (Top.e c 263 rfl)) (all_cons (p := fun r : Addr × Bool => PySem.W.kitOne K (.ref r.1) (.ref (He.ga K "UnknownName")) = some r.2) (kiB_ok (Top.e c 262 rfl)) (all_cons (p := fun r : Addr × Bool => PySem.W.kitOne K (.ref r.1) (.ref (He.ga K "UnknownName")) = some r.2) (kiB_ok (Top.e c 261 rfl)) all_nil))))))))))))))))⟩
    isx_Refused := ⟨(all_cons (p := fun r : Addr × Bool => ExcC K r.1 ∧ (PySem.W.clsIn K r.1).isSome = true) (excB_ok (Top.e c 67 rfl)) (all_cons (p := fun r : Addr × Bool => ExcC K r.1 ∧ (PySem.W.clsIn K r.1).isSome = true) (excB_ok (Top.e c 65 rfl)) (all_cons (p := fun r : Addr × Bool => ExcC K r.1 ∧ (PySem.W.clsIn K r.1).isSome = true) (excB_ok (Top.e c 63 rfl)) (all_cons (p := fun r : Addr × Bool => ExcC K r.1 ∧ (PySem.W.clsIn K r.1).isSome = true) (excB_ok (Top.e c 61 rfl)) (all_cons (p := fun r : Addr × Bool => ExcC K r.1 ∧ (PySem.W.clsIn K r.1).isSome = true) (excB_ok (Top.e c 59 rfl)) (all_cons (p := fun r : Addr × Bool => ExcC K r.1 ∧ (PySem.W.clsIn K r.1).isSome = true) (excB_ok (Top.e c 57 rfl)) (all_cons (p := fun r : Addr × Bool => ExcC K r.1 ∧ (PySem.W.clsIn K r.1).isSome = true) (excB_ok (Top.e c 55 rfl)) (all_cons (p := fun r : Addr × Bool => ExcC K r.1 ∧ (PySem.W.clsIn K r.1).isSome = true) (excB_ok (Top.e c 53 rfl)) (all_cons (p := fun r : Addr × Bool => ExcC K r.1 ∧ (PySem.W.clsIn K r.1).isSome = true) (excB_ok (Top.e c 51 rfl)) (all_cons (p := fun r : Addr × Bool => ExcC K r.1 ∧ (PySem.W.clsIn K r.1).isSome = true) (excB_ok (Top.e c 49 rfl)) (all_cons (p := fun r : Addr × Bool => ExcC K r.1 ∧ (PySem.W.clsIn K r.1).isSome = true) (excB_ok (Top.e c 47 rfl)) (all_cons (p := fun r : Addr × Bool => ExcC K r.1 ∧ (PySem.W.clsIn K r.1).isSome = true) (excB_ok (Top.e c 45 rfl)) (all_cons (p := fun r : Addr × Bool => ExcC K r.1 ∧ (PySem.W.clsIn K r.1).isSome = true) (excB_ok (Top.e c 43 rfl)) (all_cons (p := fun r : Addr × Bool => ExcC K r.1 ∧ (PySem.W.clsIn K r.1).isSome = true) (excB_ok (Top.e c 41 rfl)) (all_cons (p := fun r : Addr × Bool => ExcC K r.1 ∧ (PySem.W.clsIn K r.1).isSome = true) (excB_ok (Top.e c 39 rfl)) (all_cons (p := fun r : Addr × Bool => ExcC K r.1 ∧ (PySem.W.clsIn K r.1).isSome = true) (excB_ok (Top.e c 37 rfl)) all_nil)))))))))))))))), (.ref (He.ga K "Refused")), fun u => relRef, (all_cons (p := fun r : Addr × Bool => PySem.W.kitOne K (.ref r.1) (.ref (He.ga K "Refused")) = some r.2) (kiB_ok (Top.e c 292 rfl)) (all_cons (p := fun r : Addr × Bool => PySem.W.kitOne K (.ref r.1) (.ref (He.ga K "Refused")) = some r.2) (kiB_ok (Top.e c 291 rfl)) (all_cons (p := fun r : Addr × Bool => PySem.W.kitOne K (.ref r.1) (.ref (He.ga K "Refused")) = some r.2) (kiB_ok (Top.e c 290 rfl)) (all_cons (p := fun r : Addr × Bool => PySem.W.kitOne K (.ref r.1) (.ref (He.ga K "Refused")) = some r.2) (kiB_ok (Top.e c 289 rfl)) (all_cons (p := fun r : Addr × Bool => PySem.W.kitOne K (.ref r.1) (.ref (He.ga K "Refused")) = some r.2) (kiB_ok (Top.e c 288 rfl)) (all_cons (p := fun r : Addr × Bool => PySem.W.kitOne K (.ref r.1) (.ref (He.ga K "Refused")) = some r.2) (kiB_ok (Top.e c 287 rfl)) (all_cons (p := fun r : Addr × Bool => PySem.W.kitOne K (.ref r.1) (.ref (He.ga K "Refused")) = some r.2) (kiB_ok (Top.e c 286 rfl)) (all_cons (p := fun r : Addr × Bool => PySem.W.kitOne K (.ref r.1) (.ref (He.ga K "Refused")) = some r.2) (kiB_ok (Top.e c 285 rfl)) (all_cons (p := fun r : Addr × Bool => PySem.W.kitOne K (.ref r.1) (.ref (He.ga K "Refused")) = some r.2) (kiB_ok (Top.e c 284 rfl)) (all_cons (p := fun r : Addr × Bool => PySem.W.kitOne K (.ref r.1) (.ref (He.ga K "Refused")) = some r.2) (kiB_ok (Top.e c 283 rfl)) (all_cons (p := fun r : Addr × Bool => PySem.W.kitOne K (.ref r.1) (.ref (He.ga K "Refused")) = some r.2) (kiB_ok (Top.e c 282 rfl)) (all_cons (p := fun r : Addr × Bool => PySem.W.kitOne K (.ref r.1) (.ref (He.ga K "Refused")) = some r.2) (kiB_ok (Top.e c 281 rfl)) (all_cons (p := fun r : Addr × Bool => PySem.W.kitOne K (.ref r.1) (.ref (He.ga K "Refused")) = some r.2) (kiB_ok (Top.e c 280 rfl)) (all_cons (p := fun r : Addr × Bool => PySem.W.kitOne K (.ref r.1) (.ref (He.ga K "Refused")) = some r.2) (kiB_ok (Top.e c 279 rfl)) (all_cons (p := fun r : Addr × Bool => PySem.W.kitOne K (.ref r.1) (.ref (He.ga K "Refused")) = some r.2) (kiB_ok (Top.e c 278 rfl)) (all_cons (p := fun r : Addr × Bool => PySem.W.kitOne K (.ref r.1) (.ref (He.ga K "Refused")) = some r.2) (kiB_ok (Top.e c 277 rfl)) all_nil))))))))))))))))⟩
    isx_NotServed := ⟨(all_cons (p := fun r : Addr × Bool => ExcC K r.1 ∧ (PySem.W.clsIn K r.1).isSome = true) (excB_ok (Top.e c 67 rfl)) (all_cons (p := fun r : Addr × Bool => ExcC K r.1 ∧ (PySem.W.clsIn K r.1).isSome = true) (excB_ok (Top.e c 65 rfl)) (all_cons (p := fun r : Addr × Bool => ExcC K r.1 ∧ (PySem.W.clsIn K r.1).isSome = true) (excB_ok (Top.e c 63 rfl)) (all_cons (p := fun r : Addr × Bool => ExcC K r.1 ∧ (PySem.W.clsIn K r.1).isSome = true) (excB_ok (Top.e c 61 rfl)) (all_cons (p := fun r : Addr × Bool => ExcC K r.1 ∧ (PySem.W.clsIn K r.1).isSome = true) (excB_ok (Top.e c 59 rfl)) (all_cons (p := fun r : Addr × Bool => ExcC K r.1 ∧ (PySem.W.clsIn K r.1).isSome = true) (excB_ok (Top.e c 57 rfl)) (all_cons (p := fun r : Addr × Bool => ExcC K r.1 ∧ (PySem.W.clsIn K r.1).isSome = true) (excB_ok (Top.e c 55 rfl)) (all_cons (p := fun r : Addr × Bool => ExcC K r.1 ∧ (PySem.W.clsIn K r.1).isSome = true) (excB_ok (Top.e c 53 rfl)) (all_cons (p := fun r : Addr × Bool => ExcC K r.1 ∧ (PySem.W.clsIn K r.1).isSome = true) (excB_ok (Top.e c 51 rfl)) (all_cons (p := fun r : Addr × Bool => ExcC K r.1 ∧ (PySem.W.clsIn K r.1).isSome = true) (excB_ok (Top.e c 49 rfl)) (all_cons (p := fun r : Addr × Bool => ExcC K r.1 ∧ (PySem.W.clsIn K r.1).isSome = true) (excB_ok (Top.e c 47 rfl)) (all_cons (p := fun r : Addr × Bool => ExcC K r.1 ∧ (PySem.W.clsIn K r.1).isSome = true) (excB_ok (Top.e c 45 rfl)) (all_cons (p := fun r : Addr × Bool => ExcC K r.1 ∧ (PySem.W.clsIn K r.1).isSome = true) (excB_ok (Top.e c 43 rfl)) (all_cons (p := fun r : Addr × Bool => ExcC K r.1 ∧ (PySem.W.clsIn K r.1).isSome = true) (excB_ok (Top.e c 41 rfl)) (all_cons (p := fun r : Addr × Bool => ExcC K r.1 ∧ (PySem.W.clsIn K r.1).isSome = true) (excB_ok (Top.e c 39 rfl)) (all_cons (p := fun r : Addr × Bool => ExcC K r.1 ∧ (PySem.W.clsIn K r.1).isSome = true) (excB_ok (Top.e c 37 rfl)) all_nil)))))))))))))))), (.ref (He.ga K "NotServed")), fun u => relRef, (all_cons (p := fun r : Addr × Bool => PySem.W.kitOne K (.ref r.1) (.ref (He.ga K "NotServed")) = some r.2) (kiB_ok (Top.e c 308 rfl)) (all_cons (p := fun r : Addr × Bool => PySem.W.kitOne K (.ref r.1) (.ref (He.ga K "NotServed")) = some r.2) (kiB_ok (Top.e c 307 rfl)) (all_cons (p := fun r : Addr × Bool => PySem.W.kitOne K (.ref r.1) (.ref (He.ga K "NotServed")) = some r.2) (kiB_ok (Top.e c 306 rfl)) (all_cons (p := fun r : Addr × Bool => PySem.W.kitOne K (.ref r.1) (.ref (He.ga K "NotServed")) = some r.2) (kiB_ok (Top.e c 305 rfl)) (all_cons (p := fun r : Addr × Bool => PySem.W.kitOne K (.ref r.1) (.ref (He.ga K "NotServed")) = some r.2) (kiB_ok (Top.e c 304 rfl)) (all_cons (p := fun r : Addr × Bool => PySem.W.kitOne K (.ref r.1) (.ref (He.ga K "NotServed")) = some r.2) (kiB_ok (Top.e c 303 rfl)) (all_cons (p := fun r : Addr × Bool => PySem.W.kitOne K (.ref r.1) (.ref (He.ga K "NotServed")) = some r.2) (kiB_ok (Top.e c 302 rfl)) (all_cons (p := fun r : Addr × Bool => PySem.W.kitOne K (.ref r.1) (.ref (He.ga K "NotServed")) = some r.2) (kiB_ok (Top.e c 301 rfl)) (all_cons (p := fun r : Addr × Bool => PySem.W.kitOne K (.ref r.1) (.ref (He.ga K "NotServed")) = some r.2) (kiB_ok (Top.e c 300 rfl)) (all_cons (p := fun r : Addr × Bool => PySem.W.kitOne K (.ref r.1) (.ref (He.ga K "NotServed")) = some r.2) (kiB_ok (Top.e c 299 rfl)) (all_cons (p := fun r : Addr × Bool => PySem.W.kitOne K (.ref r.1) (.ref (He.ga K "NotServed")) = some r.2) (kiB_ok (Top.e c 298 rfl)) (all_cons (p := fun r : Addr × Bool => PySem.W.kitOne K (.ref r.1) (.ref (He.ga K "NotServed")) = some r.2) (kiB_ok (Top.e c 297 rfl)) (all_cons (p := fun r : Addr × Bool => PySem.W.kitOne K (.ref r.1) (.ref (He.ga K "NotServed")) = some r.2) (kiB_ok (Top.e c 296 rfl)) (all_cons (p := fun r : Addr × Bool => PySem.W.kitOne K (.ref r.1) (.ref (He.ga K "NotServed")) = some r.2) (kiB_ok (Top.e c 295 rfl)) (all_cons (p := fun r : Addr × Bool => PySem.W.kitOne K (.ref r.1) (.ref (He.ga K "NotServed")) = some r.2) (kiB_ok (Top.e c 294 rfl)) (all_cons (p := fun r : Addr × Bool => PySem.W.kitOne K (.ref r.1) (.ref (He.ga K "NotServed")) = some r.2) (kiB_ok (Top.e c 293 rfl)) all_nil))))))))))))))))⟩
    isx_NoAnswer := ⟨(all_cons (p := fun r : Addr × Bool => ExcC K r.1 ∧ (PySem.W.clsIn K r.1).isSome = true) (excB_ok (Top.e c 67 rfl)) (all_cons (p := fun r : Addr × Bool => ExcC K r.1 ∧ (PySem.W.clsIn K r.1).isSome = true) (excB_ok (Top.e c 65 rfl)) (all_cons (p := fun r : Addr × Bool => ExcC K r.1 ∧ (PySem.W.clsIn K r.1).isSome = true) (excB_ok (Top.e c 63 rfl)) (all_cons (p := fun r : Addr × Bool => ExcC K r.1 ∧ (PySem.W.clsIn K r.1).isSome = true) (excB_ok (Top.e c 61 rfl)) (all_cons (p := fun r : Addr × Bool => ExcC K r.1 ∧ (PySem.W.clsIn K r.1).isSome = true) (excB_ok (Top.e c 59 rfl)) (all_cons (p := fun r : Addr × Bool => ExcC K r.1 ∧ (PySem.W.clsIn K r.1).isSome = true) (excB_ok (Top.e c 57 rfl)) (all_cons (p := fun r : Addr × Bool => ExcC K r.1 ∧ (PySem.W.clsIn K r.1).isSome = true) (excB_ok (Top.e c 55 rfl)) (all_cons (p := fun r : Addr × Bool => ExcC K r.1 ∧ (PySem.W.clsIn K r.1).isSome = true) (excB_ok (Top.e c 53 rfl)) (all_cons (p := fun r : Addr × Bool => ExcC K r.1 ∧ (PySem.W.clsIn K r.1).isSome = true) (excB_ok (Top.e c 51 rfl)) (all_cons (p := fun r : Addr × Bool => ExcC K r.1 ∧ (PySem.W.clsIn K r.1).isSome = true) (excB_ok (Top.e c 49 rfl)) (all_cons (p := fun r : Addr × Bool => ExcC K r.1 ∧ (PySem.W.clsIn K r.1).isSome = true) (excB_ok (Top.e c 47 rfl)) (all_cons (p := fun r : Addr × Bool => ExcC K r.1 ∧ (PySem.W.clsIn K r.1).isSome = true) (excB_ok (Top.e c 45 rfl)) (all_cons (p := fun r : Addr × Bool => ExcC K r.1 ∧ (PySem.W.clsIn K r.1).isSome = true) (excB_ok (Top.e c 43 rfl)) (all_cons (p := fun r : Addr × Bool => ExcC K r.1 ∧ (PySem.W.clsIn K r.1).isSome = true) (excB_ok (Top.e c 41 rfl)) (all_cons (p := fun r : Addr × Bool => ExcC K r.1 ∧ (PySem.W.clsIn K r.1).isSome = true) (excB_ok (Top.e c 39 rfl)) (all_cons (p := fun r : Addr × Bool => ExcC K r.1 ∧ (PySem.W.clsIn K r.1).isSome = true) (excB_ok (Top.e c 37 rfl)) all_nil)))))))))))))))), (.ref (He.ga K "NoAnswer")), fun u => relRef, (all_cons (p := fun r : Addr × Bool => PySem.W.kitOne K (.ref r.1) (.ref (He.ga K "NoAnswer")) = some r.2) (kiB_ok (Top.e c 324 rfl)) (all_cons (p := fun r : Addr × Bool => PySem.W.kitOne K (.ref r.1) (.ref (He.ga K "NoAnswer")) = some r.2) (kiB_ok (Top.e c 323 rfl)) (all_cons (p := fun r : Addr × Bool => PySem.W.kitOne K (.ref r.1) (.ref (He.ga K "NoAnswer")) = some r.2) (kiB_ok (Top.e c 322 rfl)) (all_cons (p := fun r : Addr × Bool => PySem.W.kitOne K (.ref r.1) (.ref (He.ga K "NoAnswer")) = some r.2) (kiB_ok (Top.e c 321 rfl)) (all_cons (p := fun r : Addr × Bool => PySem.W.kitOne K (.ref r.1) (.ref (He.ga K "NoAnswer")) = some r.2) (kiB_ok (Top.e c 320 rfl)) (all_cons (p := fun r : Addr × Bool => PySem.W.kitOne K (.ref r.1) (.ref (He.ga K "NoAnswer")) = some r.2) (kiB_ok (Top.e c 319 rfl)) (all_cons (p := fun r : Addr × Bool => PySem.W.kitOne K (.ref r.1) (.ref (He.ga K "NoAnswer")) = some r.2) (kiB_ok (Top.e c 318 rfl)) (all_cons (p := fun r : Addr × Bool => PySem.W.kitOne K (.ref r.1) (.ref (He.ga K "NoAnswer")) = some r.2) (kiB_ok (Top.e c 317 rfl)) (all_cons (p := fun r : Addr × Bool => PySem.W.kitOne K (.ref r.1) (.ref (He.ga K "NoAnswer")) = some r.2) (kiB_ok (Top.e c 316 rfl)) (all_cons (p := fun r : Addr × Bool => PySem.W.kitOne K (.ref r.1) (.ref (He.ga K "NoAnswer")) = some r.2) (kiB_ok (Top.e c 315 rfl)) (all_cons (p := fun r : Addr × Bool => PySem.W.kitOne K (.ref r.1) (.ref (He.ga K "NoAnswer")) = some r.2) (kiB_ok (Top.e c 314 rfl)) (all_cons (p := fun r : Addr × Bool => PySem.W.kitOne K (.ref r.1) (.ref (He.ga K "NoAnswer")) = some r.2) (kiB_ok (Top.e c 313 rfl)) (all_cons (p := fun r : Addr × Bool => PySem.W.kitOne K (.ref r.1) (.ref (He.ga K "NoAnswer")) = some r.2) (kiB_ok (Top.e c 312 rfl)) (all_cons (p := fun r : Addr × Bool => PySem.W.kitOne K (.ref r.1) (.ref (He.ga K "NoAnswer")) = some r.2) (kiB_ok (Top.e c 311 rfl)) (all_cons (p := fun r : Addr × Bool => PySem.W.kitOne K (.ref r.1) (.ref (He.ga K "NoAnswer")) = some r.2) (kiB_ok (Top.e c 310 rfl)) (all_cons (p := fun r : Addr × Bool => PySem.W.kitOne K (.ref r.1) (.ref (He.ga K "NoAnswer")) = some r.2) (kiB_ok (Top.e c 309 rfl)) all_nil))))))))))))))))⟩
    xf_BadStretch := excB_xf (Top.e c 65 rfl)
    no_BadStretch_high := noatB_ok (Top.e c 325 rfl)
    no_BadStretch_low := noatB_ok (Top.e c 326 rfl)
    xf_BadPace := excB_xf (Top.e c 57 rfl)
    no_BadPace_slowest := noatB_ok (Top.e c 327 rfl)
    xf_BadStep := excB_xf (Top.e c 59 rfl)
    no_BadStep_number := noatB_ok (Top.e c 328 rfl)
    xf_NoMember := excB_xf (Top.e c 61 rfl)
    no_NoMember_index := noatB_ok (Top.e c 329 rfl)
    xf_BadText := excB_xf (Top.e c 63 rfl)
    no_BadText_text := noatB_ok (Top.e c 330 rfl)
    xf_UnknownName := excB_xf (Top.e c 47 rfl)
    no_UnknownName_name := noatB_ok (Top.e c 331 rfl)
    xf_BadName := excB_xf (Top.e c 49 rfl)
    no_BadName_name := noatB_ok (Top.e c 332 rfl)
    xf_Impossible := excB_xf (Top.e c 51 rfl)
    no_Impossible_value := noatB_ok (Top.e c 333 rfl)
    no_Impossible_key := noatB_ok (Top.e c 334 rfl)
    xf_NoKey := excB_xf (Top.e c 53 rfl)
    no_NoKey_key := noatB_ok (Top.e c 335 rfl)
    no_BadPace_fastest := noatB_ok (Top.e c 336 rfl)
    xf_NoAnswer := excB_xf (Top.e c 41 rfl)
    no_NoAnswer_key := noatB_ok (Top.e c 337 rfl)
    no_NoAnswer_name := noatB_ok (Top.e c 338 rfl)
    xf_TooMany := excB_xf (Top.e c 43 rfl)
    no_TooMany_limit := noatB_ok (Top.e c 339 rfl)
    xf_WrongRange := excB_xf (Top.e c 45 rfl)
    no_WrongRange_last := noatB_ok (Top.e c 340 rfl)
    no_WrongRange_first := noatB_ok (Top.e c 341 rfl)
    xf_Refused := excB_xf (Top.e c 37 rfl)
    no_Refused_name := noatB_ok (Top.e c 342 rfl)
    xf_NotServed := excB_xf (Top.e c 39 rfl)
    no_NotServed_wanted := noatB_ok (Top.e c 343 rfl)
  }
  obtain ⟨fd_F_Stretches___init__, F_Stretches___init__⟩ := c1.def_ 6 (d := ⟨("Stretches", some "__init__"), "__init__", "Stretches.__init__", defArgs (inClass (top 27) 2), defBody (inClass (top 27) 2), defScope (inClass (top 27) 2), [.adr (He.dflAt ("Stretches", some "__init__") 0)], []⟩) rfl
  have c_joined : Fnk P w K mg base "joined" 1 ["rows"] [] [] sd_joined := fk_joined (defAt_of X G c1 7 38 rfl rfl) bi
  obtain ⟨fd_Z_BadStretch___init__, Z_BadStretch___init__⟩ := Top.x c 0 (d := ⟨("BadStretch", some "__init__"), "__init__", "BadStretch.__init__", defArgs (inClass (top 3) 0), defBody (inClass (top 3) 0), defScope (inClass (top 3) 0), "BadStretch"⟩) rfl
  have x_BadStretch : ExcMk P w K mg base 1 "BadStretch" ((klOf K)).BadStretch ["low", "high"] := mx_BadStretch Z_BadStretch___init__ (oexB_ok (Top.e c 345 rfl)) (initB_ok (Top.e c 344 rfl)).1 (initB_ok (Top.e c 344 rfl)).2 (He.glo_ok X G (c1.fact 22 (f := .glo "BadStretch") rfl)) (supEB_ok (Top.e c 346 rfl)) (noatB_ok (Top.e c 326 rfl)) (noatB_ok (Top.e c 325 rfl))
  have fi_Stretches := ms_Stretches___init__ (P := P) (w := w) (kl := klOf K) (base := base) F_Stretches___init__ bi cs c_joined cf x_BadStretch
  have kl_Stretches : MakeSl P w K mg base 3 "Stretches" ((klOf K)).Stretches (sd_Stretches___init__ (klOf K)) := MakeSl.mono ⟨_, _, _, (He.mkr_ok (c1.fact 39 (f := .mkr "Stretches") rfl)), fi_Stretches, (He.glo_ok X G (c1.fact 37 (f := .glo "Stretches") rfl)), bo_Stretches___init__ F_Stretches___init__⟩ (by decide)
  have c__law_refused : Fnk P w K mg base "_law_refused" 5 ["_law_handed"] [] [] (sd__law_refused (klOf K)) := fk__law_refused (defAt_of X G c1 5 20 rfl rfl) bi cf kl_Stretches
  have c__law_is_int : Fnk P w K mg base "_law_is_int" 1 ["_law_value"] [] [] sd__law_is_int := fk__law_is_int (defAt_of X G c1 8 40 rfl rfl) bi
  have c__law_classes : Fnk P w K mg base "_law_classes" 1 ["_law_thing"] [] [] (sd__law_classes (klOf K)) := fk__law_classes (defAt_of X G c1 10 42 rfl rfl) bi cf
  obtain ⟨fd_Z_BadPace___init__, Z_BadPace___init__⟩ := Top.x c 1 (d := ⟨("BadPace", some "__init__"), "__init__", "BadPace.__init__", defArgs (inClass (top 7) 0), defBody (inClass (top 7) 0), defScope (inClass (top 7) 0), "BadPace"⟩) rfl
  have x_BadPace : ExcMk P w K mg base 1 "BadPace" ((klOf K)).BadPace ["slowest", "fastest"] := mx_BadPace Z_BadPace___init__ (oexB_ok (Top.e c 348 rfl)) (initB_ok (Top.e c 347 rfl)).1 (initB_ok (Top.e c 347 rfl)).2 (He.glo_ok X G (c1.fact 26 (f := .glo "BadPace") rfl)) (supEB_ok (Top.e c 349 rfl)) (noatB_ok (Top.e c 327 rfl)) (noatB_ok (Top.e c 336 rfl))
  obtain ⟨fd_Z_BadStep___init__, Z_BadStep___init__⟩ := Top.x c 2 (d := ⟨("BadStep", some "__init__"), "__init__", "BadStep.__init__", defArgs (inClass (top 6) 0), defBody (inClass (top 6) 0), defScope (inClass (top 6) 0), "BadStep"⟩) rfl
  have x_BadStep : ExcMk P w K mg base 1 "BadStep" ((klOf K)).BadStep ["number"] := mx_BadStep Z_BadStep___init__ (oexB_ok (Top.e c 351 rfl)) (initB_ok (Top.e c 350 rfl)).1 (initB_ok (Top.e c 350 rfl)).2 (He.glo_ok X G (c1.fact 25 (f := .glo "BadStep") rfl)) (supEB_ok (Top.e c 352 rfl)) (noatB_ok (Top.e c 328 rfl))
  obtain ⟨fd_Z_NoMember___init__, Z_NoMember___init__⟩ := Top.x c 3 (d := ⟨("NoMember", some "__init__"), "__init__", "NoMember.__init__", defArgs (inClass (top 5) 0), defBody (inClass (top 5) 0), defScope (inClass (top 5) 0), "NoMember"⟩) rfl
  have x_NoMember : ExcMk P w K mg base 1 "NoMember" ((klOf K)).NoMember ["index"] := mx_NoMember Z_NoMember___init__ (oexB_ok (Top.e c 354 rfl)) (initB_ok (Top.e c 353 rfl)).1 (initB_ok (Top.e c 353 rfl)).2 (He.glo_ok X G (c1.fact 24 (f := .glo "NoMember") rfl)) (supEB_ok (Top.e c 355 rfl)) (noatB_ok (Top.e c 329 rfl))
  obtain ⟨fd_Z_BadText___init__, Z_BadText___init__⟩ := Top.x c 4 (d := ⟨("BadText", some "__init__"), "__init__", "BadText.__init__", defArgs (inClass (top 4) 0), defBody (inClass (top 4) 0), defScope (inClass (top 4) 0), "BadText"⟩) rfl
  have x_BadText : ExcMk P w K mg base 1 "BadText" ((klOf K)).BadText ["text"] := mx_BadText Z_BadText___init__ (oexB_ok (Top.e c 357 rfl)) (initB_ok (Top.e c 356 rfl)).1 (initB_ok (Top.e c 356 rfl)).2 (He.glo_ok X G (c1.fact 23 (f := .glo "BadText") rfl)) (supEB_ok (Top.e c 358 rfl)) (noatB_ok (Top.e c 330 rfl))
  obtain ⟨fd_Z_WrongRange___init__, Z_WrongRange___init__⟩ := Top.x c 5 (d := ⟨("WrongRange", some "__init__"), "__init__", "WrongRange.__init__", defArgs (inClass (top 13) 0), defBody (inClass (top 13) 0), defScope (inClass (top 13) 0), "WrongRange"⟩) rfl
  have x_WrongRange : ExcMk P w K mg base 1 "WrongRange" ((klOf K)).WrongRange ["first", "last"] := mx_WrongRange Z_WrongRange___init__ (oexB_ok (Top.e c 360 rfl)) (initB_ok (Top.e c 359 rfl)).1 (initB_ok (Top.e c 359 rfl)).2 (He.glo_ok X G (c1.fact 32 (f := .glo "WrongRange") rfl)) (supEB_ok (Top.e c 361 rfl)) (noatB_ok (Top.e c 341 rfl)) (noatB_ok (Top.e c 340 rfl))
  obtain ⟨fd_Z_UnknownName___init__, Z_UnknownName___init__⟩ := Top.x c 6 (d := ⟨("UnknownName", some "__init__"), "__init__", "UnknownName.__init__", defArgs (inClass (top 12) 0), defBody (inClass (top 12) 0), defScope (inClass (top 12) 0), "UnknownName"⟩) rfl
  have x_UnknownName : ExcMk P w K mg base 1 "UnknownName" ((klOf K)).UnknownName ["name"] := mx_UnknownName Z_UnknownName___init__ (oexB_ok (Top.e c 363 rfl)) (initB_ok (Top.e c 362 rfl)).1 (initB_ok (Top.e c 362 rfl)).2 (He.glo_ok X G (c1.fact 31 (f := .glo "UnknownName") rfl)) (supEB_ok (Top.e c 364 rfl)) (noatB_ok (Top.e c 331 rfl))
  obtain ⟨fd_Z_BadName___init__, Z_BadName___init__⟩ := Top.x c 7 (d := ⟨("BadName", some "__init__"), "__init__", "BadName.__init__", defArgs (inClass (top 11) 0), defBody (inClass (top 11) 0), defScope (inClass (top 11) 0), "BadName"⟩) rfl
  have x_BadName : ExcMk P w K mg base 1 "BadName" ((klOf K)).BadName ["name"] := mx_BadName Z_BadName___init__ (oexB_ok (Top.e c 366 rfl)) (initB_ok (Top.e c 365 rfl)).1 (initB_ok (Top.e c 365 rfl)).2 (He.glo_ok X G (c1.fact 30 (f := .glo "BadName") rfl)) (supEB_ok (Top.e c 367 rfl)) (noatB_ok (Top.e c 332 rfl))
  obtain ⟨fd_Z_Impossible___init__, Z_Impossible___init__⟩ := Top.x c 8 (d := ⟨("Impossible", some "__init__"), "__init__", "Impossible.__init__", defArgs (inClass (top 10) 0), defBody (inClass (top 10) 0), defScope (inClass (top 10) 0), "Impossible"⟩) rfl
  have x_Impossible : ExcMk P w K mg base 1 "Impossible" ((klOf K)).Impossible ["key", "value"] := mx_Impossible Z_Impossible___init__ (oexB_ok (Top.e c 369 rfl)) (initB_ok (Top.e c 368 rfl)).1 (initB_ok (Top.e c 368 rfl)).2 (He.glo_ok X G (c1.fact 29 (f := .glo "Impossible") rfl)) (supEB_ok (Top.e c 370 rfl)) (noatB_ok (Top.e c 334 rfl)) (noatB_ok (Top.e c 333 rfl))
  obtain ⟨fd_Z_NoKey___init__, Z_NoKey___init__⟩ := Top.x c 9 (d := ⟨("NoKey", some "__init__"), "__init__", "NoKey.__init__", defArgs (inClass (top 9) 0), defBody (inClass (top 9) 0), defScope (inClass (top 9) 0), "NoKey"⟩) rfl
  have x_NoKey : ExcMk P w K mg base 1 "NoKey" ((klOf K)).NoKey ["key"] := mx_NoKey Z_NoKey___init__ (oexB_ok (Top.e c 372 rfl)) (initB_ok (Top.e c 371 rfl)).1 (initB_ok (Top.e c 371 rfl)).2 (He.glo_ok X G (c1.fact 28 (f := .glo "NoKey") rfl)) (supEB_ok (Top.e c 373 rfl)) (noatB_ok (Top.e c 335 rfl))
  obtain ⟨fd_Z_Refused___init__, Z_Refused___init__⟩ := Top.x c 10 (d := ⟨("Refused", some "__init__"), "__init__", "Refused.__init__", defArgs (inClass (top 17) 0), defBody (inClass (top 17) 0), defScope (inClass (top 17) 0), "Refused"⟩) rfl
  have x_Refused : ExcMk P w K mg base 1 "Refused" ((klOf K)).Refused ["name"] := mx_Refused Z_Refused___init__ (oexB_ok (Top.e c 375 rfl)) (initB_ok (Top.e c 374 rfl)).1 (initB_ok (Top.e c 374 rfl)).2 (He.glo_ok X G (c1.fact 36 (f := .glo "Refused") rfl)) (supEB_ok (Top.e c 376 rfl)) (noatB_ok (Top.e c 342 rfl))
  obtain ⟨fd_Z_NotServed___init__, Z_NotServed___init__⟩ := Top.x c 11 (d := ⟨("NotServed", some "__init__"), "__init__", "NotServed.__init__", defArgs (inClass (top 16) 0), defBody (inClass (top 16) 0), defScope (inClass (top 16) 0), "NotServed"⟩) rfl
  have x_NotServed : ExcMk P w K mg base 1 "NotServed" ((klOf K)).NotServed ["wanted"] := mx_NotServed Z_NotServed___init__ (oexB_ok (Top.e c 378 rfl)) (initB_ok (Top.e c 377 rfl)).1 (initB_ok (Top.e c 377 rfl)).2 (He.glo_ok X G (c1.fact 35 (f := .glo "NotServed") rfl)) (supEB_ok (Top.e c 379 rfl)) (noatB_ok (Top.e c 343 rfl))
  obtain ⟨fd_Z_NoAnswer___init__, Z_NoAnswer___init__⟩ := Top.x c 12 (d := ⟨("NoAnswer", some "__init__"), "__init__", "NoAnswer.__init__", defArgs (inClass (top 15) 0), defBody (inClass (top 15) 0), defScope (inClass (top 15) 0), "NoAnswer"⟩) rfl
  have x_NoAnswer : ExcMk P w K mg base 1 "NoAnswer" ((klOf K)).NoAnswer ["name", "key"] := mx_NoAnswer Z_NoAnswer___init__ (oexB_ok (Top.e c 381 rfl)) (initB_ok (Top.e c 380 rfl)).1 (initB_ok (Top.e c 380 rfl)).2 (He.glo_ok X G (c1.fact 34 (f := .glo "NoAnswer") rfl)) (supEB_ok (Top.e c 382 rfl)) (noatB_ok (Top.e c 338 rfl)) (noatB_ok (Top.e c 337 rfl))
  obtain ⟨fd_Z_TooMany___init__, Z_TooMany___init__⟩ := Top.x c 13 (d := ⟨("TooMany", some "__init__"), "__init__", "TooMany.__init__", defArgs (inClass (top 14) 0), defBody (inClass (top 14) 0), defScope (inClass (top 14) 0), "TooMany"⟩) rfl
  have x_TooMany : ExcMk P w K mg base 1 "TooMany" ((klOf K)).TooMany ["limit"] := mx_TooMany Z_TooMany___init__ (oexB_ok (Top.e c 384 rfl)) (initB_ok (Top.e c 383 rfl)).1 (initB_ok (Top.e c 383 rfl)).2 (He.glo_ok X G (c1.fact 33 (f := .glo "TooMany") rfl)) (supEB_ok (Top.e c 385 rfl)) (noatB_ok (Top.e c 339 rfl))
  have x0_Contradiction : ExcM0 K mg "Contradiction" ((klOf K)).Contradiction := ⟨oexB_ok (Top.e c 386 rfl), (Top.e c 387 rfl), (He.glo_ok X G (c1.fact 27 (f := .glo "Contradiction") rfl))⟩
  have c__law_family : Fnk P w K mg base "_law_family" 3 ["_law_one", "_law_two", "_law_word"] [] [] (sd__law_family (klOf K)) := fk__law_family (defAt_of X G c1 9 41 rfl rfl) bi c__law_classes cf x_BadPace x_BadStep x_NoMember x_BadText x_BadStretch x_WrongRange x_UnknownName x_BadName x_Impossible x_NoKey x_Refused x_NotServed x_NoAnswer x_TooMany x0_Contradiction
  obtain ⟨fd_F_Stretches___contains__, F_Stretches___contains__⟩ := c1.def_ 11 (d := ⟨("Stretches", some "__contains__"), "__contains__", "Stretches.__contains__", defArgs (inClass (top 27) 7), defBody (inClass (top 27) 7), defScope (inClass (top 27) 7), [], []⟩) rfl
  have ms_Stretches___contains__ : MSl P w K mg base 1 "__contains__" ((klOf K)).Stretches (sd_Stretches___contains__ (klOf K)) := MSl.mono ⟨_, _, _, (slcB_ok (Top.e c 1 rfl)).1, (slcB_ok (Top.e c 1 rfl)).2, (He.meth_ok (c1.fact 43 (f := .meth "Stretches" "__contains__") rfl)), (mf_Stretches___contains__ (P := P) (w := w) (kl := klOf K) (base := base) F_Stretches___contains__ bi cf).1, (mf_Stretches___contains__ (P := P) (w := w) (kl := klOf K) (base := base) F_Stretches___contains__ bi cf).2⟩ (by decide)
  exact ok_law (kl := klOf K) F bi dk c__law_zone c__law_pairs c__law_next c__law_spoilt c__law_refused c__law_is_int c__law_family cf kl_Stretches ms_Stretches___contains__
end Lw
open PySem PySem.W PySem.Calls PyProof.Rows
theorem PySem.Challenge.cw_stretchesread_k03_refused_stretches_holds : PySem.Challenge.rw_stretchesread_k03_refused_stretches.Holds := by
  w_on; o_law
  refine HandSHeadRun.head_any (r := OpenLaw.row PySem.Challenge.rw_stretchesread_k03_refused_stretches) (q := view (OpenLaw.row PySem.Challenge.rw_stretchesread_k03_refused_stretches).prog [38]) (H := Lw.hk) (ob := Lw.ob) (M := 8000) (loose := Lw.loose) (d := HandSHeadRun.topDef (OpenLaw.row PySem.Challenge.rw_stretchesread_k03_refused_stretches).prog 38) (kwd := []) Lw.ob_eq
    (by kernel_rfl) (fun s => by kernel_rfl) Lw.run (by kernel_rfl) (by kernel_rfl) (by kernel_rfl) (by rfl) (by first | assumption | decide +kernel) (by decide +kernel) ⟨rfl, rfl, rfl, rfl, rfl, by decide +kernel⟩ ?hw ?hc
  case hw => w_witness2
  case hc =>
    refine DW.hook_ok (l := PySem.Challenge.rw_stretchesread_k03_refused_stretches) (n := 63) (k := 6) (x := "_law_script") rfl (by decide) (by kernel_rfl) ⟨rfl, by decide, by decide⟩ ?F
    intro w mg fa h Y G hmg0
    obtain ⟨K, KX, c⟩ := Y
    have hmg : mg ("law" : PySem.Str) = some (.ref fa) := by
      have e : (HandSHeadRun.topDef (OpenLaw.row PySem.Challenge.rw_stretchesread_k03_refused_stretches).prog 38).name = ("law" : PySem.Str) := by kernel_rfl
      rw [← e]
      exact hmg0
    obtain ⟨fd, hb, hF⟩ := Lw.facts (w := w) KX G hmg c
    exact ⟨K, fd, DW.spLaw K, KX, hb, fun H a ns hl _ hS => ⟨a, ns, rfl, hS, hl, fun _ => rfl⟩, hF⟩
#print axioms PySem.Challenge.cw_stretchesread_k03_refused_stretches_holds

