import PyProof.Rows.All
import Wide.All
import OpenK.AllK
import Wide.FinOn
import PySem.Challenge.RW_halfseams_k16_what_is_a_deed
import HandS.ForMost
import HandS.ForExc
import HandS.IsInst
import HandS.Wide
import HandS.Conv
import HandS.More
import HandS.TupAny
import HandS.CallSlots
import HandS.Style
import HandS.Deep
import HandS.Strs
import HandS.StrSplit
import HandS.StrMore
import HandS.NoneIn
import HandS.Zip
import HandS.TupMul
import HandS.Defaults
import HandS.HeadEnd
import HandS.HeadHook1
import HandS.HeadHook2
import HandS.Head0
import HandS.Head1
import HandS.Head2
/- part DL0 -/
set_option Elab.async false
set_option linter.all false
set_option maxRecDepth 100000
set_option autoImplicit false
/-! DL0: values by data. A def's body is read as a plain function over data (PyData) and slots; the rules here tie such functions to the layer's readings. -/
namespace DL
open PySem L2
abbrev D := PyData
/-- what a slot holds: nothing known, data that stands still, a list of the def's own that is changed in place, a parameter's list that is changed in place, a dict of the def's own -/
inductive Sl where
  | no
  | v (d : D)
  | l (xs : List D)
  | p (xs : List D)
  | m (kvs : List (D × D))
abbrev DEnv := List Sl
def Sl.own : Sl → Bool
  | .l _ => true
  | .p _ => true
  | .m _ => true
  | _ => false
/-- an exception: its class's name, its field with its value -/
structure Xc where
  c : Str
  f : Option (Str × D)
inductive Rs (α : Type) where
  | ok (a : α) (env : DEnv)
  | ex (x : Xc) (env : DEnv)
  | stuck
abbrev DE := DEnv → Rs D
abbrev DT := DEnv → Rs Bool
abbrev DA := DEnv → Rs (List D)
def Rs.bind {α β : Type} (r : Rs α) (f : α → DEnv → Rs β) : Rs β := match r with
  | .ok a env => f a env
  | .ex x env => .ex x env
  | .stuck => .stuck
theorem bind_ok {α β : Type} (a : α) (env : DEnv) (f : α → DEnv → Rs β) : (Rs.ok a env).bind f = f a env := rfl
theorem bind_ex {α β : Type} (x : Xc) (env : DEnv) (f : α → DEnv → Rs β) : (Rs.ex x env).bind f = .ex x env := rfl
theorem bind_stuck {α β : Type} (f : α → DEnv → Rs β) : (Rs.stuck : Rs α).bind f = .stuck := rfl
/-- an answer that may lack, in place -/
def put {α : Type} (o : Option α) (env : DEnv) : Rs α := match o with
  | some a => .ok a env
  | none => .stuck
theorem put_some {α : Type} (a : α) (env : DEnv) : put (some a) env = .ok a env := rfl

/-! ### heaps -/
def Ex (G H : Hp) : Prop := ∀ a o, G a = some o → H a = some o
theorem Ex.refl (H : Hp) : Ex H H := fun _ _ h => h
theorem Ex.trans {H H1 H2 : Hp} (a : Ex H H1) (b : Ex H1 H2) : Ex H H2 := fun x o h => b x o (a x o h)
theorem Ex.new {H : Hp} {p : Addr} {o : HO} (h : H p = none) : Ex H (upd H p o) := fun a u e => by
  rw [upd_ne (ne_of_none e h)]; exact e
theorem Ex.none {G H : Hp} {a : Addr} (e : Ex G H) (h : H a = none) : G a = none := by
  cases q : G a with
  | none => rfl
  | some o => rw [e a o q] at h; cases h
theorem Ex.both {G H : Hp} {p : Addr} {o : HO} (e : Ex G H) : Ex (upd G p o) (upd H p o) := fun a u h => by
  by_cases hp : a = p
  · subst hp; rw [upd_same] at h ⊢; exact h
  · rw [upd_ne hp] at h ⊢; exact e a u h
theorem Ex.rd {H H' : Hp} {a : Addr} {u : HO} (e : Ex H H') (h : Rd H a u) : Rd H' a u := by
  rcases h with h | ⟨o, h⟩
  · exact Or.inl (e a _ h)
  · exact Or.inr ⟨o, e a _ h⟩
theorem Ex.l {K : PySem.W.Frag} {H H' : Hp} {a : Addr} {xs : List V} (e : Ex H H') (h : SqL K H a xs) : SqL K H' a xs := by
  rcases h with h | h
  · exact Or.inl (e.rd h)
  · exact Or.inr h
theorem Ex.t {K : PySem.W.Frag} {H H' : Hp} {a : Addr} {xs : List V} (e : Ex H H') (h : SqT K H a xs) : SqT K H' a xs := by
  rcases h with h | h
  · exact Or.inl (e.rd h)
  · exact Or.inr h
/-- a list to be read: tracked, known (the script), or written at the top just so -/
def RL (K : PySem.W.Frag) (G : Hp) (a : Addr) (xs : List V) : Prop := Rd G a (.lst xs) ∨ ∃ (its : Array Value) (n : Nat), K.lookup a = some { cls := .type "list", data := .seq its n } ∧ its.size ≤ sizeLine ∧ Vals xs its.toList
theorem Ex.rl {K : PySem.W.Frag} {G G' : Hp} {a : Addr} {xs : List V} (e : Ex G G') (h : RL K G a xs) : RL K G' a xs := by
  rcases h with h | h
  · exact .inl (e.rd h)
  · exact .inr h
theorem RL.sq {K : PySem.W.Frag} {G : Hp} {a : Addr} {xs : List V} (h : RL K G a xs) : SqL K G a xs := by
  rcases h with h | ⟨its, n, h1, h2, h3⟩
  · exact .inl h
  · exact .inr ⟨_, its, n, h1, rfl, rfl, rfl, h2, h3⟩
theorem RL.of {K : PySem.W.Frag} {G : Hp} {a : Addr} {xs : List V} (h : G a = some (.lst xs)) : RL K G a xs := .inl (.inl h)
/-- a key as data -/
def kD : Key → D
  | .inl i => .int i
  | .inr x => .str x
mutual
/-- data that stands still, by a value: lists are tracked ones (or the script), tuples may be written ones -/
inductive Dv (K : PySem.W.Frag) (G : Hp) : V → PyData → Prop
  | non : Dv K G .non .none
  | bl (b : Bool) : Dv K G (.bl b) (.bool b)
  | int (i : Int) : Dv K G (.int i) (.int i)
  | str (x : Str) : Dv K G (.str x) (.str x)
  | lst {a : Addr} {xs : List V} {ds : List PyData} : RL K G a xs → DvAll K G xs ds → Dv K G (.ref a) (.list ds)
  | tup {a : Addr} {xs : List V} {ds : List PyData} : SqT K G a xs → DvAll K G xs ds → Dv K G (.ref a) (.tuple ds)
  | dct {a : Addr} {xs : List (Key × V)} {ds : List (PyData × PyData)} : Rd G a (.dK xs) → DvKv K G xs ds → Dv K G (.ref a) (.dict ds)
inductive DvKv (K : PySem.W.Frag) (G : Hp) : List (Key × V) → List (PyData × PyData) → Prop
  | nil : DvKv K G [] []
  | cons {k : Key} {v : V} {d : D} {xs : List (Key × V)} {ys : List (D × D)} : Dv K G v d → DvKv K G xs ys → DvKv K G ((k, v) :: xs) ((kD k, d) :: ys)
inductive DvAll (K : PySem.W.Frag) (G : Hp) : List V → List PyData → Prop
  | nil : DvAll K G [] []
  | cons {v : V} {vs : List V} {d : PyData} {ds : List PyData} : Dv K G v d → DvAll K G vs ds → DvAll K G (v :: vs) (d :: ds)
end
mutual
theorem Dv.mono {K : PySem.W.Frag} {G G' : Hp} (e : Ex G G') : ∀ (d : D) (v : V), Dv K G v d → Dv K G' v d
  | .none, _, h => by cases h; exact .non
  | .bool b, _, h => by cases h; exact .bl b
  | .int i, _, h => by cases h; exact .int i
  | .str x, _, h => by cases h; exact .str x
  | .list ds, _, h => by
    cases h with
    | lst a b => exact .lst (e.rl a) (Dv.monoAll e ds _ b)
  | .tuple ds, _, h => by
    cases h with
    | tup a b => exact .tup (e.t a) (Dv.monoAll e ds _ b)
  | .dict ds, _, h => by
    cases h with
    | dct a b => exact .dct (e.rd a) (Dv.monoKv e ds _ b)
theorem Dv.monoKv {K : PySem.W.Frag} {G G' : Hp} (e : Ex G G') : ∀ (ds : List (D × D)) (vs : List (Key × V)), DvKv K G vs ds → DvKv K G' vs ds
  | [], _, h => by cases h; exact .nil
  | (_, d) :: ds, _, h => by
    cases h with
    | cons a b => exact .cons (Dv.mono e d _ a) (Dv.monoKv e ds _ b)
theorem Dv.monoAll {K : PySem.W.Frag} {G G' : Hp} (e : Ex G G') : ∀ (ds : List D) (vs : List V), DvAll K G vs ds → DvAll K G' vs ds
  | [], _, h => by cases h; exact .nil
  | d :: ds, _, h => by
    cases h with
    | cons a b => exact .cons (Dv.mono e d _ a) (Dv.monoAll e ds _ b)
end
theorem Dv.up {K : PySem.W.Frag} {G G' : Hp} {d : D} {v : V} (h : Dv K G v d) (e : Ex G G') : Dv K G' v d := Dv.mono e d v h
theorem DvKv.up {K : PySem.W.Frag} {G G' : Hp} {d : List (D × D)} {v : List (Key × V)} (h : DvKv K G v d) (e : Ex G G') : DvKv K G' v d := Dv.monoKv e d v h
theorem DvAll.up {K : PySem.W.Frag} {G G' : Hp} {d : List D} {v : List V} (h : DvAll K G v d) (e : Ex G G') : DvAll K G' v d := Dv.monoAll e d v h
section
variable {K : PySem.W.Frag} {G : Hp}
theorem DvAll.length : ∀ {vs : List V} {ds : List D}, DvAll K G vs ds → vs.length = ds.length
  | _, _, .nil => rfl
  | _, _, .cons _ t => by rw [List.length_cons, List.length_cons, DvAll.length t]
theorem DvAll.get : ∀ {vs : List V} {ds : List D} {i : Nat} {d : D}, DvAll K G vs ds → ds[i]? = some d → ∃ v, vs[i]? = some v ∧ Dv K G v d
  | _, _, _, _, .nil, e => by simp at e
  | _, _, 0, _, .cons r _, e => by simp at e; subst e; exact ⟨_, rfl, r⟩
  | _, _, i + 1, d, .cons _ t, e => by
    obtain ⟨u, h1, h2⟩ := DvAll.get (i := i) (d := d) t (by simpa using e)
    exact ⟨u, by simpa using h1, h2⟩
theorem DvAll.get' : ∀ {vs : List V} {ds : List D} {i : Nat} {v : V}, DvAll K G vs ds → vs[i]? = some v → ∃ d, ds[i]? = some d ∧ Dv K G v d
  | _, _, _, _, .nil, e => by simp at e
  | _, _, 0, _, .cons r _, e => by simp at e; subst e; exact ⟨_, rfl, r⟩
  | _, _, i + 1, d, .cons _ t, e => by
    obtain ⟨u, h1, h2⟩ := DvAll.get' (i := i) (v := d) t (by simpa using e)
    exact ⟨u, by simpa using h1, h2⟩
theorem DvAll.append : ∀ {xs ys : List V} {us ws : List D}, DvAll K G xs us → DvAll K G ys ws → DvAll K G (xs ++ ys) (us ++ ws)
  | _, _, _, _, .nil, s => s
  | _, _, _, _, .cons r t, s => .cons r (DvAll.append t s)
theorem DvAll.take : ∀ {xs : List V} {us : List D} (n : Nat), DvAll K G xs us → DvAll K G (xs.take n) (us.take n)
  | _, _, 0, _ => .nil
  | _, _, _ + 1, .nil => .nil
  | _, _, n + 1, .cons r t => .cons r (DvAll.take n t)
theorem DvAll.drop : ∀ {xs : List V} {us : List D} (n : Nat), DvAll K G xs us → DvAll K G (xs.drop n) (us.drop n)
  | _, _, 0, r => r
  | _, _, _ + 1, .nil => .nil
  | _, _, n + 1, .cons _ t => DvAll.drop n t
theorem DvAll.set {x : V} {u : D} (r : Dv K G x u) : ∀ {xs : List V} {us : List D} (i : Nat), DvAll K G xs us → DvAll K G (xs.set i x) (us.set i u)
  | _, _, _, .nil => .nil
  | _, _, 0, .cons _ t => .cons r t
  | _, _, i + 1, .cons q t => .cons q (DvAll.set r i t)
theorem DvAll.eraseIdx : ∀ {xs : List V} {us : List D} (i : Nat), DvAll K G xs us → DvAll K G (xs.eraseIdx i) (us.eraseIdx i)
  | _, _, _, .nil => .nil
  | _, _, 0, .cons _ t => t
  | _, _, i + 1, .cons q t => .cons q (DvAll.eraseIdx i t)
theorem DvAll.dropLast : ∀ {xs : List V} {us : List D}, DvAll K G xs us → DvAll K G xs.dropLast us.dropLast
  | _, _, .nil => .nil
  | _, _, .cons r .nil => .nil
  | _, _, .cons r (.cons q t) => .cons r (DvAll.dropLast (.cons q t))
theorem DvAll.one {v : V} {d : D} (h : Dv K G v d) : DvAll K G [v] [d] := .cons h .nil
theorem DvAll.inv1 {vs : List V} {d : D} (h : DvAll K G vs [d]) : ∃ v, vs = [v] ∧ Dv K G v d := by
  cases h with
  | cons a b => cases b; exact ⟨_, rfl, a⟩
theorem DvAll.inv2 {vs : List V} {d e : D} (h : DvAll K G vs [d, e]) : ∃ v w, vs = [v, w] ∧ Dv K G v d ∧ Dv K G w e := by
  cases h with
  | cons a b =>
    cases b with
    | cons c f => cases f; exact ⟨_, _, rfl, a, c⟩
theorem DvAll.ints : ∀ {vs : List V} {ns : List Int}, DvAll K G vs (ns.map PyData.int) → vs = ns.map V.int
  | _, [], h => by cases h; rfl
  | _, n :: ns, h => by
    cases h with
    | cons a b => cases a; rw [DvAll.ints b]; rfl
theorem DvAll.of_ints : ∀ (ns : List Int), DvAll K G (ns.map V.int) (ns.map PyData.int)
  | [] => .nil
  | n :: ns => .cons (.int n) (DvAll.of_ints ns)
end

mutual
theorem Dv.dp {K : PySem.W.Frag} {G H : Hp} (e : Ex G H) : ∀ (d : D) (v : V), d.canLay0 = true → Dv K G v d → Dp K H v d
  | .none, _, _, h => by cases h; exact .non
  | .bool b, _, _, h => by cases h; exact .bl b
  | .int i, _, _, h => by cases h; exact .int i
  | .str x, _, _, h => by cases h; exact .str x
  | .list ds, _, c, h => by
    cases h with
    | lst a b => exact .lst (e.rl a).sq (Dv.dpAll e ds _ (by simpa [PyData.canLay0] using c) b)
  | .tuple ds, _, c, h => by
    cases h with
    | tup a b => exact .tup (e.t a) (Dv.dpAll e ds _ (by simpa [PyData.canLay0] using c) b)
  | .dict _, _, c, _ => by simp [PyData.canLay0] at c
theorem Dv.dpAll {K : PySem.W.Frag} {G H : Hp} (e : Ex G H) : ∀ (ds : List D) (vs : List V), PyData.canLayAll0 ds = true → DvAll K G vs ds → DpAll K H vs ds
  | [], _, _, h => by cases h; exact .nil
  | d :: ds, _, c, h => by
    have c' : d.canLay0 = true ∧ PyData.canLayAll0 ds = true := by simpa [PyData.canLayAll0] using c
    cases h with
    | cons a b => exact .cons (Dv.dp e d _ c'.1 a) (Dv.dpAll e ds _ c'.2 b)
end
/-! ### slots -/
/-- what a slot's word says of its value -/
def RS (K : PySem.W.Frag) (G H : Hp) (s : Sl) (o : Option V) : Prop := match s with
  | .no => True
  | .v d => ∃ v, o = some v ∧ Dv K G v d
  | .l xs => ∃ a vs, o = some (.ref a) ∧ H a = some (.lst vs) ∧ G a = none ∧ DvAll K G vs xs
  | .p xs => ∃ a vs, o = some (.ref a) ∧ H a = some (.lst vs) ∧ G a = none ∧ DvAll K G vs xs
  | .m kvs => ∃ a vs, o = some (.ref a) ∧ H a = some (.dK vs) ∧ G a = none ∧ DvKv K G vs kvs
/-- slot i owns the object at a -/
def OwnAt (env : DEnv) (σ : St) (i : Nat) (a : Addr) : Prop := (∃ s, env[i]? = some s ∧ s.own = true) ∧ σ[i]? = some (some (.ref a))
def Own (env : DEnv) (σ : St) (a : Addr) : Prop := ∃ i, OwnAt env σ i a
structure Rel (K : PySem.W.Frag) (env : DEnv) (σ : St) (G H : Hp) : Prop where
  ex : Ex G H
  len : env.length = σ.length
  slot : ∀ (i : Nat) (s : Sl) (o : Option V), env[i]? = some s → σ[i]? = some o → RS K G H s o
  dist : ∀ (i j : Nat) (a : Addr), OwnAt env σ i a → OwnAt env σ j a → i = j
structure Fr (env : DEnv) (σ : St) (G H : Hp) (env' : DEnv) (σ' : St) (G' H' : Hp) : Prop where
  gg : Ex G G'
  keep : ∀ a o, H a = some o → ¬ Own env σ a → H' a = some o
  dom : ∀ a, H' a = none → H a = none
  fresh : ∀ a, G' a ≠ none → G a ≠ none ∨ H a = none ∨ Own env σ a
  own : ∀ a, Own env' σ' a → Own env σ a ∨ H a = none
  par : ∀ (i : Nat) (xs : List D), env'[i]? = some (Sl.p xs) → σ'[i]? = σ[i]? ∧ ∃ ys : List D, env[i]? = some (Sl.p ys)
theorem Fr.refl (env : DEnv) (σ : St) (G H : Hp) : Fr env σ G H env σ G H :=
  ⟨Ex.refl _, fun _ _ h _ => h, fun _ h => h, fun _ h => .inl h, fun _ h => .inl h, fun _ xs h => ⟨rfl, xs, h⟩⟩
theorem Fr.trans {e0 e1 e2 : DEnv} {s0 s1 s2 : St} {G0 G1 G2 H0 H1 H2 : Hp} (x : Fr e0 s0 G0 H0 e1 s1 G1 H1) (y : Fr e1 s1 G1 H1 e2 s2 G2 H2) : Fr e0 s0 G0 H0 e2 s2 G2 H2 where
  gg := x.gg.trans y.gg
  keep := fun a o h n => y.keep a o (x.keep a o h n) fun q => by
    rcases x.own a q with q | q
    · exact n q
    · rw [q] at h; cases h
  dom := fun a h => x.dom a (y.dom a h)
  fresh := fun a h => by
    rcases y.fresh a h with q | q | q
    · exact x.fresh a q
    · exact .inr (.inl (x.dom a q))
    · rcases x.own a q with q | q
      · exact .inr (.inr q)
      · exact .inr (.inl q)
  own := fun a h => by
    rcases y.own a h with q | q
    · exact x.own a q
    · exact .inr (x.dom a q)
  par := fun i xs h => by
    obtain ⟨a, ys, b⟩ := y.par i xs h
    obtain ⟨c, zs, d⟩ := x.par i ys b
    exact ⟨a.trans c, zs, d⟩
theorem OwnAt.there {K : PySem.W.Frag} {env : DEnv} {σ : St} {G H : Hp} (R : Rel K env σ G H) {i : Nat} {a : Addr} (h : OwnAt env σ i a) : H a ≠ none ∧ G a = none := by
  obtain ⟨⟨s, e, o⟩, q⟩ := h
  have r := R.slot i s _ e q
  cases s with
  | no => cases o
  | v d => cases o
  | l xs =>
    obtain ⟨b, vs, e1, e2, e3, _⟩ := r
    cases e1
    exact ⟨fun z => (by rw [z] at e2; cases e2), e3⟩
  | p xs =>
    obtain ⟨b, vs, e1, e2, e3, _⟩ := r
    cases e1
    exact ⟨fun z => (by rw [z] at e2; cases e2), e3⟩
  | m xs =>
    obtain ⟨b, vs, e1, e2, e3, _⟩ := r
    cases e1
    exact ⟨fun z => (by rw [z] at e2; cases e2), e3⟩
theorem Own.there {K : PySem.W.Frag} {env : DEnv} {σ : St} {G H : Hp} (R : Rel K env σ G H) {a : Addr} (h : Own env σ a) : H a ≠ none ∧ G a = none := let ⟨_, q⟩ := h; q.there R
/-- only new things that stand still come -/
structure Grow (G H G' H' : Hp) : Prop where
  gg : Ex G G'
  hh : Ex H H'
  ex : Ex G' H'
  fresh : ∀ a, G' a ≠ none → G a ≠ none ∨ H a = none
theorem Grow.refl {G H : Hp} (e : Ex G H) : Grow G H G H := ⟨Ex.refl _, Ex.refl _, e, fun _ h => .inl h⟩
theorem Grow.one {G H : Hp} {p : Addr} {o : HO} (e : Ex G H) (h : H p = none) : Grow G H (upd G p o) (upd H p o) :=
  ⟨Ex.new (e.none h), Ex.new h, e.both, fun a q => by
    by_cases hp : a = p
    · subst hp; exact .inr h
    · rw [upd_ne hp] at q; exact .inl q⟩
theorem Grow.trans {G H G1 H1 G2 H2 : Hp} (a : Grow G H G1 H1) (b : Grow G1 H1 G2 H2) : Grow G H G2 H2 :=
  ⟨a.gg.trans b.gg, a.hh.trans b.hh, b.ex, fun x q => by
    rcases b.fresh x q with z | z
    · exact a.fresh x z
    · exact .inr (a.hh.none z)⟩
theorem RS.grow {K : PySem.W.Frag} {G H G' H' : Hp} (g : Grow G H G' H') {s : Sl} {o : Option V} (h : RS K G H s o) : RS K G' H' s o := by
  have nn : ∀ {a : Addr} {u : HO}, H a = some u → G a = none → G' a = none := fun {a u} h1 h2 => by
    cases q : G' a with
    | none => rfl
    | some z =>
      rcases g.fresh a (by rw [q]; exact fun z => by cases z) with y | y
      · exact absurd h2 y
      · rw [y] at h1; cases h1
  cases s with
  | no => trivial
  | v d => obtain ⟨v, e, h⟩ := h; exact ⟨v, e, h.up g.gg⟩
  | l xs => obtain ⟨a, vs, e, h1, h2, h3⟩ := h; exact ⟨a, vs, e, g.hh _ _ h1, nn h1 h2, h3.up g.gg⟩
  | p xs => obtain ⟨a, vs, e, h1, h2, h3⟩ := h; exact ⟨a, vs, e, g.hh _ _ h1, nn h1 h2, h3.up g.gg⟩
  | m xs => obtain ⟨a, vs, e, h1, h2, h3⟩ := h; exact ⟨a, vs, e, g.hh _ _ h1, nn h1 h2, h3.up g.gg⟩
theorem Rel.grow {K : PySem.W.Frag} {env : DEnv} {σ : St} {G H G' H' : Hp} (R : Rel K env σ G H) (g : Grow G H G' H') : Rel K env σ G' H' :=
  ⟨g.ex, R.len, fun i s o a b => (R.slot i s o a b).grow g, R.dist⟩
theorem Grow.fr {G H G' H' : Hp} (g : Grow G H G' H') (env : DEnv) (σ : St) : Fr env σ G H env σ G' H' :=
  ⟨g.gg, fun a o h _ => g.hh a o h, fun a h => g.hh.none h, fun a h => (g.fresh a h).elim .inl fun z => .inr (.inl z), fun _ h => .inl h, fun _ xs h => ⟨rfl, xs, h⟩⟩

/-! ### readings by data -/
/-- an exception by data -/
def XRel (K : PySem.W.Frag) (mg : Str → Option Value) (x : Xc) (cls : Value) (dd : Option Addr) (G H : Hp) : Prop :=
  mg x.c = some cls ∧ match x.f with
    | none => dd = none
    | some (f, d) => ∃ a v, dd = some a ∧ H a = some (.xd [(f, v)]) ∧ Dv K G v d
section
variable (K : PySem.W.Frag) (mg : Str → Option Value) (W : WX)
def RunX (env : DEnv) (σ : St) (G H : Hp) (x : Xc) (env' : DEnv) : Prop :=
  ∀ cls dd G' H', XRel K mg x cls dd G' H' → Rel K env' σ G' H' → Fr env σ G H env' σ G' H' → W cls dd σ H'
def RunE (env : DEnv) (σ : St) (G H : Hp) (r : Rs D) (Q : VK) : Prop := match r with
  | .ok d env' => ∀ v G' H', Rel K env' σ G' H' → Dv K G' v d → Fr env σ G H env' σ G' H' → Q v H'
  | .ex x env' => RunX K mg W env σ G H x env'
  | .stuck => False
def RunT (env : DEnv) (σ : St) (G H : Hp) (r : Rs Bool) (Q : Bool → Hp → Prop) : Prop := match r with
  | .ok b env' => ∀ G' H', Rel K env' σ G' H' → Fr env σ G H env' σ G' H' → Q b H'
  | .ex x env' => RunX K mg W env σ G H x env'
  | .stuck => False
def RunA (env : DEnv) (σ : St) (G H : Hp) (r : Rs (List D)) (Q : List V → Hp → Prop) : Prop := match r with
  | .ok ds env' => ∀ vs G' H', Rel K env' σ G' H' → DvAll K G' vs ds → Fr env σ G H env' σ G' H' → Q vs H'
  | .ex x env' => RunX K mg W env σ G H x env'
  | .stuck => False
/-- a list that nobody else holds -/
def RunL (env : DEnv) (σ : St) (G H : Hp) (r : Rs (List D)) (Q : VK) : Prop := match r with
  | .ok ds env' => ∀ a vs G' H', Rel K env' σ G' H' → H' a = some (.lst vs) → G' a = none → H a = none → ¬ Own env' σ a → DvAll K G' vs ds → Fr env σ G H env' σ G' H' → Q (.ref a) H'
  | .ex x env' => RunX K mg W env σ G H x env'
  | .stuck => False
def rdE (de : DE) : TE := fun σ H Q => ∃ env G, Rel K env σ G H ∧ RunE K mg W env σ G H (de env) Q
def rdT (de : DT) : TT := fun σ H Q => ∃ env G, Rel K env σ G H ∧ RunT K mg W env σ G H (de env) Q
def rdA (de : DA) : TA := fun σ H Q => ∃ env G, Rel K env σ G H ∧ RunA K mg W env σ G H (de env) Q
def rdL (de : DA) : TE := fun σ H Q => ∃ env G, Rel K env σ G H ∧ RunL K mg W env σ G H (de env) Q
end
section
variable {K : PySem.W.Frag} {mg : Str → Option Value} {W : WX} {env env1 : DEnv} {σ : St} {G H G1 H1 : Hp}
theorem RunX.shift {x : Xc} {env' : DEnv} (h : RunX K mg W env σ G H x env') (f : Fr env σ G H env1 σ G1 H1) : RunX K mg W env1 σ G1 H1 x env' :=
  fun cls dd G' H' a b c => h cls dd G' H' a b (f.trans c)
theorem RunE.shift {r : Rs D} {Q : VK} (h : RunE K mg W env σ G H r Q) (f : Fr env σ G H env1 σ G1 H1) : RunE K mg W env1 σ G1 H1 r Q := by
  cases r with
  | ok d e => exact fun v G' H' a b c => h v G' H' a b (f.trans c)
  | ex x e => exact RunX.shift h f
  | stuck => exact h
theorem RunT.shift {r : Rs Bool} {Q : Bool → Hp → Prop} (h : RunT K mg W env σ G H r Q) (f : Fr env σ G H env1 σ G1 H1) : RunT K mg W env1 σ G1 H1 r Q := by
  cases r with
  | ok d e => exact fun G' H' a c => h G' H' a (f.trans c)
  | ex x e => exact RunX.shift h f
  | stuck => exact h
theorem RunA.shift {r : Rs (List D)} {Q : List V → Hp → Prop} (h : RunA K mg W env σ G H r Q) (f : Fr env σ G H env1 σ G1 H1) : RunA K mg W env1 σ G1 H1 r Q := by
  cases r with
  | ok d e => exact fun v G' H' a b c => h v G' H' a b (f.trans c)
  | ex x e => exact RunX.shift h f
  | stuck => exact h
theorem RunL.shift {r : Rs (List D)} {Q : VK} (h : RunL K mg W env σ G H r Q) (f : Fr env σ G H env1 σ G1 H1) : RunL K mg W env1 σ G1 H1 r Q := by
  cases r with
  | ok d e => exact fun a vs G' H' R h1 h2 h3 h4 h5 h6 => h a vs G' H' R h1 h2 (f.dom a h3) h4 h5 (f.trans h6)
  | ex x e => exact RunX.shift h f
  | stuck => exact h
/-- an expression, then the rest -/
theorem E_then {de : DE} {β : Type} {f : D → DEnv → Rs β} {R : VK} (hR : Rel K env σ G H) {P : DEnv → St → Hp → Hp → Rs β → Prop}
    (h : P env σ G H ((de env).bind f)) (hx : ∀ x e, P env σ G H (.ex x e) → RunX K mg W env σ G H x e) (hst : ¬ P env σ G H .stuck)
    (hsh : ∀ e1 G1 H1 r, P env σ G H r → Fr env σ G H e1 σ G1 H1 → P e1 σ G1 H1 r)
    (k : ∀ d e1 v G1 H1, de env = .ok d e1 → Rel K e1 σ G1 H1 → Dv K G1 v d → Fr env σ G H e1 σ G1 H1 → P e1 σ G1 H1 (f d e1) → R v H1) : rdE K mg W de σ H R := by
  refine ⟨env, G, hR, ?_⟩
  cases q : de env with
  | ok d e1 =>
    rw [q] at h
    exact fun v G1 H1 a b c => k d e1 v G1 H1 q a b c (hsh _ _ _ _ h c)
  | ex x e => rw [q] at h; exact hx x e h
  | stuck => rw [q] at h; exact (hst h).elim
theorem E_thenE {de : DE} {f : D → DEnv → Rs D} {Q R : VK} (hR : Rel K env σ G H) (h : RunE K mg W env σ G H ((de env).bind f) Q)
    (k : ∀ d e1 v G1 H1, de env = .ok d e1 → Rel K e1 σ G1 H1 → Dv K G1 v d → Fr env σ G H e1 σ G1 H1 → RunE K mg W e1 σ G1 H1 (f d e1) Q → R v H1) : rdE K mg W de σ H R :=
  E_then hR (P := fun e s G H r => RunE K mg W e s G H r Q) h (fun _ _ z => z) (fun z => z) (fun _ _ _ _ a b => a.shift b) k
theorem E_thenT {de : DE} {f : D → DEnv → Rs Bool} {Q : Bool → Hp → Prop} {R : VK} (hR : Rel K env σ G H) (h : RunT K mg W env σ G H ((de env).bind f) Q)
    (k : ∀ d e1 v G1 H1, de env = .ok d e1 → Rel K e1 σ G1 H1 → Dv K G1 v d → Fr env σ G H e1 σ G1 H1 → RunT K mg W e1 σ G1 H1 (f d e1) Q → R v H1) : rdE K mg W de σ H R :=
  E_then hR (P := fun e s G H r => RunT K mg W e s G H r Q) h (fun _ _ z => z) (fun z => z) (fun _ _ _ _ a b => a.shift b) k
theorem E_thenA {de : DE} {f : D → DEnv → Rs (List D)} {Q : List V → Hp → Prop} {R : VK} (hR : Rel K env σ G H) (h : RunA K mg W env σ G H ((de env).bind f) Q)
    (k : ∀ d e1 v G1 H1, de env = .ok d e1 → Rel K e1 σ G1 H1 → Dv K G1 v d → Fr env σ G H e1 σ G1 H1 → RunA K mg W e1 σ G1 H1 (f d e1) Q → R v H1) : rdE K mg W de σ H R :=
  E_then hR (P := fun e s G H r => RunA K mg W e s G H r Q) h (fun _ _ z => z) (fun z => z) (fun _ _ _ _ a b => a.shift b) k
theorem E_thenL {de : DE} {f : D → DEnv → Rs (List D)} {Q R : VK} (hR : Rel K env σ G H) (h : RunL K mg W env σ G H ((de env).bind f) Q)
    (k : ∀ d e1 v G1 H1, de env = .ok d e1 → Rel K e1 σ G1 H1 → Dv K G1 v d → Fr env σ G H e1 σ G1 H1 → RunL K mg W e1 σ G1 H1 (f d e1) Q → R v H1) : rdE K mg W de σ H R :=
  E_then hR (P := fun e s G H r => RunL K mg W e s G H r Q) h (fun _ _ z => z) (fun z => z) (fun _ _ _ _ a b => a.shift b) k
theorem A_then {de : DA} {β : Type} {f : List D → DEnv → Rs β} {R : List V → Hp → Prop} (hR : Rel K env σ G H) {P : DEnv → St → Hp → Hp → Rs β → Prop}
    (h : P env σ G H ((de env).bind f)) (hx : ∀ x e, P env σ G H (.ex x e) → RunX K mg W env σ G H x e) (hst : ¬ P env σ G H .stuck)
    (hsh : ∀ e1 G1 H1 r, P env σ G H r → Fr env σ G H e1 σ G1 H1 → P e1 σ G1 H1 r)
    (k : ∀ d e1 v G1 H1, de env = .ok d e1 → Rel K e1 σ G1 H1 → DvAll K G1 v d → Fr env σ G H e1 σ G1 H1 → P e1 σ G1 H1 (f d e1) → R v H1) : rdA K mg W de σ H R := by
  refine ⟨env, G, hR, ?_⟩
  cases q : de env with
  | ok d e1 =>
    rw [q] at h
    exact fun v G1 H1 a b c => k d e1 v G1 H1 q a b c (hsh _ _ _ _ h c)
  | ex x e => rw [q] at h; exact hx x e h
  | stuck => rw [q] at h; exact (hst h).elim
theorem A_thenE {de : DA} {f : List D → DEnv → Rs D} {Q : VK} {R : List V → Hp → Prop} (hR : Rel K env σ G H) (h : RunE K mg W env σ G H ((de env).bind f) Q)
    (k : ∀ d e1 v G1 H1, de env = .ok d e1 → Rel K e1 σ G1 H1 → DvAll K G1 v d → Fr env σ G H e1 σ G1 H1 → RunE K mg W e1 σ G1 H1 (f d e1) Q → R v H1) : rdA K mg W de σ H R :=
  A_then hR (P := fun e s G H r => RunE K mg W e s G H r Q) h (fun _ _ z => z) (fun z => z) (fun _ _ _ _ a b => a.shift b) k
theorem A_thenA {de : DA} {f : List D → DEnv → Rs (List D)} {Q R : List V → Hp → Prop} (hR : Rel K env σ G H) (h : RunA K mg W env σ G H ((de env).bind f) Q)
    (k : ∀ d e1 v G1 H1, de env = .ok d e1 → Rel K e1 σ G1 H1 → DvAll K G1 v d → Fr env σ G H e1 σ G1 H1 → RunA K mg W e1 σ G1 H1 (f d e1) Q → R v H1) : rdA K mg W de σ H R :=
  A_then hR (P := fun e s G H r => RunA K mg W e s G H r Q) h (fun _ _ z => z) (fun z => z) (fun _ _ _ _ a b => a.shift b) k
theorem A_thenL {de : DA} {f : List D → DEnv → Rs (List D)} {Q : VK} {R : List V → Hp → Prop} (hR : Rel K env σ G H) (h : RunL K mg W env σ G H ((de env).bind f) Q)
    (k : ∀ d e1 v G1 H1, de env = .ok d e1 → Rel K e1 σ G1 H1 → DvAll K G1 v d → Fr env σ G H e1 σ G1 H1 → RunL K mg W e1 σ G1 H1 (f d e1) Q → R v H1) : rdA K mg W de σ H R :=
  A_then hR (P := fun e s G H r => RunL K mg W e s G H r Q) h (fun _ _ z => z) (fun z => z) (fun _ _ _ _ a b => a.shift b) k
/-- the answer in place -/
theorem RunE.at {d : D} {Q : VK} (h : RunE K mg W env σ G H (.ok d env1) Q) {v : V} (R : Rel K env1 σ G1 H1) (dp : Dv K G1 v d) (f : Fr env σ G H env1 σ G1 H1) : Q v H1 := h v G1 H1 R dp f
theorem RunE.grow {d : D} {Q : VK} (h : RunE K mg W env σ G H (.ok d env) Q) (R : Rel K env σ G H) {v : V} (g : Grow G H G1 H1) (dp : Dv K G1 v d) : Q v H1 := h v G1 H1 (R.grow g) dp (g.fr env σ)
end
/-! ### the judgements -/
theorem pe_imp {X : Cx} {e : Expr} {t t' : TE} (h : PE X e t) (k : ∀ σ H Q, t' σ H Q → t σ H Q) : PE X e t' := ⟨fun pins s σ H Q I w => h.run pins s σ H Q I (k σ H Q w)⟩
theorem pt_imp {X : Cx} {e : Expr} {t t' : TT} (h : PT X e t) (k : ∀ σ H Q, t' σ H Q → t σ H Q) : PT X e t' := ⟨fun pins s σ H Q I w => h.run pins s σ H Q I (k σ H Q w)⟩
theorem pw_imp {X : Cx} {e : Expr} {t t' : TT} (h : PW X e t) (k : ∀ σ H Q, t' σ H Q → t σ H Q) : PW X e t' := ⟨fun wh pins s σ H Q I w => h.run wh pins s σ H Q I (k σ H Q w)⟩
theorem pa_imp {X : Cx} {e : List Expr} {t t' : TA} (h : PA X e t) (k : ∀ σ H Q, t' σ H Q → t σ H Q) : PA X e t' := ⟨fun pos pins s σ H Q I w => h.run pos pins s σ H Q I (k σ H Q w)⟩
theorem ps_imp {X : Cx} {e : Stmt} {t t' : TS} (h : PS X e t) (k : ∀ D σ H, t' D σ H → t D σ H) : PS X e t' := ⟨fun pins s σ H D I w => h.run pins s σ H D I (k D σ H w)⟩
theorem pss_imp {X : Cx} {e : List Stmt} {t t' : TS} (h : PSs X e t) (k : ∀ D σ H, t' D σ H → t D σ H) : PSs X e t' := ⟨fun pins s σ H D I w => h.run pins s σ H D I (k D σ H w)⟩
abbrev CE (X : Cx) (W : WX) (e : Expr) (de : DE) : Prop := PE X e (rdE X.K X.mg W de)
abbrev CT (X : Cx) (W : WX) (e : Expr) (de : DT) : Prop := PT X e (rdT X.K X.mg W de)
abbrev CW (X : Cx) (W : WX) (e : Expr) (de : DT) : Prop := PW X e (rdT X.K X.mg W de)
abbrev CA (X : Cx) (W : WX) (es : List Expr) (de : DA) : Prop := PA X es (rdA X.K X.mg W de)
abbrev CL (X : Cx) (W : WX) (e : Expr) (de : DA) : Prop := PE X e (rdL X.K X.mg W de)
end DL
/- part DL1 -/
set_option Elab.async false
set_option linter.all false
set_option maxRecDepth 100000
set_option autoImplicit false
/-! DL1: expressions by data. -/
namespace DL
open PySem L2
/-! ### names, constants -/
def eVar (i : Nat) : DE := fun env => match env[i]? with
  | some (.v d) => .ok d env
  | some (.l xs) => .ok (.list xs) (env.set i (.v (.list xs)))
  | some (.m xs) => .ok (.dict xs) (env.set i (.v (.dict xs)))
  | _ => .stuck
def eC (d : D) : DE := fun env => .ok d env
def eBin (f : D → D → Option D) (da db : DE) : DE := fun env => (da env).bind fun x e1 => (db e1).bind fun y e2 => put (f x y) e2
def eUn (f : D → Option D) (da : DE) : DE := fun env => (da env).bind fun x e1 => put (f x) e1
def eCB (f : List D → Option D) (da : DA) : DE := fun env => (da env).bind fun xs e1 => put (f xs) e1
def eCL (f : List D → Option (List D)) (da : DA) : DA := fun env => (da env).bind fun xs e1 => put (f xs) e1
def aNil : DA := fun env => .ok [] env
def aCons (de : DE) (da : DA) : DA := fun env => (de env).bind fun x e1 => (da e1).bind fun xs e2 => .ok (x :: xs) e2
def eTup (da : DA) : DE := fun env => (da env).bind fun xs e1 => if xs.length ≤ 100000 then .ok (.tuple xs) e1 else .stuck
def lLst (da : DA) : DA := fun env => (da env).bind fun xs e1 => if xs.length ≤ 100000 then .ok xs e1 else .stuck
/-- a new list that stands still from now on -/
def eLst (da : DA) : DE := fun env => (da env).bind fun xs e1 => .ok (.list xs) e1
def tTst (de : DE) : DT := fun env => (de env).bind fun d e1 => match d with
  | .bool b => .ok b e1
  | _ => .stuck
def truth : D → Option Bool
  | .none => some false
  | .bool b => some b
  | .int i => some (i != 0)
  | .str x => if x.length ≤ 100000 then some ((x.length : Int) != 0) else none
  | .list xs => some (!xs.isEmpty)
  | .tuple xs => some (!xs.isEmpty)
  | .dict _ => none
def tTru (de : DE) : DT := fun env => (de env).bind fun d e1 => put (truth d) e1
def tAndD (t u : DT) : DT := fun env => (t env).bind fun b e1 => if b then u e1 else .ok false e1
def tOrD (t u : DT) : DT := fun env => (t env).bind fun b e1 => if b then .ok true e1 else u e1
def tNotD (t : DT) : DT := fun env => (t env).bind fun b e1 => .ok (!b) e1
def eIf (t : DT) (da db : DE) : DE := fun env => (t env).bind fun b e1 => if b then da e1 else db e1
/-- and, or as values, all but the last True or False -/
def eAnd (da db : DE) : DE := fun env => (da env).bind fun x e1 => match x with
  | .bool true => db e1
  | .bool false => .ok (.bool false) e1
  | _ => .stuck
def eOr (da db : DE) : DE := fun env => (da env).bind fun x e1 => match x with
  | .bool true => .ok (.bool true) e1
  | .bool false => db e1
  | _ => .stuck
def eNot (da : DE) : DE := fun env => (da env).bind fun x e1 => match x with
  | .bool b => .ok (.bool (!b)) e1
  | _ => .stuck

/-! ### what an operation does on data -/
def OpD (K : PySem.W.Frag) (r : R2) (f : D → D → Option D) : Prop := ∀ (x y : V) (d e z : D) (G H : Hp) (Q : VK), Dv K G x d → Dv K G y e → Ex G H → f d e = some z → (∀ v G' H', Dv K G' v z → Grow G H G' H' → Q v H') → r x y H Q
def UnD (K : PySem.W.Frag) (r : V → Hp → VK → Prop) (f : D → Option D) : Prop := ∀ (x : V) (d z : D) (G H : Hp) (Q : VK), Dv K G x d → Ex G H → f d = some z → (∀ v G' H', Dv K G' v z → Grow G H G' H' → Q v H') → r x H Q
def CbD (K : PySem.W.Frag) (r : List V → Hp → VK → Prop) (f : List D → Option D) : Prop := ∀ (xs : List V) (ds : List D) (z : D) (G H : Hp) (Q : VK), DvAll K G xs ds → Ex G H → f ds = some z → (∀ v G' H', Dv K G' v z → Grow G H G' H' → Q v H') → r xs H Q
/-- a call that makes a new list -/
def ClD (K : PySem.W.Frag) (r : List V → Hp → VK → Prop) (f : List D → Option (List D)) : Prop := ∀ (xs : List V) (ds zs : List D) (G H : Hp) (Q : VK), DvAll K G xs ds → Ex G H → f ds = some zs →
  (∀ a vs, H a = none → DvAll K G vs zs → Q (.ref a) (upd H a (.lst vs))) → r xs H Q
def OlD (K : PySem.W.Frag) (r : R2) (f : D → D → Option (List D)) : Prop := ∀ (x y : V) (d e : D) (zs : List D) (G H : Hp) (Q : VK), Dv K G x d → Dv K G y e → Ex G H → f d e = some zs →
  (∀ a vs, H a = none → DvAll K G vs zs → Q (.ref a) (upd H a (.lst vs))) → r x y H Q
section
variable {K : PySem.W.Frag} {mg : Str → Option Value} {W : WX}
theorem OpD.or {r r' : R2} {f g : D → D → Option D} (h : OpD K r f) (h' : OpD K r' g) : OpD K (fun x y H Q => r x y H Q ∨ r' x y H Q) (fun x y => match f x y with | some z => some z | none => g x y) := by
  intro x y d e z G H Q hx hy ex hf k
  cases q : f d e with
  | some w =>
    simp only [q, Option.some.injEq] at hf
    subst hf
    exact .inl (h x y d e _ G H Q hx hy ex q k)
  | none =>
    simp only [q] at hf
    exact .inr (h' x y d e z G H Q hx hy ex hf k)
theorem CbD.or {r r' : List V → Hp → VK → Prop} {f g : List D → Option D} (h : CbD K r f) (h' : CbD K r' g) : CbD K (fun xs H Q => r xs H Q ∨ r' xs H Q) (fun xs => match f xs with | some z => some z | none => g xs) := by
  intro xs ds z G H Q hx ex hf k
  cases q : f ds with
  | some w =>
    simp only [q, Option.some.injEq] at hf
    subst hf
    exact .inl (h xs ds _ G H Q hx ex q k)
  | none =>
    simp only [q] at hf
    exact .inr (h' xs ds z G H Q hx ex hf k)
/-- the answer where it was asked -/
theorem RunE.put {env : DEnv} {σ : L2.St} {G H : Hp} {o : Option D} {Q : VK} (R : Rel K env σ G H) (h : RunE K mg W env σ G H (put o env) Q)
    : ∃ z, o = some z ∧ ∀ v G' H', Dv K G' v z → Grow G H G' H' → Q v H' := by
  cases o with
  | none => exact h.elim
  | some z => exact ⟨z, rfl, fun v G' H' dv g => h v G' H' (R.grow g) dv (g.fr env σ)⟩
theorem bin_ok {r : R2} {f : D → D → Option D} (o : OpD K r f) (da db : DE) (σ : L2.St) (H : Hp) (Q : VK) (h : rdE K mg W (eBin f da db) σ H Q) : tOp r (rdE K mg W da) (rdE K mg W db) σ H Q := by
  obtain ⟨env, G, R, h⟩ := h
  refine E_thenE R h fun d e1 v G1 H1 _ R1 dv F1 h1 => E_thenE R1 h1 fun d2 e2 v2 G2 H2 _ R2 dv2 F2 h2 => ?_
  obtain ⟨z, e, k⟩ := RunE.put R2 h2
  exact o v v2 d d2 z G2 H2 Q (dv.up F2.gg) dv2 R2.ex e k
theorem un_ok {r : V → Hp → VK → Prop} {f : D → Option D} (o : UnD K r f) (da : DE) (σ : L2.St) (H : Hp) (Q : VK) (h : rdE K mg W (eUn f da) σ H Q) : tUn r (rdE K mg W da) σ H Q := by
  obtain ⟨env, G, R, h⟩ := h
  refine E_thenE R h fun d e1 v G1 H1 _ R1 dv F1 h1 => ?_
  obtain ⟨z, e, k⟩ := RunE.put R1 h1
  exact o v d z G1 H1 Q dv R1.ex e k
theorem cb_ok {r : List V → Hp → VK → Prop} {f : List D → Option D} (o : CbD K r f) (da : DA) (σ : L2.St) (H : Hp) (Q : VK) (h : rdE K mg W (eCB f da) σ H Q) : tCB r (rdA K mg W da) σ H Q := by
  obtain ⟨env, G, R, h⟩ := h
  refine A_thenE R h fun d e1 v G1 H1 _ R1 dv F1 h1 => ?_
  obtain ⟨z, e, k⟩ := RunE.put R1 h1
  exact o v d z G1 H1 Q dv R1.ex e k
/-- a new list laid: it is nobody's -/
theorem RunL.new {env : DEnv} {σ : L2.St} {G H : Hp} {zs : List D} {vs : List V} {Q : VK} {a : Addr} (R : Rel K env σ G H) (h : RunL K mg W env σ G H (.ok zs env) Q) (ha : H a = none) (dv : DvAll K G vs zs) : Q (.ref a) (upd H a (.lst vs)) := by
  have ga : G a = none := R.ex.none ha
  have ne : ∀ b, Own env σ b → b ≠ a := fun b hb z => by
    subst z
    exact (hb.there R).1 ha
  refine h a vs G (upd H a (.lst vs)) ⟨fun b o hb => ?_, R.len, fun i s o h1 h2 => ?_, R.dist⟩ upd_same ga ha (fun hb => ne a hb rfl) dv
    ⟨Ex.refl _, fun b o hb _ => ?_, fun b hb => ?_, fun b hb => .inl hb, fun b hb => .inl hb, fun i xs hi => ⟨rfl, xs, hi⟩⟩
  · rw [upd_ne (fun z => by subst z; rw [ga] at hb; cases hb)]
    exact R.ex b o hb
  · have q := R.slot i s o h1 h2
    cases s with
    | no => trivial
    | v d => exact q
    | l xs => obtain ⟨b, vs', e, q1, q2, q3⟩ := q; exact ⟨b, vs', e, by rw [upd_ne (fun z => by subst z; rw [ha] at q1; cases q1)]; exact q1, q2, q3⟩
    | p xs => obtain ⟨b, vs', e, q1, q2, q3⟩ := q; exact ⟨b, vs', e, by rw [upd_ne (fun z => by subst z; rw [ha] at q1; cases q1)]; exact q1, q2, q3⟩
    | m xs => obtain ⟨b, vs', e, q1, q2, q3⟩ := q; exact ⟨b, vs', e, by rw [upd_ne (fun z => by subst z; rw [ha] at q1; cases q1)]; exact q1, q2, q3⟩
  · rw [upd_ne (fun z => by subst z; rw [ha] at hb; cases hb)]
    exact hb
  · by_cases z : b = a
    · subst z; exact ha
    · rw [upd_ne z] at hb; exact hb
theorem cl_ok {r : List V → Hp → VK → Prop} {f : List D → Option (List D)} (o : ClD K r f) (da : DA) (σ : L2.St) (H : Hp) (Q : VK) (h : rdL K mg W (eCL f da) σ H Q) : tCB r (rdA K mg W da) σ H Q := by
  obtain ⟨env, G, R, h⟩ := h
  refine A_thenL R h fun d e1 v G1 H1 _ R1 dv F1 h1 => ?_
  cases q : f d with
  | none => rw [q] at h1; exact h1.elim
  | some zs =>
    rw [q] at h1
    exact o v d zs G1 H1 Q dv R1.ex q fun a vs ha dz => RunL.new R1 h1 ha dz
def eBinL (f : D → D → Option (List D)) (da db : DE) : DA := fun env => (da env).bind fun x e1 => (db e1).bind fun y e2 => put (f x y) e2
theorem binL_ok {r : R2} {f : D → D → Option (List D)} (o : OlD K r f) (da db : DE) (σ : L2.St) (H : Hp) (Q : VK) (h : rdL K mg W (eBinL f da db) σ H Q) : tOp r (rdE K mg W da) (rdE K mg W db) σ H Q := by
  obtain ⟨env, G, R, h⟩ := h
  refine E_thenL R h fun d e1 v G1 H1 _ R1 dv F1 h1 => E_thenL R1 h1 fun d2 e2 v2 G2 H2 _ R2 dv2 F2 h2 => ?_
  cases q : f d d2 with
  | none => rw [q] at h2; exact h2.elim
  | some zs =>
    rw [q] at h2
    exact o v v2 d d2 zs G2 H2 Q (dv.up F2.gg) dv2 R2.ex q fun a vs ha dz => RunL.new R2 h2 ha dz
/-- a list of nobody's becomes data that stands still -/
theorem RunL.of {env : DEnv} {σ : L2.St} {G H : Hp} {r : Rs (List D)} {Q : VK} (h' : RunE K mg W env σ G H (r.bind fun xs e1 => .ok (.list xs) e1) Q) : RunL K mg W env σ G H r Q := by
  cases r with
  | stuck => exact h'
  | ex x e => exact h'
  | ok ds e1 =>
    intro a vs G' H' R' h1 h2 h3 h4 dv F
    have ne : ∀ b, Own e1 σ b → b ≠ a := fun b hb z => by subst z; exact h4 hb
    refine h' (.ref a) (upd G' a (.lst vs)) H' ⟨fun b o hb => ?_, R'.len, fun i s o e1' e2 => ?_, R'.dist⟩ (.lst (.of upd_same) (dv.up (Ex.new h2)))
      ⟨F.gg.trans (Ex.new h2), F.keep, F.dom, fun b hb => ?_, F.own, F.par⟩
    · by_cases z : b = a
      · subst z; rw [upd_same] at hb; rw [h1]; exact hb
      · rw [upd_ne z] at hb; exact R'.ex b o hb
    · have qq := R'.slot i s o e1' e2
      have own : ∀ b, s.own = true → o = some (.ref b) → b ≠ a := fun b hs ho => ne b ⟨i, ⟨s, e1', hs⟩, by rw [e2, ho]⟩
      cases s with
      | no => trivial
      | v d => obtain ⟨v, e, qq⟩ := qq; exact ⟨v, e, qq.up (Ex.new h2)⟩
      | l xs => obtain ⟨b, vs', e, q1, q2, q3⟩ := qq; exact ⟨b, vs', e, q1, by rw [upd_ne (own b rfl e)]; exact q2, q3.up (Ex.new h2)⟩
      | p xs => obtain ⟨b, vs', e, q1, q2, q3⟩ := qq; exact ⟨b, vs', e, q1, by rw [upd_ne (own b rfl e)]; exact q2, q3.up (Ex.new h2)⟩
      | m xs => obtain ⟨b, vs', e, q1, q2, q3⟩ := qq; exact ⟨b, vs', e, q1, by rw [upd_ne (own b rfl e)]; exact q2, q3.up (Ex.new h2)⟩
    · by_cases z : b = a
      · subst z; exact .inr (.inl h3)
      · rw [upd_ne z] at hb; exact F.fresh b hb
theorem L_to_E {da : DA} (σ : L2.St) (H : Hp) (Q : VK) (h : rdE K mg W (eLst da) σ H Q) : rdL K mg W da σ H Q := by
  obtain ⟨env, G, R, h⟩ := h
  exact ⟨env, G, R, RunL.of h⟩
end
theorem freezeO {K : PySem.W.Frag} {env : DEnv} {σ : L2.St} {G H : Hp} {i : Nat} {s0 : Sl} {d0 : D} {a : Addr} {o0 : HO} (R : Rel K env σ G H) (hi : env[i]? = some s0) (hs0 : s0.own = true)
    (ho : σ[i]? = some (some (.ref a))) (h1 : H a = some o0) (h2 : G a = none) (dv : Dv K (upd G a o0) (.ref a) d0) :
    Rel K (env.set i (.v d0)) σ (upd G a o0) H ∧ Fr env σ G H (env.set i (.v d0)) σ (upd G a o0) H := by
  have li : i < env.length := (List.getElem?_eq_some_iff.mp hi).1
  have owns : OwnAt env σ i a := ⟨⟨_, hi, hs0⟩, ho⟩
  have sub : ∀ j b, OwnAt (env.set i (.v d0)) σ j b → OwnAt env σ j b ∧ j ≠ i := fun j b ⟨⟨s, e1, e2⟩, e3⟩ => by
    by_cases z : j = i
    · subst z
      rw [List.getElem?_set_self li] at e1
      cases e1
      cases e2
    · rw [List.getElem?_set_ne (Ne.symm z)] at e1
      exact ⟨⟨⟨s, e1, e2⟩, e3⟩, z⟩
  refine ⟨⟨fun b o hb => ?_, by rw [List.length_set]; exact R.len, fun j s o e1 e2 => ?_, fun j k b x y => R.dist j k b (sub j b x).1 (sub k b y).1⟩,
    ⟨Ex.new h2, fun b o hb _ => hb, fun b hb => hb, fun b hb => ?_, fun b ⟨j, hj⟩ => .inl ⟨j, (sub j b hj).1⟩, fun j ys hj => ?_⟩⟩
  · by_cases z : b = a
    · subst z; rw [upd_same] at hb; rw [h1]; exact hb
    · rw [upd_ne z] at hb; exact R.ex b o hb
  · by_cases z : j = i
    · subst z
      rw [List.getElem?_set_self li] at e1
      cases e1
      rw [ho] at e2
      cases e2
      exact ⟨_, rfl, dv⟩
    · rw [List.getElem?_set_ne (Ne.symm z)] at e1
      have q := R.slot j s o e1 e2
      have nb : ∀ b, s.own = true → o = some (.ref b) → b ≠ a := fun b hs hob w => by
        subst w
        exact z (R.dist j i b ⟨⟨s, e1, hs⟩, by rw [e2, hob]⟩ owns)
      cases s with
      | no => trivial
      | v d => obtain ⟨v, e, q⟩ := q; exact ⟨v, e, q.up (Ex.new h2)⟩
      | l ys => obtain ⟨b, vs', e, q1, q2, q3⟩ := q; exact ⟨b, vs', e, q1, by rw [upd_ne (nb b rfl e)]; exact q2, q3.up (Ex.new h2)⟩
      | p ys => obtain ⟨b, vs', e, q1, q2, q3⟩ := q; exact ⟨b, vs', e, q1, by rw [upd_ne (nb b rfl e)]; exact q2, q3.up (Ex.new h2)⟩
      | m ys => obtain ⟨b, vs', e, q1, q2, q3⟩ := q; exact ⟨b, vs', e, q1, by rw [upd_ne (nb b rfl e)]; exact q2, q3.up (Ex.new h2)⟩
  · by_cases z : b = a
    · subst z; exact .inr (.inr ⟨i, owns⟩)
    · rw [upd_ne z] at hb; exact .inl hb
  · by_cases z : j = i
    · subst z
      rw [List.getElem?_set_self li] at hj
      cases hj
    · rw [List.getElem?_set_ne (Ne.symm z)] at hj
      exact ⟨rfl, ys, hj⟩
theorem freeze {K : PySem.W.Frag} {env : DEnv} {σ : L2.St} {G H : Hp} {i : Nat} {xs : List D} (R : Rel K env σ G H) (hi : env[i]? = some (.l xs)) :
    ∃ a vs, σ[i]? = some (some (.ref a)) ∧ Rel K (env.set i (.v (.list xs))) σ (upd G a (.lst vs)) H ∧ Dv K (upd G a (.lst vs)) (.ref a) (.list xs) ∧ Fr env σ G H (env.set i (.v (.list xs))) σ (upd G a (.lst vs)) H := by
  have li2 : i < σ.length := by rw [← R.len]; exact (List.getElem?_eq_some_iff.mp hi).1
  have ho : σ[i]? = some σ[i] := List.getElem?_eq_getElem li2
  obtain ⟨a, vs, e, h1, h2, h3⟩ := R.slot i _ _ hi ho
  rw [e] at ho
  have dv : Dv K (upd G a (.lst vs)) (.ref a) (.list xs) := .lst (.of upd_same) (h3.up (Ex.new h2))
  obtain ⟨r1, r2⟩ := freezeO R hi rfl ho h1 h2 dv
  exact ⟨a, vs, ho, r1, dv, r2⟩
theorem freezeM {K : PySem.W.Frag} {env : DEnv} {σ : L2.St} {G H : Hp} {i : Nat} {xs : List (D × D)} (R : Rel K env σ G H) (hi : env[i]? = some (.m xs)) :
    ∃ a vs, σ[i]? = some (some (.ref a)) ∧ Rel K (env.set i (.v (.dict xs))) σ (upd G a (.dK vs)) H ∧ Dv K (upd G a (.dK vs)) (.ref a) (.dict xs) ∧ Fr env σ G H (env.set i (.v (.dict xs))) σ (upd G a (.dK vs)) H := by
  have li2 : i < σ.length := by rw [← R.len]; exact (List.getElem?_eq_some_iff.mp hi).1
  have ho : σ[i]? = some σ[i] := List.getElem?_eq_getElem li2
  obtain ⟨a, vs, e, h1, h2, h3⟩ := R.slot i _ _ hi ho
  rw [e] at ho
  have dv : Dv K (upd G a (.dK vs)) (.ref a) (.dict xs) := .dct (.inl upd_same) (h3.up (Ex.new h2))
  obtain ⟨r1, r2⟩ := freezeO R hi rfl ho h1 h2 dv
  exact ⟨a, vs, ho, r1, dv, r2⟩
section
variable {X : Cx} {W : WX} {a b e : Expr} {da db : DE} {pos : Pos}
theorem var_ok {K : PySem.W.Frag} {mg : Str → Option Value} {i : Nat} (σ : L2.St) (H : Hp) (Q : VK) (h : rdE K mg W (eVar i) σ H Q) : tVar i σ H Q := by
  obtain ⟨env, G, R, h⟩ := h
  unfold eVar at h
  cases q : env[i]? with
  | none => rw [q] at h; exact h.elim
  | some s =>
    rw [q] at h
    have li : i < σ.length := by rw [← R.len]; exact (List.getElem?_eq_some_iff.mp q).1
    have ho : σ[i]? = some σ[i] := List.getElem?_eq_getElem li
    cases s with
    | no => exact h.elim
    | p xs => exact h.elim
    | m xs =>
      obtain ⟨a, vs, e1, R', dv, F⟩ := freezeM R q
      exact ⟨_, e1, h _ _ _ R' dv F⟩
    | v d =>
      obtain ⟨v, e, dv⟩ := R.slot i _ _ q ho
      rw [e] at ho
      exact ⟨v, ho, h v G H R dv (Fr.refl _ _ _ _)⟩
    | l xs =>
      obtain ⟨a, vs, e1, R', dv, F⟩ := freeze R q
      exact ⟨_, e1, h _ _ _ R' dv F⟩
theorem ce_var (i : Nat) {x : Str} (hN : X.N[i]? = some x := by rfl) (hv : Vis X.env.scope x := by first | exact Or.inl rfl | exact Or.inr (Or.inl rfl) | exact Or.inr (Or.inr rfl)) (hd : (x == ("__debug__" : Str)) = false := by decide)
    (hcd : (x == ("__classdict__" : Str)) = false := by decide) : CE X W (.Name x pos) (eVar i) := pe_imp (pe_var hN hv hd hcd) var_ok
theorem c_ok {K : PySem.W.Frag} {mg : Str → Option Value} {v : V} {d : D} (dv : ∀ G, Dv K G v d) (σ : L2.St) (H : Hp) (Q : VK) (h : rdE K mg W (eC d) σ H Q) : tC v σ H Q := by
  obtain ⟨env, G, R, h⟩ := h
  exact h v G H R (dv G) (Fr.refl _ _ _ _)
theorem ce_int {i : Int} {j : Nat} : CE X W (.Constant (.int i) j pos) (eC (.int i)) := pe_imp pe_int (c_ok fun _ => .int i)
theorem ce_bool {i : Bool} {j : Nat} : CE X W (.Constant (.bool i) j pos) (eC (.bool i)) := pe_imp pe_bl (c_ok fun _ => .bl i)
theorem ce_none {j : Nat} : CE X W (.Constant .none j pos) (eC .none) := pe_imp pe_non (c_ok fun _ => .non)
theorem ce_str {x : Str} {j : Nat} : CE X W (.Constant (.str x) j pos) (eC (.str x)) := pe_imp pe_str (c_ok fun _ => .str x)
/-- -n, written -/
theorem ce_neg {i : Int} {j : Nat} {p : Pos} : CE X W (.UnaryOp .USub (.Constant (.int i) j p) pos) (eC (.int (-i))) := pe_imp (pe_un un_neg pe_int) fun σ H Q h => by
  obtain ⟨env, G, R, h⟩ := h
  exact ⟨i, rfl, h _ G H R (.int _) (Fr.refl _ _ _ _)⟩
theorem ce_bin {op : Operator} {r : R2} {f : D → D → Option D} (ho : OpR X (binaryOp op) r) (o : OpD X.K r f) (ha : CE X W a da) (hb : CE X W b db) : CE X W (.BinOp a op b pos) (eBin f da db) := pe_imp (pe_op ho ha hb) (bin_ok o da db)
theorem ce_un {op : UnaryOp} {r : V → Hp → VK → Prop} {f : D → Option D} (ho : UnR X (unaryOp op) r) (o : UnD X.K r f) (ha : CE X W a da) : CE X W (.UnaryOp op a pos) (eUn f da) := pe_imp (pe_un ho ha) (un_ok o da)
theorem cl_bin {op : Operator} {r : R2} {f : D → D → Option (List D)} (ho : OpR X (binaryOp op) r) (o : OlD X.K r f) (ha : CE X W a da) (hb : CE X W b db) : CL X W (.BinOp a op b pos) (eBinL f da db) := pe_imp (pe_op ho ha hb) (binL_ok o da db)
theorem ce_cmp {op : CmpOp} {r : R2} {f : D → D → Option D} (ho : OpR X (compareOp op) r) (o : OpD X.K r f) (ha : CE X W a da) (hb : CE X W b db) (hm : behindInMarks op b = false) : CE X W (.Compare a [op] [b] pos) (eBin f da db) := pe_imp (pe_cmpR ho ha hb hm) (bin_ok o da db)
theorem ce_ix {r : R2} {f : D → D → Option D} (hr : IxR X r) (o : OpD X.K r f) (ha : CE X W a da) (hb : CE X W b db) (hs : PlainIx b) : CE X W (.Subscript a b pos) (eBin f da db) := pe_imp (pe_ix hr ha hb hs) (bin_ok o da db)
theorem tst_ok {K : PySem.W.Frag} {mg : Str → Option Value} (de : DE) (σ : L2.St) (H : Hp) (Q : Bool → Hp → Prop) (h : rdT K mg W (tTst de) σ H Q) : rdE K mg W de σ H fun x H' => ∃ k, x = .bl k ∧ Q k H' := by
  obtain ⟨env, G, R, h⟩ := h
  refine E_thenT R h fun d e1 v G1 H1 _ R1 dv F1 h1 => ?_
  cases dv with
  | bl b => exact ⟨b, rfl, h1 G1 H1 R1 (Fr.refl _ _ _ _)⟩
  | non => exact h1.elim
  | int i => exact h1.elim
  | str i => exact h1.elim
  | lst _ _ => exact h1.elim
  | tup _ _ => exact h1.elim
  | dct _ _ => exact h1.elim
theorem ct_cmp {op : CmpOp} {r : R2} {f : D → D → Option D} (ho : OpR X (compareOp op) r) (o : OpD X.K r f) (ha : CE X W a da) (hb : CE X W b db) (hm : behindInMarks op b = false) : CT X W (.Compare a [op] [b] pos) (tTst (eBin f da db)) :=
  pt_imp (pt_cmpR ho ha hb hm) fun σ H Q h => bin_ok o da db σ H _ (tst_ok _ σ H Q h)
/-- an expression that gives True or False, as a test -/
theorem ct_val {e : Expr} {de : DE} (h : CE X W e de) (he : ∀ whole, isTrue e X.env whole = (do let v ← whole; standAt e.pos; holding [v] (truthy v)) := by intro _; rfl) : CT X W e (tTst de) := pt_imp (pt_val h he) fun σ H Q h => tst_ok _ σ H Q h
theorem tru_okD {K : PySem.W.Frag} {mg : Str → Option Value} (de : DE) (σ : L2.St) (H : Hp) (Q : Bool → Hp → Prop) (h : rdT K mg W (tTru de) σ H Q) : rdE K mg W de σ H fun x H' => ∃ k, TruV K x H' k ∧ Q k H' := by
  obtain ⟨env, G, R, h⟩ := h
  refine E_thenT R h fun d e1 v G1 H1 _ R1 dv F1 h1 => ?_
  cases q : truth d with
  | none => rw [q] at h1; exact h1.elim
  | some k =>
    rw [q] at h1
    refine ⟨k, ?_, h1 G1 H1 R1 (Fr.refl _ _ _ _)⟩
    cases dv with
    | bl b => cases q; rfl
    | non => cases q; rfl
    | int i => cases q; rfl
    | str x =>
      have q' : (if x.length ≤ 100000 then some ((x.length : Int) != 0) else none) = some k := q
      by_cases hz : x.length ≤ 100000
      · rw [if_pos hz] at q'
        cases q'
        exact ⟨Nat.le_trans hz (by decide), rfl⟩
      · rw [if_neg hz] at q'
        cases q'
    | @lst a xs ds g1 g2 =>
      cases q
      refine .inl ⟨_, (R1.ex.rl g1).sq, ?_⟩
      cases g2 <;> rfl
    | @tup a xs ds g1 g2 =>
      cases q
      refine .inr (.inl ⟨_, R1.ex.t g1, ?_⟩)
      cases g2 <;> rfl
    | dct _ _ => cases q
theorem ct_tru {e : Expr} {de : DE} (h : CE X W e de) (he : ∀ whole, isTrue e X.env whole = (do let v ← whole; standAt e.pos; holding [v] (truthy v)) := by intro _; rfl) : CT X W e (tTru de) := pt_imp (pt_truth h he) fun σ H Q h => tru_okD _ σ H Q h
theorem T_then {K : PySem.W.Frag} {mg : Str → Option Value} {env : DEnv} {σ : L2.St} {G H : Hp} {dt : DT} {β : Type} {f : Bool → DEnv → Rs β} {R : Bool → Hp → Prop} (hR : Rel K env σ G H) {P : DEnv → L2.St → Hp → Hp → Rs β → Prop}
    (h : P env σ G H ((dt env).bind f)) (hx : ∀ x e, P env σ G H (.ex x e) → RunX K mg W env σ G H x e) (hst : ¬ P env σ G H .stuck)
    (hsh : ∀ e1 G1 H1 r, P env σ G H r → Fr env σ G H e1 σ G1 H1 → P e1 σ G1 H1 r)
    (k : ∀ d e1 G1 H1, dt env = .ok d e1 → Rel K e1 σ G1 H1 → Fr env σ G H e1 σ G1 H1 → P e1 σ G1 H1 (f d e1) → R d H1) : rdT K mg W dt σ H R := by
  refine ⟨env, G, hR, ?_⟩
  cases q : dt env with
  | ok d e1 =>
    rw [q] at h
    exact fun G1 H1 a c => k d e1 G1 H1 q a c (hsh _ _ _ _ h c)
  | ex x e => rw [q] at h; exact hx x e h
  | stuck => rw [q] at h; exact (hst h).elim
theorem T_thenT {K : PySem.W.Frag} {mg : Str → Option Value} {env : DEnv} {σ : L2.St} {G H : Hp} {dt : DT} {f : Bool → DEnv → Rs Bool} {Q R : Bool → Hp → Prop} (hR : Rel K env σ G H) (h : RunT K mg W env σ G H ((dt env).bind f) Q)
    (k : ∀ d e1 G1 H1, dt env = .ok d e1 → Rel K e1 σ G1 H1 → Fr env σ G H e1 σ G1 H1 → RunT K mg W e1 σ G1 H1 (f d e1) Q → R d H1) : rdT K mg W dt σ H R :=
  T_then hR (P := fun e s G H r => RunT K mg W e s G H r Q) h (fun _ _ z => z) (fun z => z) (fun _ _ _ _ a b => a.shift b) k
theorem T_thenE {K : PySem.W.Frag} {mg : Str → Option Value} {env : DEnv} {σ : L2.St} {G H : Hp} {dt : DT} {f : Bool → DEnv → Rs D} {Q : VK} {R : Bool → Hp → Prop} (hR : Rel K env σ G H) (h : RunE K mg W env σ G H ((dt env).bind f) Q)
    (k : ∀ d e1 G1 H1, dt env = .ok d e1 → Rel K e1 σ G1 H1 → Fr env σ G H e1 σ G1 H1 → RunE K mg W e1 σ G1 H1 (f d e1) Q → R d H1) : rdT K mg W dt σ H R :=
  T_then hR (P := fun e s G H r => RunE K mg W e s G H r Q) h (fun _ _ z => z) (fun z => z) (fun _ _ _ _ a b => a.shift b) k
variable {dt du : DT} {rest : List Expr}
theorem cw_and1 (ha : CT X W a dt) : CW X W (.BoolOp .And [a] pos) dt := pw_and1 ha
theorem cw_or1 (ha : CT X W a dt) : CW X W (.BoolOp .Or [a] pos) dt := pw_or1 ha
theorem cw_and (ha : CT X W a dt) (hb : CW X W (.BoolOp .And (b :: rest) pos) du) : CW X W (.BoolOp .And (a :: b :: rest) pos) (tAndD dt du) := pw_imp (pw_and ha hb) fun σ H Q h => by
  obtain ⟨env, G, R, h⟩ := h
  refine T_thenT R h fun d e1 G1 H1 _ R1 F1 h1 => ?_
  cases d with
  | true => exact ⟨e1, G1, R1, h1⟩
  | false => exact h1 G1 H1 R1 (Fr.refl _ _ _ _)
theorem cw_or (ha : CT X W a dt) (hb : CW X W (.BoolOp .Or (b :: rest) pos) du) : CW X W (.BoolOp .Or (a :: b :: rest) pos) (tOrD dt du) := pw_imp (pw_or ha hb) fun σ H Q h => by
  obtain ⟨env, G, R, h⟩ := h
  refine T_thenT R h fun d e1 G1 H1 _ R1 F1 h1 => ?_
  cases d with
  | true => exact h1 G1 H1 R1 (Fr.refl _ _ _ _)
  | false => exact ⟨e1, G1, R1, h1⟩
theorem ct_w (h : CW X W e dt) : CT X W e dt := PW.pt h
theorem ct_not (ha : CT X W a dt) : CT X W (.UnaryOp .Not a pos) (tNotD dt) := pt_imp (pt_not ha) fun σ H Q h => by
  obtain ⟨env, G, R, h⟩ := h
  exact T_thenT R h fun d e1 G1 H1 _ R1 F1 h1 => h1 G1 H1 R1 (Fr.refl _ _ _ _)
theorem ce_if {c : Expr} (hc : CT X W c dt) (ha : CE X W a da) (hb : CE X W b db) : CE X W (.IfExp c a b pos) (eIf dt da db) := pe_imp (pe_ifExp hc ha hb) fun σ H Q h => by
  obtain ⟨env, G, R, h⟩ := h
  refine T_thenE R h fun d e1 G1 H1 _ R1 F1 h1 => ?_
  cases d with
  | true => exact ⟨e1, G1, R1, h1⟩
  | false => exact ⟨e1, G1, R1, h1⟩
theorem ce_one {op : BoolOp} (h : CE X W a da) : CE X W (.BoolOp op [a] pos) da := pe_one h
theorem ce_and (ha : CE X W a da) (hb : CE X W (.BoolOp .And (b :: rest) pos) db) : CE X W (.BoolOp .And (a :: b :: rest) pos) (eAnd da db) := pe_imp (pe_and ha hb) fun σ H Q h => by
  obtain ⟨env, G, R, h⟩ := h
  refine E_thenE R h fun d e1 v G1 H1 _ R1 dv F1 h1 => ?_
  cases dv with
  | bl b =>
    cases b with
    | true => exact ⟨true, rfl, e1, G1, R1, h1⟩
    | false => exact ⟨false, rfl, h1 _ G1 H1 R1 (.bl false) (Fr.refl _ _ _ _)⟩
  | non => exact h1.elim
  | int i => exact h1.elim
  | str i => exact h1.elim
  | lst _ _ => exact h1.elim
  | tup _ _ => exact h1.elim
  | dct _ _ => exact h1.elim
theorem ce_or (ha : CE X W a da) (hb : CE X W (.BoolOp .Or (b :: rest) pos) db) : CE X W (.BoolOp .Or (a :: b :: rest) pos) (eOr da db) := pe_imp (pe_or ha hb) fun σ H Q h => by
  obtain ⟨env, G, R, h⟩ := h
  refine E_thenE R h fun d e1 v G1 H1 _ R1 dv F1 h1 => ?_
  cases dv with
  | bl b =>
    cases b with
    | false => exact ⟨false, rfl, e1, G1, R1, h1⟩
    | true => exact ⟨true, rfl, h1 _ G1 H1 R1 (.bl true) (Fr.refl _ _ _ _)⟩
  | non => exact h1.elim
  | int i => exact h1.elim
  | str i => exact h1.elim
  | lst _ _ => exact h1.elim
  | tup _ _ => exact h1.elim
  | dct _ _ => exact h1.elim
theorem ce_not (ha : CE X W a da) : CE X W (.UnaryOp .Not a pos) (eNot da) := pe_imp (pe_not ha) fun σ H Q h => by
  obtain ⟨env, G, R, h⟩ := h
  refine E_thenE R h fun d e1 v G1 H1 _ R1 dv F1 h1 => ?_
  cases dv with
  | bl b => exact ⟨b, rfl, h1 _ G1 H1 R1 (.bl _) (Fr.refl _ _ _ _)⟩
  | non => exact h1.elim
  | int i => exact h1.elim
  | str i => exact h1.elim
  | lst _ _ => exact h1.elim
  | tup _ _ => exact h1.elim
  | dct _ _ => exact h1.elim
/-! ### arguments, displays, built-ins -/
variable {es : List Expr} {ds : DA}
theorem ca_nil : CA X W [] aNil := pa_imp pa_nil fun σ H Q h => by
  obtain ⟨env, G, R, h⟩ := h
  exact h [] G H R .nil (Fr.refl _ _ _ _)
theorem ca_cons (ha : CE X W e da) (hr : CA X W es ds) (hs : starEach (e :: es) X.env = (false, eval e X.env) :: starEach es X.env := by rfl) : CA X W (e :: es) (aCons da ds) := pa_imp (pa_cons ha hr hs) fun σ H Q h => by
  obtain ⟨env, G, R, h⟩ := h
  exact E_thenA R h fun d e1 v G1 H1 _ R1 dv F1 h1 => A_thenA R1 h1 fun d2 e2 v2 G2 H2 _ R2 dv2 F2 h2 => h2 (v :: v2) G2 H2 R2 (.cons (dv.up F2.gg) dv2) (Fr.refl _ _ _ _)
theorem ce_tup {k : Nat} (h : CA X W es ds) : CE X W (.Tuple es k pos) (eTup ds) := pe_imp (pe_tup h) fun σ H Q h => by
  obtain ⟨env, G, R, h⟩ := h
  refine A_thenE R h fun d e1 v G1 H1 _ R1 dv F1 h1 => ?_
  split at h1
  · rename_i hz
    refine ⟨by rw [dv.length]; exact Nat.le_trans hz (by decide), fun p hp => ?_⟩
    have g : Grow G1 H1 (upd G1 p (.tup v)) (upd H1 p (.tup v)) := Grow.one R1.ex hp
    exact h1 _ _ _ (R1.grow g) (.tup (.inl (.inl upd_same)) (dv.up g.gg)) (g.fr _ _)
  · exact h1.elim
theorem cl_lst (h : CA X W es ds) : CL X W (.List es pos) (lLst ds) := pe_imp (pe_lst h) fun σ H Q h => by
  obtain ⟨env, G, R, h⟩ := h
  refine A_thenL R h fun d e1 v G1 H1 _ R1 dv F1 h1 => ?_
  split at h1
  · rename_i hz
    exact ⟨by rw [dv.length]; exact Nat.le_trans hz (by decide), fun p hp => RunL.new R1 h1 hp dv⟩
  · exact h1.elim
theorem ce_lst {dl : DA} (h : CL X W e dl) : CE X W e (eLst dl) := pe_imp h fun σ H Q h => L_to_E σ H Q h
theorem ce_cb {r : List V → Hp → VK → Prop} {f : List D → Option D} {id : String} {x : Str} {p : Pos} (o : CbD X.K r f) (hc : CallR X (.builtin id) r) (hg : Gl X x) (hm : X.mg x = none) (hv : bootBuiltins x = some (.builtin id)) (ha : CA X W (e :: es) ds) (hn : x ≠ "__name__" := by decide) (hdb : (x == ("__debug__" : Str)) = false := by decide)
    (he : starEach (e :: es) X.env = (false, eval e X.env) :: starEach es X.env := by rfl) (hpl : (backTo pos (starEach es X.env)).any (·.1) = false := by rfl) : CE X W (.Call (.Name x p) (e :: es) [] pos) (eCB f ds) := pe_imp (pe_callB hc hg hm hv ha hn hdb he hpl) (cb_ok o ds)
theorem ce_ct {r : List V → Hp → VK → Prop} {f : List D → Option D} {T : String} {x : Str} {p : Pos} (o : CbD X.K r f) (hc : CallR X (.type T) r) (hg : Gl X x) (hm : X.mg x = none) (hv : bootBuiltins x = some (.type T)) (ha : CA X W (e :: es) ds) (hn : x ≠ "__name__" := by decide) (hdb : (x == ("__debug__" : Str)) = false := by decide)
    (he : starEach (e :: es) X.env = (false, eval e X.env) :: starEach es X.env := by rfl) (hpl : (backTo pos (starEach es X.env)).any (·.1) = false := by rfl) : CE X W (.Call (.Name x p) (e :: es) [] pos) (eCB f ds) := pe_imp (pe_callTy hc hg hm hv ha hn hdb he hpl) (cb_ok o ds)
theorem cl_ct {r : List V → Hp → VK → Prop} {f : List D → Option (List D)} {T : String} {x : Str} {p : Pos} (o : ClD X.K r f) (hc : CallR X (.type T) r) (hg : Gl X x) (hm : X.mg x = none) (hv : bootBuiltins x = some (.type T)) (ha : CA X W (e :: es) ds) (hn : x ≠ "__name__" := by decide) (hdb : (x == ("__debug__" : Str)) = false := by decide)
    (he : starEach (e :: es) X.env = (false, eval e X.env) :: starEach es X.env := by rfl) (hpl : (backTo pos (starEach es X.env)).any (·.1) = false := by rfl) : CL X W (.Call (.Name x p) (e :: es) [] pos) (eCL f ds) := pe_imp (pe_callTy hc hg hm hv ha hn hdb he hpl) (cl_ok o ds)
theorem cl_cb {r : List V → Hp → VK → Prop} {f : List D → Option (List D)} {id : String} {x : Str} {p : Pos} (o : ClD X.K r f) (hc : CallR X (.builtin id) r) (hg : Gl X x) (hm : X.mg x = none) (hv : bootBuiltins x = some (.builtin id)) (ha : CA X W (e :: es) ds) (hn : x ≠ "__name__" := by decide) (hdb : (x == ("__debug__" : Str)) = false := by decide)
    (he : starEach (e :: es) X.env = (false, eval e X.env) :: starEach es X.env := by rfl) (hpl : (backTo pos (starEach es X.env)).any (·.1) = false := by rfl) : CL X W (.Call (.Name x p) (e :: es) [] pos) (eCL f ds) := pe_imp (pe_callB hc hg hm hv ha hn hdb he hpl) (cl_ok o ds)
end
end DL
/- part DL2 -/
set_option Elab.async false
set_option linter.all false
set_option maxRecDepth 100000
set_option autoImplicit false
/-! DL2: statements by data, loops, comprehensions, calls, defs. -/
namespace DL
open PySem L2
/-- how a statement ends -/
inductive Fl where
  | nx (env : DEnv)
  | rt (d : D) (env : DEnv)
  | rl (xs : List D) (env : DEnv)
  | bk (env : DEnv)
  | ct (env : DEnv)
  | ex (x : Xc) (env : DEnv)
  | stuck
abbrev DS := DEnv → Fl
/-- an answer, then a statement's end -/
def Rs.fl {α : Type} (r : Rs α) (f : α → DEnv → Fl) : Fl := match r with
  | .ok a env => f a env
  | .ex x env => .ex x env
  | .stuck => .stuck
theorem fl_ok {α : Type} (a : α) (env : DEnv) (f : α → DEnv → Fl) : (Rs.ok a env).fl f = f a env := rfl
theorem fl_ex {α : Type} (x : Xc) (env : DEnv) (f : α → DEnv → Fl) : (Rs.ex x env : Rs α).fl f = .ex x env := rfl
theorem fl_stuck {α : Type} (f : α → DEnv → Fl) : (Rs.stuck : Rs α).fl f = .stuck := rfl
section
variable (K : PySem.W.Frag) (mg : Str → Option Value) (W : WX)
def RunXS (env : DEnv) (σ : L2.St) (G H : Hp) (x : Xc) (env' : DEnv) : Prop :=
  ∀ cls dd σ' G' H', XRel K mg x cls dd G' H' → Rel K env' σ' G' H' → Fr env σ G H env' σ' G' H' → W cls dd σ' H'
def RunS (env : DEnv) (σ : L2.St) (G H : Hp) (r : Fl) (E : Ends) : Prop := match r with
  | .nx e => ∀ σ' G' H', Rel K e σ' G' H' → Fr env σ G H e σ' G' H' → E.nx σ' H'
  | .bk e => ∀ σ' G' H', Rel K e σ' G' H' → Fr env σ G H e σ' G' H' → E.bk σ' H'
  | .ct e => ∀ σ' G' H', Rel K e σ' G' H' → Fr env σ G H e σ' G' H' → E.ct σ' H'
  | .rt d e => ∀ v σ' G' H', Rel K e σ' G' H' → Dv K G' v d → Fr env σ G H e σ' G' H' → E.rt v H'
  | .rl xs e => ∀ a vs σ' G' H', Rel K e σ' G' H' → H' a = some (.lst vs) → G' a = none → H a = none → ¬ Own e σ' a → DvAll K G' vs xs → Fr env σ G H e σ' G' H' → E.rt (.ref a) H'
  | .ex x e => RunXS K mg W env σ G H x e
  | .stuck => False
def rdS (ds : DS) : TS := fun E σ H => ∃ env G, Rel K env σ G H ∧ RunS K mg W env σ G H (ds env) E
end
section
variable {K : PySem.W.Frag} {mg : Str → Option Value} {W : WX} {env env1 : DEnv} {σ σ1 : L2.St} {G H G1 H1 : Hp}
theorem RunS.shift {r : Fl} {E : Ends} (h : RunS K mg W env σ G H r E) (f : Fr env σ G H env1 σ1 G1 H1) : RunS K mg W env1 σ1 G1 H1 r E := by
  cases r with
  | nx e => exact fun σ' G' H' a c => h σ' G' H' a (f.trans c)
  | bk e => exact fun σ' G' H' a c => h σ' G' H' a (f.trans c)
  | ct e => exact fun σ' G' H' a c => h σ' G' H' a (f.trans c)
  | rt d e => exact fun v σ' G' H' a b c => h v σ' G' H' a b (f.trans c)
  | rl xs e => exact fun a vs σ' G' H' R h1 h2 h3 h4 h5 h6 => h a vs σ' G' H' R h1 h2 (f.dom a h3) h4 h5 (f.trans h6)
  | ex x e => exact fun cls dd σ' G' H' a b c => h cls dd σ' G' H' a b (f.trans c)
  | stuck => exact h
theorem RunXS.toX {x : Xc} {e : DEnv} (h : RunXS K mg W env σ G H x e) : RunX K mg W env σ G H x e := fun cls dd G' H' a b c => h cls dd σ G' H' a b c
/-- an expression, then the rest of the statement -/
theorem E_thenS {de : DE} {f : D → DEnv → Fl} {E : Ends} {R : VK} (hR : Rel K env σ G H) (h : RunS K mg W env σ G H ((de env).fl f) E)
    (k : ∀ d e1 v G1 H1, de env = .ok d e1 → Rel K e1 σ G1 H1 → Dv K G1 v d → Fr env σ G H e1 σ G1 H1 → RunS K mg W e1 σ G1 H1 (f d e1) E → R v H1) : rdE K mg W de σ H R := by
  refine ⟨env, G, hR, ?_⟩
  cases q : de env with
  | ok d e1 =>
    rw [q] at h
    exact fun v G1 H1 a b c => k d e1 v G1 H1 q a b c (h.shift c)
  | ex x e => rw [q] at h; exact RunXS.toX h
  | stuck => rw [q] at h; exact h.elim
theorem L_thenS {de : DA} {f : List D → DEnv → Fl} {E : Ends} {R : VK} (hR : Rel K env σ G H) (h : RunS K mg W env σ G H ((de env).fl f) E)
    (k : ∀ ds e1 a vs G1 H1, de env = .ok ds e1 → Rel K e1 σ G1 H1 → H1 a = some (.lst vs) → G1 a = none → H a = none → ¬ Own e1 σ a → DvAll K G1 vs ds → Fr env σ G H e1 σ G1 H1 → RunS K mg W env σ G H (f ds e1) E → R (.ref a) H1) : rdL K mg W de σ H R := by
  refine ⟨env, G, hR, ?_⟩
  cases q : de env with
  | ok d e1 =>
    rw [q] at h
    exact fun a vs G1 H1 a1 a2 a3 a4 a5 a6 c => k d e1 a vs G1 H1 q a1 a2 a3 a4 a5 a6 c h
  | ex x e => rw [q] at h; exact RunXS.toX h
  | stuck => rw [q] at h; exact h.elim
theorem T_thenS {dt : DT} {f : Bool → DEnv → Fl} {E : Ends} {R : Bool → Hp → Prop} (hR : Rel K env σ G H) (h : RunS K mg W env σ G H ((dt env).fl f) E)
    (k : ∀ d e1 G1 H1, dt env = .ok d e1 → Rel K e1 σ G1 H1 → Fr env σ G H e1 σ G1 H1 → RunS K mg W e1 σ G1 H1 (f d e1) E → R d H1) : rdT K mg W dt σ H R := by
  refine ⟨env, G, hR, ?_⟩
  cases q : dt env with
  | ok d e1 =>
    rw [q] at h
    exact fun G1 H1 a c => k d e1 G1 H1 q a c (h.shift c)
  | ex x e => rw [q] at h; exact RunXS.toX h
  | stuck => rw [q] at h; exact h.elim
theorem RunS.nx_at {e : DEnv} {E : Ends} (h : RunS K mg W e σ G H (.nx e) E) (R : Rel K e σ G H) : E.nx σ H := h σ G H R (Fr.refl _ _ _ _)
/-- a name gets a value -/
theorem Rel.set {i : Nat} {s s0 : Sl} {v : V} (R : Rel K env σ G H) (hi : env[i]? = some s0) (hp : ∀ xs, s0 ≠ .p xs) (hr : RS K G H s (some v)) (hn : ∀ xs, s ≠ .p xs)
    (ho : s.own = true → ∀ a, v = .ref a → ¬ Own env σ a) : Rel K (env.set i s) (σ.set i (some v)) G H := by
  have li : i < env.length := (List.getElem?_eq_some_iff.mp hi).1
  have li2 : i < σ.length := by rw [← R.len]; exact li
  refine ⟨R.ex, by rw [List.length_set, List.length_set]; exact R.len, fun j t o e1 e2 => ?_, fun j k a ⟨⟨t, e1, e2⟩, e3⟩ ⟨⟨u, e4, e5⟩, e6⟩ => ?_⟩
  · by_cases z : j = i
    · subst z
      rw [List.getElem?_set_self li] at e1
      rw [List.getElem?_set_self li2] at e2
      cases e1; cases e2
      exact hr
    · rw [List.getElem?_set_ne (Ne.symm z)] at e1
      rw [List.getElem?_set_ne (Ne.symm z)] at e2
      exact R.slot j t o e1 e2
  · by_cases z : j = i
    · by_cases y : k = i
      · rw [z, y]
      · subst z
        rw [List.getElem?_set_self li] at e1
        rw [List.getElem?_set_self li2] at e3
        rw [List.getElem?_set_ne (Ne.symm y)] at e4 e6
        cases e1
        injection e3 with e3; injection e3 with e3
        exact absurd ⟨k, ⟨u, e4, e5⟩, e6⟩ (ho e2 a e3)
    · by_cases y : k = i
      · subst y
        rw [List.getElem?_set_self li] at e4
        rw [List.getElem?_set_self li2] at e6
        rw [List.getElem?_set_ne (Ne.symm z)] at e1 e3
        cases e4
        injection e6 with e6; injection e6 with e6
        exact absurd ⟨j, ⟨t, e1, e2⟩, e3⟩ (ho e5 a e6)
      · rw [List.getElem?_set_ne (Ne.symm z)] at e1 e3
        rw [List.getElem?_set_ne (Ne.symm y)] at e4 e6
        exact R.dist j k a ⟨⟨t, e1, e2⟩, e3⟩ ⟨⟨u, e4, e5⟩, e6⟩
theorem Fr.set {i : Nat} {s s0 : Sl} {v : V} (R : Rel K env σ G H) (hi : env[i]? = some s0) (hp : ∀ xs, s0 ≠ .p xs) (hn : ∀ xs, s ≠ .p xs) (ho : s.own = false) : Fr env σ G H (env.set i s) (σ.set i (some v)) G H := by
  have li : i < env.length := (List.getElem?_eq_some_iff.mp hi).1
  refine ⟨Ex.refl _, fun _ _ h _ => h, fun _ h => h, fun _ h => .inl h, fun a ⟨j, ⟨t, e1, e2⟩, e3⟩ => ?_, fun j xs hj => ?_⟩
  · by_cases z : j = i
    · subst z
      rw [List.getElem?_set_self li] at e1
      cases e1
      rw [ho] at e2; cases e2
    · rw [List.getElem?_set_ne (Ne.symm z)] at e1 e3
      exact .inl ⟨j, ⟨t, e1, e2⟩, e3⟩
  · by_cases z : j = i
    · subst z
      rw [List.getElem?_set_self li] at hj
      cases hj
      exact absurd rfl (hn xs)
    · rw [List.getElem?_set_ne (Ne.symm z)] at hj ⊢
      exact ⟨rfl, xs, hj⟩
end
/-! ### targets -/
/-- a name's slot may be stored to -/
def setV (i : Nat) (s : Sl) (env : DEnv) : Option DEnv := match env[i]? with
  | none => none
  | some (.p _) => none
  | some _ => some (env.set i s)
abbrev DG := D → DEnv → Option DEnv
def gN (i : Nat) : DG := fun d env => setV i (.v d) env
def gsN : List DG → List D → DEnv → Option DEnv
  | [], [], env => some env
  | g :: gs, d :: ds, env => (g d env).bind fun e => gsN gs ds e
  | _, _, _ => none
def gT (gs : List DG) : DG := fun d env => match d with
  | .tuple ds => gsN gs ds env
  | .list ds => gsN gs ds env
  | _ => none
/-- only slots of ws were stored to -/
def Tch (ws : List Nat) (σ σ' : L2.St) : Prop := σ'.length = σ.length ∧ ∀ j : Nat, j ∉ ws → σ'[j]? = σ[j]?
def rdG (K : PySem.W.Frag) (g : DG) (ws : List Nat) : TG := fun v σ H Q => ∃ env G d, Rel K env σ G H ∧ Dv K G v d ∧ ∃ env', g d env = some env' ∧ ∀ σ', Rel K env' σ' G H → Fr env σ G H env' σ' G H → Tch ws σ σ' → Q σ' H
def rdGs (K : PySem.W.Frag) (gs : List DG) (ws : List Nat) : TGs := fun vs σ H Q => ∃ env G ds, Rel K env σ G H ∧ DvAll K G vs ds ∧ ∃ env', gsN gs ds env = some env' ∧ ∀ σ', Rel K env' σ' G H → Fr env σ G H env' σ' G H → Tch ws σ σ' → Q σ' H
theorem pg_imp {X : Cx} {e : Expr} {t t' : TG} (h : PG X e t) (k : ∀ v σ H Q, t' v σ H Q → t v σ H Q) : PG X e t' := ⟨fun pins s σ H v u Q I r w => h.run pins s σ H v u Q I r (k v σ H Q w)⟩
theorem pgs_imp {X : Cx} {e : List Expr} {t t' : TGs} (h : PGs X e t) (k : ∀ v σ H Q, t' v σ H Q → t v σ H Q) : PGs X e t' := ⟨fun pins s σ H v u Q I r w => h.run pins s σ H v u Q I r (k v σ H Q w)⟩
theorem setV_some {i : Nat} {s : Sl} {env env' : DEnv} (h : setV i s env = some env') : ∃ s0, env[i]? = some s0 ∧ (∀ xs, s0 ≠ .p xs) ∧ env' = env.set i s := by
  unfold setV at h
  cases q : env[i]? with
  | none => rw [q] at h; cases h
  | some s0 =>
    rw [q] at h
    cases s0 with
    | p xs => cases h
    | no => cases h; exact ⟨_, rfl, fun _ z => (nomatch z), rfl⟩
    | v d => cases h; exact ⟨_, rfl, fun _ z => (nomatch z), rfl⟩
    | l d => cases h; exact ⟨_, rfl, fun _ z => (nomatch z), rfl⟩
    | m d => cases h; exact ⟨_, rfl, fun _ z => (nomatch z), rfl⟩
abbrev CG (X : Cx) (e : Expr) (g : DG) (ws : List Nat) : Prop := PG X e (rdG X.K g ws)
abbrev CGs (X : Cx) (es : List Expr) (gs : List DG) (ws : List Nat) : Prop := PGs X es (rdGs X.K gs ws)
section
variable {X : Cx} {W : WX} {pos : Pos}
theorem cg_name {i : Nat} {x : Str} (hN : X.N.Nodup) (hi : X.N[i]? = some x := by rfl) (hx : Loc X.env.scope x := by first | exact Or.inl rfl | exact Or.inr rfl) (hf : X.fn x = true ∨ X.env.scope.names.lookup x = some .local := by first | exact .inl rfl | exact .inr rfl | assumption) : CG X (.Name x pos) (gN i) [i] :=
  pg_imp (pg_name hN hi hx hf) fun v σ H Q h => by
    obtain ⟨env, G, d, R, dv, env', e, k⟩ := h
    obtain ⟨s0, e1, e2, rfl⟩ := setV_some e
    exact k _ (R.set e1 e2 ⟨v, rfl, dv⟩ (fun _ z => nomatch z) fun z => nomatch z) (Fr.set R e1 e2 (fun _ z => nomatch z) rfl) ⟨List.length_set, fun j hj => List.getElem?_set_ne (fun z => hj (by simp [z]))⟩
theorem cgs_nil : CGs X [] [] [] := pgs_imp pgs_nil fun v σ H Q h => by
  obtain ⟨env, G, ds, R, dv, env', e, k⟩ := h
  cases ds with
  | nil =>
    cases e
    cases dv
    exact ⟨rfl, k σ R (Fr.refl _ _ _ _) ⟨rfl, fun _ _ => rfl⟩⟩
  | cons d ds => cases e
theorem cgs_cons {e : Expr} {es : List Expr} {g : DG} {gs : List DG} {ws ws' : List Nat} (h1 : CG X e g ws) (h2 : CGs X es gs ws')
    (hs : (assignEach (e :: es) X.env).map (·.2) = assign e X.env :: (assignEach es X.env).map (·.2) := by rfl) : CGs X (e :: es) (g :: gs) (ws ++ ws') := pgs_imp (pgs_cons h1 h2 hs) fun v σ H Q h => by
  obtain ⟨env, G, ds, R, dv, env', e, k⟩ := h
  cases dv with
  | nil => cases e
  | @cons v1 vs d ds a b =>
    have e' : ((g d env).bind fun e => gsN gs ds e) = some env' := e
    cases q : g d env with
    | none => rw [q] at e'; cases e'
    | some e1 =>
      rw [q] at e'
      exact ⟨v1, vs, rfl, env, G, d, R, a, e1, q, fun σ1 R1 F1 T1 => ⟨e1, G, ds, R1, b, env', e', fun σ2 R2 F2 T2 => k σ2 R2 (F1.trans F2) ⟨T2.1.trans T1.1, fun j hj => (T2.2 j fun z => hj (List.mem_append_right _ z)).trans (T1.2 j fun z => hj (List.mem_append_left _ z))⟩⟩⟩
theorem pg_or {e : Expr} {t u : TG} (h1 : PG X e t) (h2 : PG X e u) : PG X e (fun v σ H Q => t v σ H Q ∨ u v σ H Q) := ⟨fun pins s σ H v w Q I r z => z.elim (fun z => h1.run pins s σ H v w Q I r z) fun z => h2.run pins s σ H v w Q I r z⟩
theorem gsN_len : ∀ {gs : List DG} {ds : List D} {env env' : DEnv}, gsN gs ds env = some env' → ds.length = gs.length
  | [], [], _, _, _ => rfl
  | g :: gs, d :: ds, env, env', h => by
    have h' : ((g d env).bind fun e => gsN gs ds e) = some env' := h
    cases q : g d env with
    | none => rw [q] at h'; cases h'
    | some e1 =>
      rw [q] at h'
      have := gsN_len (gs := gs) (ds := ds) (env := e1) (env' := env') h'
      simp [this]
  | [], _ :: _, _, _, h => by cases h
  | _ :: _, [], _, _, h => by cases h
theorem cg_tup {es : List Expr} {k : Nat} {gs : List DG} {ws : List Nat} (hc : X.calm = true) (h : CGs X es gs ws) (hn : (assignEach es X.env).length = gs.length := by rfl) (hst : (assignEach es X.env).findIdx? (·.1) = none := by rfl) : CG X (.Tuple es k pos) (gT gs) ws :=
  pg_imp (pg_or (pg_tup hc h hn hst) (pg_unl hc h hn hst)) fun v σ H Q w => by
    obtain ⟨env, G, d, R, dv, env', e, k⟩ := w
    cases dv with
    | @tup a xs ds h1 h2 => exact .inl ⟨a, xs, rfl, R.ex.t h1, by rw [h2.length]; exact gsN_len e, env, G, ds, R, h2, env', e, k⟩
    | @lst a xs ds h1 h2 => exact .inr ⟨a, xs, rfl, (R.ex.rl h1).sq, by rw [h2.length]; exact gsN_len e, env, G, ds, R, h2, env', e, k⟩
    | non => cases e
    | bl b => cases e
    | int b => cases e
    | str b => cases e
    | dct _ _ => cases e
/-! ### statements -/
def sNx : DS := fun env => .nx env
def Fl.seq (r : Fl) (t : DS) : Fl := match r with
  | .nx e => t e
  | r => r
def sSeq (s t : DS) : DS := fun env => (s env).seq t
def sAsg (de : DE) (g : DG) : DS := fun env => (de env).fl fun d e1 => match g d e1 with
  | some e2 => .nx e2
  | none => .stuck
def sAsgL (i : Nat) (dl : DA) : DS := fun env => (dl env).fl fun xs e1 => match setV i (.l xs) e1 with
  | some e2 => .nx e2
  | none => .stuck
def sDrop (de : DE) : DS := fun env => (de env).fl fun _ e1 => .nx e1
def sRet (de : DE) : DS := fun env => (de env).fl fun d e1 => .rt d e1
def sRetL (dl : DA) : DS := fun env => (dl env).fl fun d e1 => .rl d e1
def sRetN : DS := fun env => .rt .none env
def sIf (t : DT) (s u : DS) : DS := fun env => (t env).fl fun b e1 => if b then s e1 else u e1
def sBk : DS := fun env => .bk env
def sCt : DS := fun env => .ct env
abbrev CS (X : Cx) (W : WX) (st : Stmt) (ds : DS) : Prop := PS X st (rdS X.K X.mg W ds)
abbrev CSs (X : Cx) (W : WX) (st : List Stmt) (ds : DS) : Prop := PSs X st (rdS X.K X.mg W ds)
variable {st : Stmt} {rest : List Stmt} {ds du : DS} {e : Expr} {de : DE}
theorem css_nil : CSs X W [] sNx := pss_imp pss_nil fun E σ H h => by
  obtain ⟨env, G, R, h⟩ := h
  exact h σ G H R (Fr.refl _ _ _ _)
theorem css_cons (h1 : CS X W st ds) (h2 : CSs X W rest du) : CSs X W (st :: rest) (sSeq ds du) := pss_imp (pss_cons h1 h2) fun E σ H h => by
  obtain ⟨env, G, R, h⟩ := h
  refine ⟨env, G, R, ?_⟩
  have h' : RunS X.K X.mg W env σ G H ((ds env).seq du) E := h
  cases q : ds env with
  | nx e1 =>
    rw [q] at h'
    exact fun σ' G' H' R' F' => ⟨e1, G', R', h'.shift F'⟩
  | bk e1 => rw [q] at h'; exact h'
  | ct e1 => rw [q] at h'; exact h'
  | rt d e1 => rw [q] at h'; exact h'
  | rl d e1 => rw [q] at h'; exact h'
  | ex d e1 => rw [q] at h'; exact h'
  | stuck => rw [q] at h'; exact h'
theorem css_one (h1 : CS X W st ds) : CSs X W [st] ds := pss_one h1
theorem cs_pass : CS X W (.Pass pos) sNx := ps_imp ps_pass fun E σ H h => by
  obtain ⟨env, G, R, h⟩ := h
  exact h σ G H R (Fr.refl _ _ _ _)
theorem cs_break : CS X W (.Break pos) sBk := ps_imp ps_break fun E σ H h => by
  obtain ⟨env, G, R, h⟩ := h
  exact h σ G H R (Fr.refl _ _ _ _)
theorem cs_continue : CS X W (.Continue pos) sCt := ps_imp ps_continue fun E σ H h => by
  obtain ⟨env, G, R, h⟩ := h
  exact h σ G H R (Fr.refl _ _ _ _)
theorem asg_ok {K : PySem.W.Frag} {mg : Str → Option Value} {de : DE} {g : DG} {ws : List Nat} (E : Ends) (σ : L2.St) (H : Hp) (h : rdS K mg W (sAsg de g) E σ H) : tAsg (rdE K mg W de) (rdG K g ws) E σ H := by
  obtain ⟨env, G, R, h⟩ := h
  refine E_thenS R h fun d e1 v G1 H1 _ R1 dv F1 h1 => ?_
  cases q : g d e1 with
  | none => rw [q] at h1; exact h1.elim
  | some e2 =>
    rw [q] at h1
    exact ⟨e1, G1, d, R1, dv, e2, q, fun σ' R' F' _ => h1 σ' G1 H1 R' F'⟩
theorem cs_asg {tg : Expr} {g : DG} {ws : List Nat} (he : CE X W e de) (hg : CG X tg g ws) (hs : swapsWithSole [tg] e pos.line X.env = pure false := by rfl) (hw : swappedStores [tg] e X.env = pure none := by rfl)
    (h1 : (assignEach [tg] X.env).map (·.2) = [assign tg X.env] := by rfl) : CS X W (.Assign [tg] e pos) (sAsg de g) := ps_imp (ps_asg he hg hs hw h1) asg_ok
theorem cs_set {i : Nat} {x : Str} {pos' : Pos} (hN : X.N.Nodup) (he : CE X W e de) (hi : X.N[i]? = some x := by rfl) (hx : Loc X.env.scope x := by first | exact Or.inl rfl | exact Or.inr rfl) (hs : swapsWith e (some (.Name x pos')) pos.line X.env = pure false := by rfl) (hf : X.fn x = true ∨ X.env.scope.names.lookup x = some .local := by first | exact .inl rfl | exact .inr rfl | assumption) :
    CS X W (.Assign [.Name x pos'] e pos) (sAsg de (gN i)) := ps_imp (ps_set hN hi hx he hs hf) fun E σ H h => by
  obtain ⟨env, G, R, h⟩ := h
  refine E_thenS R h fun d e1 v G1 H1 _ R1 dv F1 h1 => ?_
  cases q : gN i d e1 with
  | none => rw [q] at h1; exact h1.elim
  | some e2 =>
    rw [q] at h1
    obtain ⟨s0, a1, a2, rfl⟩ := setV_some q
    exact h1 _ G1 H1 (R1.set a1 a2 ⟨v, rfl, dv⟩ (fun _ z => nomatch z) fun z => nomatch z) (Fr.set R1 a1 a2 (fun _ z => nomatch z) rfl)
theorem setL_ok {K : PySem.W.Frag} {mg : Str → Option Value} {i : Nat} {dl : DA} (E : Ends) (σ : L2.St) (H : Hp) (h : rdS K mg W (sAsgL i dl) E σ H) : tAsg (rdL K mg W dl) (gName i) E σ H := by
  obtain ⟨env, G, R, h⟩ := h
  refine L_thenS R h fun xs e1 a vs G1 H1 _ R1 h1 h2 h3 h4 dv F1 hk => ?_
  cases q : setV i (.l xs) e1 with
  | none => rw [q] at hk; exact hk.elim
  | some e2 =>
    rw [q] at hk
    obtain ⟨s0, a1, a2, rfl⟩ := setV_some q
    have li : i < e1.length := (List.getElem?_eq_some_iff.mp a1).1
    refine hk (σ.set i (some (.ref a))) G1 H1 (R1.set a1 a2 ⟨a, vs, rfl, h1, h2, dv⟩ (fun _ z => nomatch z) fun _ b hb => by cases hb; exact h4) ⟨F1.gg, F1.keep, F1.dom, F1.fresh, fun b ⟨j, ⟨t, e1', e2⟩, e3⟩ => ?_, fun j ys hj => ?_⟩
    · by_cases z : j = i
      · subst z
        rw [List.getElem?_set_self (by rw [← R1.len]; exact li)] at e3
        cases e3
        exact .inr h3
      · rw [List.getElem?_set_ne (Ne.symm z)] at e1' e3
        exact F1.own b ⟨j, ⟨t, e1', e2⟩, e3⟩
    · by_cases z : j = i
      · subst z
        rw [List.getElem?_set_self li] at hj
        cases hj
      · rw [List.getElem?_set_ne (Ne.symm z)] at hj ⊢
        exact F1.par j ys hj
theorem cs_setL {i : Nat} {x : Str} {pos' : Pos} {dl : DA} (hN : X.N.Nodup) (he : CL X W e dl) (hi : X.N[i]? = some x := by rfl) (hx : Loc X.env.scope x := by first | exact Or.inl rfl | exact Or.inr rfl) (hs : swapsWith e (some (.Name x pos')) pos.line X.env = pure false := by rfl) (hf : X.fn x = true ∨ X.env.scope.names.lookup x = some .local := by first | exact .inl rfl | exact .inr rfl | assumption) :
    CS X W (.Assign [.Name x pos'] e pos) (sAsgL i dl) := ps_imp (ps_set hN hi hx he hs hf) setL_ok
theorem cs_drop (he : CE X W e de) (hs : swapsWith e none pos.line X.env = pure false := by rfl) : CS X W (.Expr e pos) (sDrop de) := ps_imp (ps_expr he hs) fun E σ H h => by
  obtain ⟨env, G, R, h⟩ := h
  exact E_thenS R h fun d e1 v G1 H1 _ R1 dv F1 h1 => h1 σ G1 H1 R1 (Fr.refl _ _ _ _)
theorem cs_ret (he : CE X W e de) : CS X W (.Return (some e) pos) (sRet de) := ps_imp (ps_ret he) fun E σ H h => by
  obtain ⟨env, G, R, h⟩ := h
  exact E_thenS R h fun d e1 v G1 H1 _ R1 dv F1 h1 => h1 v σ G1 H1 R1 dv (Fr.refl _ _ _ _)
theorem cs_retL {dl : DA} (he : CL X W e dl) : CS X W (.Return (some e) pos) (sRetL dl) := ps_imp (ps_ret he) fun E σ H h => by
  obtain ⟨env, G, R, h⟩ := h
  exact L_thenS R h fun xs e1 a vs G1 H1 _ R1 h1 h2 h3 h4 dv F1 hk => hk a vs σ G1 H1 R1 h1 h2 h3 h4 dv F1
theorem cs_retN : CS X W (.Return none pos) sRetN := ps_imp ps_retN fun E σ H h => by
  obtain ⟨env, G, R, h⟩ := h
  exact h .non σ G H R .non (Fr.refl _ _ _ _)
theorem cs_if {c : Expr} {a b : List Stmt} {dt : DT} (hc : CT X W c dt) (ha : CSs X W a ds) (hb : CSs X W b du) : CS X W (.If c a b pos) (sIf dt ds du) := ps_imp (ps_if hc ha hb) fun E σ H h => by
  obtain ⟨env, G, R, h⟩ := h
  refine T_thenS R h fun d e1 G1 H1 _ R1 F1 h1 => ?_
  cases d with
  | true => exact ⟨e1, G1, R1, h1⟩
  | false => exact ⟨e1, G1, R1, h1⟩
/-! ### while -/
/-- behind a turn -/
def Fl.turn (r : Fl) (k : DS) : Fl := match r with
  | .nx e2 => k e2
  | .ct e2 => k e2
  | .bk e2 => .nx e2
  | .rt d e2 => .rt d e2
  | .rl d e2 => .rl d e2
  | .ex x e2 => .ex x e2
  | .stuck => .stuck
def whileD (t : DT) (body : DS) : Nat → DS
  | 0 => fun _ => .stuck
  | n + 1 => fun env => (t env).fl fun b e1 => if b then (body e1).turn (whileD t body n) else .nx e1
theorem cs_while {c : Expr} {body : List Stmt} {dt : DT} {db : DS} (n : Nat) (hp : PassesOwn (model X.prog X.w) X.A X.env X.xe) (hc : CT X W c dt) (hb : CSs X W body db) : CS X W (.While c body [] pos) (whileD dt db n) := ps_imp (ps_while hp hc hb) fun E σ H h => by
  refine ⟨fun m σ H => rdS X.K X.mg W (whileD dt db m) E σ H, ⟨n, h⟩, fun m σ H h => ?_⟩
  obtain ⟨env, G, R, h⟩ := h
  cases m with
  | zero => exact h.elim
  | succ m =>
    refine T_thenS R h fun d e1 G1 H1 _ R1 F1 h1 => ?_
    cases d with
    | false => exact h1 σ G1 H1 R1 (Fr.refl _ _ _ _)
    | true =>
      refine ⟨fun σ' H' => rdS X.K X.mg W (whileD dt db m) E σ' H', fun σ' H' z => ⟨m, Nat.lt_succ_self m, z⟩, e1, G1, R1, ?_⟩
      have h1' : RunS X.K X.mg W e1 σ G1 H1 ((db e1).turn (whileD dt db m)) E := h1
      cases q : db e1 with
      | nx e2 => rw [q] at h1'; exact fun σ' G' H' R' F' => ⟨e2, G', R', h1'.shift F'⟩
      | ct e2 => rw [q] at h1'; exact fun σ' G' H' R' F' => ⟨e2, G', R', h1'.shift F'⟩
      | bk e2 => rw [q] at h1'; exact h1'
      | rt d e2 => rw [q] at h1'; exact h1'
      | rl d e2 => rw [q] at h1'; exact h1'
      | ex x e2 => rw [q] at h1'; exact h1'
      | stuck => rw [q] at h1'; exact h1'
/-! ### what is walked -/
/-- J gives ds, one by one, as long as G stands -/
def WalkD (K : PySem.W.Frag) (J : It) (ds : List D) (G : Hp) : Prop := ∀ (i : Nat) (G' H' : Hp), Ex G G' → Ex G' H' →
  (∀ d, ds[i]? = some d → J.go i H' ∧ ∀ x H'', J.yld i H' x H'' → ∃ G'', Grow G' H' G'' H'' ∧ Dv K G'' x d) ∧ (ds.length ≤ i → J.stop i H')
def RunI (K : PySem.W.Frag) (mg : Str → Option Value) (W : WX) (env : DEnv) (σ : L2.St) (G H : Hp) (r : Rs (List D)) (R : It → Hp → Prop) : Prop := match r with
  | .ok ds env' => ∀ J G' H', Rel K env' σ G' H' → WalkD K J ds G' → Fr env σ G H env' σ G' H' → R J H'
  | .ex x env' => RunX K mg W env σ G H x env'
  | .stuck => False
def rdI (K : PySem.W.Frag) (mg : Str → Option Value) (W : WX) (di : DA) : TI := fun σ H R => ∃ env G, Rel K env σ G H ∧ RunI K mg W env σ G H (di env) R
abbrev CI (X : Cx) (W : WX) (tg e : Expr) (di : DA) : Prop := PI X tg e (rdI X.K X.mg W di)
theorem pi_imp {tg e : Expr} {t t' : TI} (h : PI X tg e t) (k : ∀ σ H R, t' σ H R → t σ H R) : PI X tg e t' := ⟨fun pins s σ H R I w => h.run pins s σ H R I (k σ H R w)⟩
theorem pi_or {tg e : Expr} {t u : TI} (h1 : PI X tg e t) (h2 : PI X tg e u) : PI X tg e (fun σ H R => t σ H R ∨ u σ H R) := ⟨fun pins s σ H R I w => w.elim (fun z => h1.run pins s σ H R I z) fun z => h2.run pins s σ H R I z⟩
def forD (g : DG) (body : DS) : List D → DS
  | [] => fun env => .nx env
  | d :: ds => fun env => match g d env with
    | none => .stuck
    | some e1 => (body e1).turn (forD g body ds)
def sFor (di : DA) (g : DG) (body : DS) : DS := fun env => (di env).fl fun ds e1 => forD g body ds e1
theorem cs_for {tg iter : Expr} {body : List Stmt} {di : DA} {g : DG} {ws : List Nat} {db : DS} (hp : PassesOwn (model X.prog X.w) X.A X.env X.xe) (hc : X.calm = true) (hi : CI X W tg iter di) (hg : CG X tg g ws) (hb : CSs X W body db)
    (hs : ∀ x, foldedSetIterable iter X.env x = pure x := by intro _; rfl) : CS X W (.For tg iter body [] pos) (sFor di g db) := ps_imp (ps_for hp hc hi hg hb hs) fun E σ H h => by
  obtain ⟨env, G, R, h⟩ := h
  refine ⟨env, G, R, ?_⟩
  have h' : RunS X.K X.mg W env σ G H ((di env).fl fun ds e1 => forD g db ds e1) E := h
  cases q : di env with
  | ex x e => rw [q] at h'; exact RunXS.toX h'
  | stuck => rw [q] at h'; exact h'
  | ok xs e1 =>
    rw [q] at h'
    intro J G1 H1 R1 wk F1
    refine ⟨fun i m σ' H' => ∃ env' G', Rel X.K env' σ' G' H' ∧ Ex G1 G' ∧ RunS X.K X.mg W env' σ' G' H' (forD g db (xs.drop i) env') E ∧ m + i = xs.length,
      ⟨xs.length, e1, G1, R1, Ex.refl _, h'.shift F1, rfl⟩, ?_⟩
    rintro i m σ' H' ⟨env', G', R', ex', run, em⟩
    obtain ⟨w1, w2⟩ := wk i G' H' ex' R'.ex
    by_cases hi : i < xs.length
    · have hd : xs[i]? = some xs[i] := List.getElem?_eq_getElem hi
      obtain ⟨go, yl⟩ := w1 _ hd
      refine .inr ⟨go, fun σ2 H2 => ∃ env2 G2, Rel X.K env2 σ2 G2 H2 ∧ Ex G1 G2 ∧ RunS X.K X.mg W env2 σ2 G2 H2 (forD g db (xs.drop (i + 1)) env2) E, fun σ2 H2 ⟨env2, G2, r2, x2, s2⟩ => ⟨m - 1, by omega, env2, G2, r2, x2, s2, by omega⟩, fun x H'' y => ?_⟩
      obtain ⟨G'', gr, dv⟩ := yl x H'' y
      have run2 := run.shift (gr.fr env' σ')
      rw [List.drop_eq_getElem_cons hi] at run2
      have run3 : RunS X.K X.mg W env' σ' G'' H'' (match g xs[i] env' with
        | none => .stuck
        | some e1 => (db e1).turn (forD g db (xs.drop (i + 1)))) E := run2
      cases q2 : g xs[i] env' with
      | none => rw [q2] at run3; exact run3.elim
      | some e2 =>
        rw [q2] at run3
        refine ⟨env', G'', xs[i], R'.grow gr, dv, e2, q2, fun σ2 R2 F2 _ => ⟨e2, G'', R2, ?_⟩⟩
        have run4 : RunS X.K X.mg W e2 σ2 G'' H'' ((db e2).turn (forD g db (xs.drop (i + 1)))) E := RunS.shift run3 F2
        cases q3 : db e2 with
        | nx e3 => rw [q3] at run4; exact fun σ3 G3 H3 R3 F3 => ⟨e3, G3, R3, (ex'.trans gr.gg).trans F3.gg, run4.shift F3⟩
        | ct e3 => rw [q3] at run4; exact fun σ3 G3 H3 R3 F3 => ⟨e3, G3, R3, (ex'.trans gr.gg).trans F3.gg, run4.shift F3⟩
        | bk e3 => rw [q3] at run4; exact run4
        | rt d e3 => rw [q3] at run4; exact run4
        | rl d e3 => rw [q3] at run4; exact run4
        | ex x e3 => rw [q3] at run4; exact run4
        | stuck => rw [q3] at run4; exact run4
    · have ei : xs.drop i = [] := List.drop_eq_nil_of_le (by omega)
      rw [ei] at run
      exact .inl ⟨w2 (by omega), run σ' G' H' R' (Fr.refl _ _ _ _)⟩
end
end DL
/- part DL3 -/
set_option Elab.async false
set_option linter.all false
set_option maxRecDepth 100000
set_option autoImplicit false
/-! DL3: what is walked, comprehensions, defs and calls. -/
namespace DL
open PySem L2
/-! ### sequences, ranges -/
def iSeq (de : DE) : DA := fun env => (de env).bind fun d e1 => match d with
  | .list xs => .ok xs e1
  | .tuple xs => .ok xs e1
  | _ => .stuck
def rngD (lo hi : Int) : List D := (List.range (hi - lo).toNat).map fun k => .int (lo + (k : Nat))
def int1 : List D → Option Int
  | [.int j] => some j
  | _ => none
def int2 : List D → Option (Int × Int)
  | [.int i, .int j] => some (i, j)
  | _ => none
theorem int1_some {ds : List D} {j : Int} (h : int1 ds = some j) : ds = [.int j] := by
  unfold int1 at h
  split at h
  · cases h; rfl
  · cases h
theorem int2_some {ds : List D} {p : Int × Int} (h : int2 ds = some p) : ds = [.int p.1, .int p.2] := by
  unfold int2 at h
  split at h
  · cases h; rfl
  · cases h
def iRng1 (da : DA) : DA := fun env => (da env).bind fun ds e1 => match int1 ds with
  | some j => if -(2 ^ 62) ≤ j ∧ j < 2 ^ 62 then .ok (rngD 0 j) e1 else .stuck
  | none => .stuck
def iRng2 (da : DA) : DA := fun env => (da env).bind fun ds e1 => match int2 ds with
  | some (i, j) => if -(2 ^ 62) ≤ i ∧ i < 2 ^ 62 ∧ -(2 ^ 62) ≤ j ∧ j < 2 ^ 62 then .ok (rngD i j) e1 else .stuck
  | none => .stuck
theorem walk_list {K : PySem.W.Frag} {G : Hp} {a : Addr} {xs : List V} {ds : List D} (h : RL K G a xs) (dv : DvAll K G xs ds) : WalkD K (Itl K a) ds G := fun i G' H' e1 e2 => by
  have hq : SqL K H' a xs := ((e1.trans e2).rl h).sq
  refine ⟨fun d hd => ?_, fun hl => ⟨xs, hq, by rw [dv.length]; exact hl⟩⟩
  obtain ⟨v, hv, dvv⟩ := dv.get hd
  refine ⟨⟨xs, v, hq, hv⟩, fun x H'' ⟨e, y⟩ => ?_⟩
  subst e
  have : x = v := Option.some.inj ((y xs hq).symm.trans hv)
  subst this
  exact ⟨G', Grow.refl e2, dvv.up e1⟩
theorem walk_tup {K : PySem.W.Frag} {G : Hp} {a : Addr} {xs : List V} {ds : List D} (h : SqT K G a xs) (dv : DvAll K G xs ds) : WalkD K (Itt K a) ds G := fun i G' H' e1 e2 => by
  have hq : SqT K H' a xs := (e1.trans e2).t h
  refine ⟨fun d hd => ?_, fun hl => ⟨xs, hq, by rw [dv.length]; exact hl⟩⟩
  obtain ⟨v, hv, dvv⟩ := dv.get hd
  refine ⟨⟨xs, v, hq, hv⟩, fun x H'' ⟨e, y⟩ => ?_⟩
  subst e
  have : x = v := Option.some.inj ((y xs hq).symm.trans hv)
  subst this
  exact ⟨G', Grow.refl e2, dvv.up e1⟩
theorem walk_rng {K : PySem.W.Frag} {G : Hp} (lo hi : Int) : WalkD K (Itr lo (hi - lo).toNat) (rngD lo hi) G := fun i G' H' e1 e2 => by
  have hl : (rngD lo hi).length = (hi - lo).toNat := by simp [rngD]
  refine ⟨fun d hd => ?_, fun hl' => by rw [hl] at hl'; exact hl'⟩
  obtain ⟨h1, h2⟩ := List.getElem?_eq_some_iff.mp hd
  have h1' : i < (hi - lo).toNat := by rw [← hl]; exact h1
  refine ⟨h1', fun x H'' ⟨e, y⟩ => ?_⟩
  subst e
  have ed : d = .int (lo + (i : Nat)) := by rw [← h2]; simp [rngD]
  subst ed
  rw [y]
  exact ⟨G', Grow.refl e2, .int _⟩
section
variable {X : Cx} {W : WX} {pos : Pos} {tg e : Expr} {de : DE}
theorem ci_seq (he : CE X W e de) : CI X W tg e (iSeq de) := pi_imp (pi_or (pi_list he) (pi_tup he)) fun σ H R h => by
  obtain ⟨env, G, R0, h⟩ := h
  have h' : RunI X.K X.mg W env σ G H ((de env).bind fun d e1 => match d with
    | .list xs => .ok xs e1
    | .tuple xs => .ok xs e1
    | _ => .stuck) R := h
  cases q : de env with
  | stuck => rw [q] at h'; exact h'.elim
  | ex x e => rw [q] at h'; exact .inl ⟨env, G, R0, by rw [q]; exact h'⟩
  | ok d e1 =>
    rw [q] at h'
    cases d with
    | list xs =>
      refine .inl ⟨env, G, R0, ?_⟩
      rw [q]
      intro v G1 H1 R1 dv F1
      cases dv with
      | lst a b => exact ⟨_, rfl, ⟨_, (R1.ex.rl a).sq⟩, h' _ G1 H1 R1 (walk_list a b) F1⟩
    | tuple xs =>
      refine .inr ⟨env, G, R0, ?_⟩
      rw [q]
      intro v G1 H1 R1 dv F1
      cases dv with
      | tup a b => exact ⟨_, rfl, ⟨_, R1.ex.t a⟩, h' _ G1 H1 R1 (walk_tup a b) F1⟩
    | none => exact h'.elim
    | bool b => exact h'.elim
    | int b => exact h'.elim
    | str b => exact h'.elim
    | dict b => exact h'.elim
theorem A_thenI {K : PySem.W.Frag} {mg : Str → Option Value} {env : DEnv} {σ : L2.St} {G H : Hp} {da : DA} {f : List D → DEnv → Rs (List D)} {R : It → Hp → Prop} {R' : List V → Hp → Prop} (hR : Rel K env σ G H) (h : RunI K mg W env σ G H ((da env).bind f) R)
    (k : ∀ d e1 v G1 H1, da env = .ok d e1 → Rel K e1 σ G1 H1 → DvAll K G1 v d → Fr env σ G H e1 σ G1 H1 → RunI K mg W e1 σ G1 H1 (f d e1) R → R' v H1) : rdA K mg W da σ H R' :=
  A_then hR (P := fun e s G H r => RunI K mg W e s G H r R) h (fun _ _ z => z) (fun z => z) (fun e1 G1 H1 r a b => by
    cases r with
    | ok ds e => exact fun J G' H' x y z => a J G' H' x y (b.trans z)
    | ex x e => exact RunX.shift a b
    | stuck => exact a) k
theorem ci_range1 {a : Expr} {da : DA} {p : Pos} (hm : X.mg "range" = none) (ha : CA X W [a] da) (hg : Gl X "range" := by rfl) (hs : starEach [a] X.env = [(false, eval a X.env)] := by rfl) : CI X W tg (.Call (.Name "range" p) [a] [] pos) (iRng1 da) :=
  pi_imp (pi_range1 hg hm ha hs) fun σ H R h => by
    obtain ⟨env, G, R0, h⟩ := h
    refine A_thenI R0 h fun ds e1 vs G1 H1 q R1 dv F1 h1 => ?_
    cases q2 : int1 ds with
    | none => rw [q2] at h1; exact h1.elim
    | some j =>
      rw [q2] at h1
      have e := int1_some q2
      subst e
      obtain ⟨v, rfl, dv1⟩ := dv.inv1
      obtain rfl : v = .int j := by cases dv1; rfl
      by_cases c : -(2 ^ 62) ≤ j ∧ j < 2 ^ 62
      · have h2 : RunI X.K X.mg W e1 σ G1 H1 (if -(2 ^ 62) ≤ j ∧ j < 2 ^ 62 then .ok (rngD 0 j) e1 else .stuck) R := h1
        rw [if_pos c] at h2
        have w := walk_rng (K := X.K) (G := G1) 0 j
        rw [Int.sub_zero] at w
        exact ⟨j, rfl, c.1, c.2, h2 _ G1 H1 R1 w (Fr.refl _ _ _ _)⟩
      · have h2 : RunI X.K X.mg W e1 σ G1 H1 (if -(2 ^ 62) ≤ j ∧ j < 2 ^ 62 then .ok (rngD 0 j) e1 else .stuck) R := h1
        rw [if_neg c] at h2
        exact h2.elim
theorem ci_range2 {a b : Expr} {da : DA} {p : Pos} (hm : X.mg "range" = none) (ha : CA X W [a, b] da) (hg : Gl X "range" := by rfl) (hs : starEach [a, b] X.env = [(false, eval a X.env), (false, eval b X.env)] := by rfl) (hs2 : starEach [b] X.env = [(false, eval b X.env)] := by rfl) : CI X W tg (.Call (.Name "range" p) [a, b] [] pos) (iRng2 da) :=
  pi_imp (pi_range2 hg hm ha hs hs2) fun σ H R h => by
    obtain ⟨env, G, R0, h⟩ := h
    refine A_thenI R0 h fun ds e1 vs G1 H1 q R1 dv F1 h1 => ?_
    cases q2 : int2 ds with
    | none => rw [q2] at h1; exact h1.elim
    | some pr =>
      obtain ⟨i, j⟩ := pr
      rw [q2] at h1
      have e := int2_some q2
      subst e
      obtain ⟨v, w, rfl, dv, dw⟩ := dv.inv2
      cases dv
      cases dw
      have h2 : RunI X.K X.mg W e1 σ G1 H1 (if -(2 ^ 62) ≤ i ∧ i < 2 ^ 62 ∧ -(2 ^ 62) ≤ j ∧ j < 2 ^ 62 then .ok (rngD i j) e1 else .stuck) R := h1
      by_cases c : -(2 ^ 62) ≤ i ∧ i < 2 ^ 62 ∧ -(2 ^ 62) ≤ j ∧ j < 2 ^ 62
      · rw [if_pos c] at h2
        exact ⟨i, j, rfl, c, h2 _ G1 H1 R1 (walk_rng i j) (Fr.refl _ _ _ _)⟩
      · rw [if_neg c] at h2
        exact h2.elim
end
/-! ### comprehensions -/
def wipeD (env : DEnv) : List Nat → DEnv
  | [] => env
  | v :: vs => (wipeD env vs).set v .no
def mergeD (env0 env : DEnv) : List Nat → DEnv
  | [] => env
  | v :: vs => (mergeD env0 env vs).set v (env0.getD v .no)
def noOwn (env : DEnv) (vs : List Nat) : Bool := vs.all fun i => match env[i]? with
  | some s => !s.own
  | none => false
def compD (g : DG) (t : DT) (e : DE) (vs : List Nat) : List D → DA
  | [] => fun env => .ok [] env
  | d :: ds => fun env => match g d env with
    | none => .stuck
    | some e1 => (t e1).bind fun b e2 => if b then (e e2).bind fun y e3 => (compD g t e vs ds (wipeD e3 vs)).bind fun ys e4 => .ok (y :: ys) e4 else compD g t e vs ds (wipeD e2 vs)
def tYesD : DT := fun env => .ok true env
def lComp (di : DA) (g : DG) (t : DT) (e : DE) (vs : List Nat) : DA := fun env => (di env).bind fun ds e1 =>
  if ds.length ≤ 100000 ∧ noOwn e1 vs = true then match compD g t e vs ds (wipeD e1 vs) with
    | .ok ys e2 => .ok ys (mergeD e1 e2 vs)
    | _ => .stuck
  else .stuck
theorem wipe_get (σ : L2.St) (j : Nat) : ∀ vs : List Nat, (wipe σ vs)[j]? = if j ∈ vs then (σ[j]?).map fun _ => none else σ[j]?
  | [] => by simp [wipe]
  | v :: vs => by
    unfold wipe
    by_cases h : j = v
    · subst h
      rw [if_pos (by simp)]
      by_cases hl : j < (wipe σ vs).length
      · rw [List.getElem?_set_self hl]
        rw [wipe_length] at hl
        rw [List.getElem?_eq_getElem hl]; rfl
      · rw [List.getElem?_eq_none (by simpa using hl)]
        rw [wipe_length] at hl
        rw [List.getElem?_eq_none (by omega)]; rfl
    · rw [List.getElem?_set_ne (Ne.symm h), wipe_get σ j vs]
      by_cases hv : j ∈ vs
      · rw [if_pos hv, if_pos (by simp [hv])]
      · rw [if_neg hv, if_neg (by simp [h, hv])]
theorem wipeD_length (env : DEnv) : ∀ vs : List Nat, (wipeD env vs).length = env.length
  | [] => rfl
  | v :: vs => by unfold wipeD; rw [List.length_set, wipeD_length env vs]
theorem wipeD_get (env : DEnv) (j : Nat) : ∀ vs : List Nat, (wipeD env vs)[j]? = if j ∈ vs then (env[j]?).map fun _ => Sl.no else env[j]?
  | [] => by simp [wipeD]
  | v :: vs => by
    unfold wipeD
    by_cases h : j = v
    · subst h
      rw [if_pos (by simp)]
      by_cases hl : j < (wipeD env vs).length
      · rw [List.getElem?_set_self hl]
        rw [wipeD_length] at hl
        rw [List.getElem?_eq_getElem hl]; rfl
      · rw [List.getElem?_eq_none (by simpa using hl)]
        rw [wipeD_length] at hl
        rw [List.getElem?_eq_none (by omega)]; rfl
    · rw [List.getElem?_set_ne (Ne.symm h), wipeD_get env j vs]
      by_cases hv : j ∈ vs
      · rw [if_pos hv, if_pos (by simp [hv])]
      · rw [if_neg hv, if_neg (by simp [h, hv])]
theorem mergeD_length (env0 env : DEnv) : ∀ vs : List Nat, (mergeD env0 env vs).length = env.length
  | [] => rfl
  | v :: vs => by unfold mergeD; rw [List.length_set, mergeD_length env0 env vs]
theorem mergeD_get (env0 env : DEnv) (hl0 : env0.length = env.length) (j : Nat) : ∀ vs : List Nat, (mergeD env0 env vs)[j]? = if j ∈ vs then env0[j]? else env[j]?
  | [] => by simp [mergeD]
  | v :: vs => by
    unfold mergeD
    by_cases h : j = v
    · subst h
      rw [if_pos (by simp)]
      by_cases hl : j < (mergeD env0 env vs).length
      · rw [List.getElem?_set_self hl]
        rw [mergeD_length] at hl
        rw [List.getD_eq_getElem?_getD, List.getElem?_eq_getElem (by omega)]; rfl
      · rw [List.getElem?_eq_none (by simpa using hl)]
        rw [mergeD_length] at hl
        rw [List.getElem?_eq_none (by omega)]
    · rw [List.getElem?_set_ne (Ne.symm h), mergeD_get env0 env hl0 j vs]
      by_cases hv : j ∈ vs
      · rw [if_pos hv, if_pos (by simp [hv])]
      · rw [if_neg hv, if_neg (by simp [h, hv])]
theorem wipe_ext {σ1 σ2 : L2.St} {vs : List Nat} (hl : σ1.length = σ2.length) (h : ∀ j : Nat, j ∉ vs → σ1[j]? = σ2[j]?) : wipe σ1 vs = wipe σ2 vs := by
  refine List.ext_getElem? fun j => ?_
  rw [wipe_get, wipe_get]
  by_cases hv : j ∈ vs
  · rw [if_pos hv, if_pos hv]
    by_cases c : j < σ1.length
    · rw [List.getElem?_eq_getElem c, List.getElem?_eq_getElem (by omega)]; rfl
    · rw [List.getElem?_eq_none (by omega), List.getElem?_eq_none (by omega)]
  · rw [if_neg hv, if_neg hv, h j hv]
theorem wipe_own {env : DEnv} {σ : L2.St} {vs : List Nat} {i : Nat} {a : Addr} (h : OwnAt (wipeD env vs) (wipe σ vs) i a) : OwnAt env σ i a ∧ i ∉ vs := by
  obtain ⟨⟨s, e1, e2⟩, e3⟩ := h
  rw [wipeD_get] at e1
  rw [wipe_get] at e3
  by_cases hv : i ∈ vs
  · rw [if_pos hv] at e1
    cases q : env[i]? with
    | none => rw [q] at e1; cases e1
    | some t => rw [q] at e1; cases e1; cases e2
  · rw [if_neg hv] at e1 e3
    exact ⟨⟨⟨s, e1, e2⟩, e3⟩, hv⟩
theorem Rel.wipe {K : PySem.W.Frag} {env : DEnv} {σ : L2.St} {G H : Hp} (R : Rel K env σ G H) (vs : List Nat) : Rel K (wipeD env vs) (L2.wipe σ vs) G H := by
  refine ⟨R.ex, by rw [wipeD_length, wipe_length]; exact R.len, fun i s o e1 e2 => ?_, fun i j a x y => R.dist i j a (wipe_own x).1 (wipe_own y).1⟩
  rw [wipeD_get] at e1
  rw [wipe_get] at e2
  by_cases hv : i ∈ vs
  · rw [if_pos hv] at e1
    cases q : env[i]? with
    | none => rw [q] at e1; cases e1
    | some t => rw [q] at e1; cases e1; trivial
  · rw [if_neg hv] at e1 e2
    exact R.slot i s o e1 e2
theorem Fr.wipe (env : DEnv) (σ : L2.St) (G H : Hp) (vs : List Nat) : Fr env σ G H (wipeD env vs) (L2.wipe σ vs) G H := by
  refine ⟨Ex.refl _, fun _ _ h _ => h, fun _ h => h, fun _ h => .inl h, fun a ⟨i, h⟩ => .inl ⟨i, (wipe_own h).1⟩, fun i xs h => ?_⟩
  rw [wipeD_get] at h
  by_cases hv : i ∈ vs
  · rw [if_pos hv] at h
    cases q : env[i]? with
    | none => rw [q] at h; cases h
    | some t => rw [q] at h; cases h
  · rw [if_neg hv] at h
    rw [wipe_get, if_neg hv]
    exact ⟨rfl, xs, h⟩
/-- an object that was not there at first is changed -/
theorem Fr.mutNew {env env' : DEnv} {σ σ' : L2.St} {G H G' H' : Hp} {p : Addr} {o : HO} (F : Fr env σ G H env' σ' G' H') (h : H p = none) (hp : H' p ≠ none) : Fr env σ G H env' σ' G' (upd H' p o) :=
  ⟨F.gg, fun a u ha hn => by rw [upd_ne (ne_of_none ha h)]; exact F.keep a u ha hn, fun a ha => by
    by_cases z : a = p
    · subst z; exact h
    · rw [upd_ne z] at ha; exact F.dom a ha, F.fresh, F.own, F.par⟩
theorem Rel.mutFree {K : PySem.W.Frag} {env : DEnv} {σ : L2.St} {G H : Hp} {p : Addr} {o : HO} (R : Rel K env σ G H) (hg : G p = none) (hn : ¬ Own env σ p) : Rel K env σ G (upd H p o) := by
  refine ⟨fun a u ha => ?_, R.len, fun i s o e1 e2 => ?_, R.dist⟩
  · rw [upd_ne (fun z => by subst z; rw [hg] at ha; cases ha)]
    exact R.ex a u ha
  · have q := R.slot i s o e1 e2
    have own : ∀ b, s.own = true → o = some (.ref b) → b ≠ p := fun b hs ho z => by
      subst z
      exact hn ⟨i, ⟨s, e1, hs⟩, by rw [e2, ho]⟩
    cases s with
    | no => trivial
    | v d => exact q
    | l xs => obtain ⟨b, vs', e, q1, q2, q3⟩ := q; exact ⟨b, vs', e, by rw [upd_ne (own b rfl e)]; exact q1, q2, q3⟩
    | p xs => obtain ⟨b, vs', e, q1, q2, q3⟩ := q; exact ⟨b, vs', e, by rw [upd_ne (own b rfl e)]; exact q1, q2, q3⟩
    | m xs => obtain ⟨b, vs', e, q1, q2, q3⟩ := q; exact ⟨b, vs', e, by rw [upd_ne (own b rfl e)]; exact q1, q2, q3⟩
/-- no exception leaves -/
abbrev WF : WX := fun _ _ _ _ => False
section
variable {X : Cx} {W : WX} {pos : Pos}
theorem lc_ok {K : PySem.W.Frag} {mg : Str → Option Value} {di : DA} {g : DG} {ws : List Nat} {t : DT} {e : DE} {vs : List Nat} (hws : ∀ j ∈ ws, j ∈ vs) (σ : L2.St) (H : Hp) (Q : VK) (hQ : rdL K mg W (lComp di g t e vs) σ H Q) :
    tLc (rdI K mg W di) (rdG K g ws) (rdT K mg WF t) (rdE K mg WF e) vs σ H Q := by
  obtain ⟨env, G, R, h⟩ := hQ
  refine ⟨env, G, R, ?_⟩
  have h' : RunL K mg W env σ G H ((di env).bind fun ds e1 => if ds.length ≤ 100000 ∧ noOwn e1 vs = true then match compD g t e vs ds (wipeD e1 vs) with
    | .ok ys e2 => .ok ys (mergeD e1 e2 vs)
    | _ => .stuck else .stuck) Q := h
  cases q : di env with
  | stuck => rw [q] at h'; exact h'
  | ex x e => rw [q] at h'; exact h'
  | ok ds e1 =>
    rw [q] at h'
    intro J G1 H1 R1 wk F1 A hA
    have h2 : RunL K mg W env σ G H (if ds.length ≤ 100000 ∧ noOwn e1 vs = true then match compD g t e vs ds (wipeD e1 vs) with
      | .ok ys e2 => .ok ys (mergeD e1 e2 vs)
      | _ => .stuck else .stuck) Q := h'
    by_cases c : ds.length ≤ 100000 ∧ noOwn e1 vs = true
    · rw [if_pos c] at h2
      cases qc : compD g t e vs ds (wipeD e1 vs) with
      | stuck => rw [qc] at h2; exact h2.elim
      | ex x e => rw [qc] at h2; exact h2.elim
      | ok ys e2 =>
        rw [qc] at h2
        have Rw := R1.wipe vs
        have gA : G1 A = none := R1.ex.none hA
        have nA : ¬ Own (wipeD e1 vs) (L2.wipe σ vs) A := fun z => (z.there Rw).1 hA
        refine ⟨fun i m H' => ∃ env' G' acc vacc zs, Rel K env' (L2.wipe σ vs) G' H' ∧ Ex G1 G' ∧ Fr (wipeD e1 vs) (L2.wipe σ vs) G1 H1 env' (L2.wipe σ vs) G' H' ∧ H' A = some (.lst vacc) ∧ G' A = none ∧ ¬ Own env' (L2.wipe σ vs) A ∧ DvAll K G' vacc acc ∧ acc.length ≤ i ∧
            compD g t e vs (ds.drop i) env' = .ok zs e2 ∧ ys = acc ++ zs ∧ m + i = ds.length,
          ⟨ds.length, wipeD e1 vs, G1, [], [], ys, Rw.mutFree gA nA, Ex.refl _, ⟨Ex.refl _, fun a u ha _ => by rw [upd_ne (ne_of_none ha hA)]; exact ha, fun a ha => ?_, fun _ z => .inl z, fun _ z => .inl z, fun _ xs z => ⟨rfl, xs, z⟩⟩, upd_same, gA, nA, .nil, Nat.le_refl _, qc, rfl, rfl⟩, ?_⟩
        · by_cases z : a = A
          · subst z; exact hA
          · rw [upd_ne z] at ha; exact ha
        · rintro i m H' ⟨env', G', acc, vacc, zs, R', ex', F', a1, a2, a3, a4, a5, a6, a7, em⟩
          obtain ⟨w1, w2⟩ := wk i G' H' ex' R'.ex
          by_cases hi : i < ds.length
          · have hd : ds[i]? = some ds[i] := List.getElem?_eq_getElem hi
            obtain ⟨go, yl⟩ := w1 _ hd
            refine .inr ⟨go, fun H2 => ∃ env' G' acc vacc zs, Rel K env' (L2.wipe σ vs) G' H2 ∧ Ex G1 G' ∧ Fr (wipeD e1 vs) (L2.wipe σ vs) G1 H1 env' (L2.wipe σ vs) G' H2 ∧ H2 A = some (.lst vacc) ∧ G' A = none ∧ ¬ Own env' (L2.wipe σ vs) A ∧ DvAll K G' vacc acc ∧ acc.length ≤ i + 1 ∧
              compD g t e vs (ds.drop (i + 1)) env' = .ok zs e2 ∧ ys = acc ++ zs, fun H2 ⟨env', G', acc, vacc, zs, b1, b2, b3, b4, b5, b6, b7, b8, b9, b10⟩ => ⟨m - 1, by omega, env', G', acc, vacc, zs, b1, b2, b3, b4, b5, b6, b7, b8, b9, b10, by omega⟩, fun x H'' y => ?_⟩
            obtain ⟨G'', gr, dv⟩ := yl x H'' y
            rw [List.drop_eq_getElem_cons hi] at a6
            have R'' := R'.grow gr
            have F'' := F'.trans (gr.fr env' (L2.wipe σ vs))
            have gA'' : G'' A = none := by
              cases z : G'' A with
              | none => rfl
              | some u =>
                rcases gr.fresh A (by rw [z]; exact fun w => by cases w) with w | w
                · exact absurd a2 w
                · rw [w] at a1; cases a1
            have hA'' : H'' A = some (.lst vacc) := gr.hh _ _ a1
            have a6' : (match g ds[i] env' with
              | none => Rs.stuck
              | some e1 => (t e1).bind fun b e2 => if b then (e e2).bind fun y e3 => (compD g t e vs (ds.drop (i + 1)) (wipeD e3 vs)).bind fun ys e4 => .ok (y :: ys) e4 else compD g t e vs (ds.drop (i + 1)) (wipeD e2 vs)) = .ok zs e2 := a6
            cases qg : g ds[i] env' with
            | none => rw [qg] at a6'; cases a6'
            | some f1 =>
              rw [qg] at a6'
              refine ⟨env', G'', ds[i], R'', dv, f1, qg, fun σ2 R2 F2 T2 => ?_⟩
              have hwipe : L2.wipe σ2 vs = L2.wipe σ vs := by
                have e1 : L2.wipe σ2 vs = L2.wipe (L2.wipe σ vs) vs := wipe_ext T2.1 fun j hj => T2.2 j fun z => hj (hws j z)
                rw [e1]
                refine wipe_ext (wipe_length _ _) fun j hj => ?_
                rw [wipe_get, if_neg hj]
              refine ⟨hwipe, ?_⟩
              have own2 : ¬ Own f1 σ2 A := fun z => by
                rcases F2.own A z with w | w
                · exact a3 w
                · rw [w] at hA''; cases hA''
              have stay : ∀ {f2 : DEnv} {G3 H3 : Hp}, Rel K f2 σ2 G3 H3 → Fr f1 σ2 G'' H'' f2 σ2 G3 H3 → H3 A = some (.lst vacc) ∧ G3 A = none ∧ ¬ Own f2 σ2 A := fun {f2 G3 H3} R3 F3 => by
                have h3 : H3 A = some (.lst vacc) := F3.keep A _ hA'' own2
                refine ⟨h3, ?_, fun z => ?_⟩
                · cases z : G3 A with
                  | none => rfl
                  | some u =>
                    rcases F3.fresh A (by rw [z]; exact fun w => by cases w) with w | w | w
                    · exact absurd gA'' w
                    · rw [w] at hA''; cases hA''
                    · exact absurd w own2
                · rcases F3.own A z with w | w
                  · exact own2 w
                  · rw [w] at hA''; cases hA''
              refine ⟨f1, G'', R2, ?_⟩
              have a6' : ((t f1).bind fun b e2 => if b then (e e2).bind fun y e3 => (compD g t e vs (ds.drop (i + 1)) (wipeD e3 vs)).bind fun ys e4 => .ok (y :: ys) e4 else compD g t e vs (ds.drop (i + 1)) (wipeD e2 vs)) = .ok zs e2 := a6'
              cases qt : t f1 with
              | stuck => rw [qt] at a6'; cases a6'
              | ex x e => rw [qt] at a6'; cases a6'
              | ok b f2 =>
                rw [qt] at a6'
                intro G3 H3 R3 F3
                obtain ⟨s1, s2, s3⟩ := stay R3 F3
                have a7' : (if b then (e f2).bind fun y e3 => (compD g t e vs (ds.drop (i + 1)) (wipeD e3 vs)).bind fun ys e4 => .ok (y :: ys) e4 else compD g t e vs (ds.drop (i + 1)) (wipeD f2 vs)) = .ok zs e2 := a6'
                cases b with
                | false =>
                  have a8 : compD g t e vs (ds.drop (i + 1)) (wipeD f2 vs) = .ok zs e2 := a7'
                  have Rn := R3.wipe vs
                  rw [hwipe] at Rn
                  have Fn := ((F''.trans F2).trans F3).trans (Fr.wipe f2 σ2 G3 H3 vs)
                  rw [hwipe] at Fn
                  refine ⟨wipeD f2 vs, G3, acc, vacc, zs, Rn, (ex'.trans gr.gg).trans F3.gg, Fn, s1, s2, fun z => ?_, a4.up (gr.gg.trans F3.gg), by omega, a8, a7⟩
                  rw [← hwipe] at z
                  obtain ⟨k, hk⟩ := z
                  exact s3 ⟨k, (wipe_own hk).1⟩
                | true =>
                  have a8 : (e f2).bind (fun y e3 => (compD g t e vs (ds.drop (i + 1)) (wipeD e3 vs)).bind fun ys e4 => .ok (y :: ys) e4) = .ok zs e2 := a7'
                  refine ⟨f2, G3, R3, ?_⟩
                  cases qe : e f2 with
                  | stuck => rw [qe] at a8; cases a8
                  | ex x e => rw [qe] at a8; cases a8
                  | ok y0 f3 =>
                    rw [qe] at a8
                    intro v G4 H4 R4 dv4 F4
                    obtain ⟨u1, u2, u3⟩ := stay R4 (F3.trans F4)
                    have a9 : (compD g t e vs (ds.drop (i + 1)) (wipeD f3 vs)).bind (fun ys e4 => .ok (y0 :: ys) e4) = .ok zs e2 := a8
                    cases qn : compD g t e vs (ds.drop (i + 1)) (wipeD f3 vs) with
                    | stuck => rw [qn] at a9; cases a9
                    | ex x e => rw [qn] at a9; cases a9
                    | ok zs' e5 =>
                      rw [qn] at a9
                      cases a9
                      have Rn := R4.wipe vs
                      rw [hwipe] at Rn
                      have Fn := (((F''.trans F2).trans F3).trans F4).trans (Fr.wipe f3 σ2 G4 H4 vs)
                      rw [hwipe] at Fn
                      have nown : ¬ Own (wipeD f3 vs) (L2.wipe σ vs) A := fun z => by
                        rw [← hwipe] at z
                        obtain ⟨k, hk⟩ := z
                        exact u3 ⟨k, (wipe_own hk).1⟩
                      have up4 : Ex G' G4 := (gr.gg.trans F3.gg).trans F4.gg
                      refine ⟨vacc, u1, ?_, wipeD f3 vs, G4, acc ++ [y0], vacc ++ [v], zs', Rn.mutFree u2 nown, ((ex'.trans gr.gg).trans F3.gg).trans F4.gg, Fn.mutNew hA (by rw [u1]; exact fun w => by cases w), upd_same, u2, nown, (a4.up up4).append (.one dv4), ?_, qn, by rw [a7]; simp⟩
                      · rw [a4.length]
                        exact Nat.lt_of_lt_of_le (show acc.length < 100000 by omega) (by decide)
                      · simp; omega
          · have ei : ds.drop i = [] := List.drop_eq_nil_of_le (by omega)
            rw [ei] at a6
            have a6' : Rs.ok ([] : List D) env' = Rs.ok zs e2 := a6
            injection a6' with z1 z2
            refine .inl ⟨w2 (by omega), ?_⟩
            rw [← z1, List.append_nil] at a7
            subst a7
            rw [← z2] at h2
            have hl0 : e1.length = env'.length := by rw [R1.len, R'.len, wipe_length]
            have ownM : ∀ i b, OwnAt (mergeD e1 env' vs) σ i b → OwnAt env' (L2.wipe σ vs) i b ∧ i ∉ vs := fun i b ⟨⟨s, x1, x2⟩, x3⟩ => by
              rw [mergeD_get e1 env' hl0] at x1
              by_cases hv : i ∈ vs
              · rw [if_pos hv] at x1
                have := List.all_eq_true.mp c.2 i hv
                rw [x1] at this
                simp [x2] at this
              · rw [if_neg hv] at x1
                exact ⟨⟨⟨s, x1, x2⟩, by rw [wipe_get, if_neg hv]; exact x3⟩, hv⟩
            refine h2 A vacc G' H' ⟨R'.ex, by rw [mergeD_length, ← hl0]; exact R1.len, fun i s o x1 x2 => ?_, fun i j b x y => R'.dist i j b (ownM i b x).1 (ownM j b y).1⟩ a1 a2 (F1.dom A hA) (fun ⟨i, z⟩ => a3 ⟨i, (ownM i A z).1⟩) a4
              (F1.trans ⟨F'.gg, fun a u ha hn => F'.keep a u ha fun ⟨i, z⟩ => hn ⟨i, (wipe_own z).1⟩, F'.dom, fun a ha => ?_, fun a ⟨i, z⟩ => ?_, fun i xs hx => ?_⟩)
            · rw [mergeD_get e1 env' hl0] at x1
              by_cases hv : i ∈ vs
              · rw [if_pos hv] at x1
                have hno := List.all_eq_true.mp c.2 i hv
                rw [x1] at hno
                have qs := R1.slot i s o x1 x2
                cases s with
                | no => trivial
                | v d => obtain ⟨v, e, qs⟩ := qs; exact ⟨v, e, qs.up F'.gg⟩
                | l xs => simp [Sl.own] at hno
                | p xs => simp [Sl.own] at hno
                | m xs => simp [Sl.own] at hno
              · rw [if_neg hv] at x1
                exact R'.slot i s o x1 (by rw [wipe_get, if_neg hv]; exact x2)
            · rcases F'.fresh a ha with w | w | ⟨i, w⟩
              · exact .inl w
              · exact .inr (.inl w)
              · exact .inr (.inr ⟨i, (wipe_own w).1⟩)
            · rcases F'.own a ⟨i, (ownM i a z).1⟩ with ⟨k, w⟩ | w
              · exact .inl ⟨k, (wipe_own w).1⟩
              · exact .inr w
            · rw [mergeD_get e1 env' hl0] at hx
              by_cases hv : i ∈ vs
              · rw [if_pos hv] at hx
                have hno := List.all_eq_true.mp c.2 i hv
                rw [hx] at hno
                simp [Sl.own] at hno
              · rw [if_neg hv] at hx
                obtain ⟨p1, ys, p2⟩ := F'.par i xs hx
                rw [wipeD_get, if_neg hv] at p2
                exact ⟨rfl, ys, p2⟩
    · rw [if_neg c] at h2
      exact h2.elim
end
end DL
/- part DL4 -/
set_option Elab.async false
set_option linter.all false
set_option maxRecDepth 100000
set_option autoImplicit false
/-! DL4: comprehensions as rules; defs and calls. -/
namespace DL
open PySem L2
theorem pts_imp {X : Cx} {e : List Expr} {t t' : TT} (h : PTs X e t) (k : ∀ σ H Q, t' σ H Q → t σ H Q) : PTs X e t' := ⟨fun pins s σ H Q I w => h.run pins s σ H Q I (k σ H Q w)⟩
section
variable {X : Cx} {W : WX} {pos : Pos} {K : PySem.W.Frag} {mg : Str → Option Value}
theorem cts_nil : PTs X [] (rdT X.K X.mg W tYesD) := pts_imp pts_nil fun σ H Q h => by
  obtain ⟨env, G, R, h⟩ := h
  exact h G H R (Fr.refl _ _ _ _)
theorem cts_one {c : Expr} {dt : DT} (h : CT X W c dt) : PTs X [c] (rdT X.K X.mg W dt) := pts_one h
theorem cl_comp {elt tg iter : Expr} {ifs : List Expr} {scope : Scope} {own : List (Str × Nat)} {di : DA} {g : DG} {ws : List Nat} {t : DT} {de : DE} (hc : X.calm = true) (hN : X.N.Nodup) (hi : CI X W tg iter di) (ok : BlkOk X.N X.env.scope scope own)
    (hg : ∀ (s : Shared) (H : Hp) (C : Addr) (cl : List (Str × Addr)) (fp : List Addr), CG (X.blk s H scope (compEnvC scope cl C X.env) fp) tg g ws)
    (ht : ∀ (s : Shared) (H : Hp) (C : Addr) (cl : List (Str × Addr)) (fp : List Addr), PTs (X.blk s H scope (compEnvC scope cl C X.env) fp) ifs (rdT X.K X.mg WF t))
    (he : ∀ (s : Shared) (H : Hp) (C : Addr) (cl : List (Str × Addr)) (fp : List Addr), CE (X.blk s H scope (compEnvC scope cl C X.env) fp) WF elt de)
    (hws : ∀ j ∈ ws, j ∈ own.map (·.2) := by decide) (hs : ∀ x, foldedSetIterable iter X.env x = pure x := by intro _; rfl) : CL X W (.ListComp elt [⟨tg, iter, ifs, 0⟩] scope pos) (lComp di g t de (own.map (·.2))) :=
  pe_imp (pe_lc hc hN hi ok hg ht he hs) fun σ H Q h => lc_ok hws σ H Q h
/-- y = [..], y's list stands still -/
theorem cs_setComp {i : Nat} {y : Str} {py spos : Pos} {elt tg iter : Expr} {ifs : List Expr} {scope : Scope} {own : List (Str × Nat)} {di : DA} {g : DG} {ws : List Nat} {t : DT} {de : DE} (hc : X.calm = true) (hN : X.N.Nodup) (hy : X.N[i]? = some y) (hyl : X.env.scope.names.lookup y = some .local)
    (hsw : swapsWith (.ListComp elt [⟨tg, iter, ifs, 0⟩] scope pos) (some (.Name y py)) spos.line X.env = pure true) (hi : CI X W tg iter di) (ok : BlkOk X.N X.env.scope scope own)
    (hg : ∀ (s : Shared) (H : Hp) (C : Addr) (cl : List (Str × Addr)) (fp : List Addr), CG (X.blk s H scope (compEnvC scope cl C X.env) fp) tg g ws)
    (ht : ∀ (s : Shared) (H : Hp) (C : Addr) (cl : List (Str × Addr)) (fp : List Addr), PTs (X.blk s H scope (compEnvC scope cl C X.env) fp) ifs (rdT X.K X.mg WF t))
    (he : ∀ (s : Shared) (H : Hp) (C : Addr) (cl : List (Str × Addr)) (fp : List Addr), CE (X.blk s H scope (compEnvC scope cl C X.env) fp) WF elt de)
    (hws : ∀ j ∈ ws, j ∈ own.map (·.2) := by decide) (hs : ∀ x, foldedSetIterable iter X.env x = pure x := by intro _; rfl) :
    CS X W (.Assign [.Name y py] (.ListComp elt [⟨tg, iter, ifs, 0⟩] scope pos) spos) (sAsg (eLst (lComp di g t de (own.map (·.2)))) (gN i)) := ps_imp (ps_setLc hc hN hy hyl hsw hi ok hg ht he hs) fun E σ H h => by
  obtain ⟨env, G, R, h⟩ := h
  refine lc_ok hws σ H _ (L_to_E σ H _ (E_thenS R h fun d e1 v G1 H1 _ R1 dv F1 h1 => ?_))
  cases q : gN i d e1 with
  | none => rw [q] at h1; exact h1.elim
  | some e2 =>
    rw [q] at h1
    obtain ⟨s0, a1, a2, rfl⟩ := setV_some q
    exact h1 _ G1 H1 (R1.set a1 a2 ⟨v, rfl, dv⟩ (fun _ z => nomatch z) fun z => nomatch z) (Fr.set R1 a1 a2 (fun _ z => nomatch z) rfl)
/-- y = [..], y's list is changed later -/
theorem cs_setCompL {i : Nat} {y : Str} {py spos : Pos} {elt tg iter : Expr} {ifs : List Expr} {scope : Scope} {own : List (Str × Nat)} {di : DA} {g : DG} {ws : List Nat} {t : DT} {de : DE} (hc : X.calm = true) (hN : X.N.Nodup) (hy : X.N[i]? = some y) (hyl : X.env.scope.names.lookup y = some .local)
    (hsw : swapsWith (.ListComp elt [⟨tg, iter, ifs, 0⟩] scope pos) (some (.Name y py)) spos.line X.env = pure true) (hi : CI X W tg iter di) (ok : BlkOk X.N X.env.scope scope own)
    (hg : ∀ (s : Shared) (H : Hp) (C : Addr) (cl : List (Str × Addr)) (fp : List Addr), CG (X.blk s H scope (compEnvC scope cl C X.env) fp) tg g ws)
    (ht : ∀ (s : Shared) (H : Hp) (C : Addr) (cl : List (Str × Addr)) (fp : List Addr), PTs (X.blk s H scope (compEnvC scope cl C X.env) fp) ifs (rdT X.K X.mg WF t))
    (he : ∀ (s : Shared) (H : Hp) (C : Addr) (cl : List (Str × Addr)) (fp : List Addr), CE (X.blk s H scope (compEnvC scope cl C X.env) fp) WF elt de)
    (hws : ∀ j ∈ ws, j ∈ own.map (·.2) := by decide) (hs : ∀ x, foldedSetIterable iter X.env x = pure x := by intro _; rfl) :
    CS X W (.Assign [.Name y py] (.ListComp elt [⟨tg, iter, ifs, 0⟩] scope pos) spos) (sAsgL i (lComp di g t de (own.map (·.2)))) := ps_imp (ps_setLc hc hN hy hyl hsw hi ok hg ht he hs) fun E σ H h => lc_ok hws σ H _ (setL_ok E σ H h)
end
/-! ### defs -/
inductive Fo where
  | ok (d : D) (outs : DEnv)
  | okl (xs : List D) (outs : DEnv)
  | ex (x : Xc) (outs : DEnv)
  | stuck
abbrev Df := DEnv → Fo
section
variable (K : PySem.W.Frag) (mg : Str → Option Value)
def RunF (args : DEnv) (σ : L2.St) (G H : Hp) (r : Fo) (Q : VK) (E : XK) : Prop := match r with
  | .ok d outs => ∀ v G' H', Rel K outs σ G' H' → Dv K G' v d → Fr args σ G H outs σ G' H' → Q v H'
  | .okl xs outs => ∀ a vs G' H', Rel K outs σ G' H' → H' a = some (.lst vs) → G' a = none → H a = none → ¬ Own outs σ a → DvAll K G' vs xs → Fr args σ G H outs σ G' H' → Q (.ref a) H'
  | .ex x outs => ∀ cls dd G' H', XRel K mg x cls dd G' H' → Rel K outs σ G' H' → Fr args σ G H outs σ G' H' → E cls dd H'
  | .stuck => False
/-- the promise of a def by a function on data -/
def spD (np : Nat) (F : Df) : Sp := fun vs H Q E => vs.length = np ∧ ∃ args G, Rel K args (vs.map some) G H ∧ RunF K mg args (vs.map some) G H (F args) Q E
end
/-- what comes back of the arguments -/
def outOf : Sl → Sl → Sl
  | .p _, .p ys => .p ys
  | _, _ => .no
def outsOf (args env : DEnv) : DEnv := args.mapIdx fun i a => outOf a (env.getD i Sl.no)
/-- a def by its body: n slots -/
def bodyF (n : Nat) (ds : DS) : Df := fun args => match ds (args ++ List.replicate (n - args.length) Sl.no) with
  | .nx e => .ok .none (outsOf args e)
  | .rt d e => .ok d (outsOf args e)
  | .rl xs e => .okl xs (outsOf args e)
  | .ex x e => .ex x (outsOf args e)
  | _ => .stuck
section
variable {K : PySem.W.Frag} {mg : Str → Option Value}
theorem outs_get {args env : DEnv} {i : Nat} {s : Sl} (h : (outsOf args env)[i]? = some s) : s = Sl.no ∨ ∃ xs ys, args[i]? = some (Sl.p xs) ∧ env[i]? = some (Sl.p ys) ∧ s = Sl.p ys := by
  unfold outsOf at h
  rw [List.getElem?_mapIdx] at h
  cases q1 : args[i]? with
  | none => simp [q1] at h
  | some a =>
    simp only [q1, Option.map_some, Option.some.injEq] at h
    cases q2 : env[i]? with
    | none =>
      have e : env.getD i Sl.no = Sl.no := by rw [List.getD_eq_getElem?_getD, q2]; rfl
      rw [e] at h
      cases a <;> exact .inl h.symm
    | some b =>
      have e : env.getD i Sl.no = b := by rw [List.getD_eq_getElem?_getD, q2]; rfl
      rw [e] at h
      cases a <;> cases b <;> first | exact .inl h.symm | exact .inr ⟨_, _, rfl, rfl, h.symm⟩
theorem rel_start {args : DEnv} {vs : List V} {G H : Hp} {N : List Str} (R : Rel K args (vs.map some) G H) (hn : vs.length ≤ N.length) : Rel K (args ++ List.replicate (N.length - args.length) Sl.no) (start N vs) G H := by
  have hl : args.length = vs.length := by simpa using R.len
  have own : ∀ i a, OwnAt (args ++ List.replicate (N.length - args.length) Sl.no) (start N vs) i a → OwnAt args (vs.map some) i a := fun i a ⟨⟨s, e1, e2⟩, e3⟩ => by
    by_cases c : i < args.length
    · rw [List.getElem?_append_left c] at e1
      unfold L2.start at e3
      rw [List.getElem?_append_left (by simpa [← hl] using c)] at e3
      exact ⟨⟨s, e1, e2⟩, e3⟩
    · rw [List.getElem?_append_right (by omega)] at e1
      obtain ⟨_, e⟩ := List.getElem?_eq_some_iff.mp e1
      simp at e
      rw [← e] at e2
      cases e2
  refine ⟨R.ex, ?_, fun i s o e1 e2 => ?_, fun i j a x y => R.dist i j a (own i a x) (own j a y)⟩
  · unfold L2.start
    simp
    omega
  · by_cases c : i < args.length
    · rw [List.getElem?_append_left c] at e1
      unfold L2.start at e2
      rw [List.getElem?_append_left (by simpa [← hl] using c)] at e2
      exact R.slot i s o e1 e2
    · rw [List.getElem?_append_right (by omega)] at e1
      obtain ⟨_, e⟩ := List.getElem?_eq_some_iff.mp e1
      simp at e
      rw [← e]
      trivial
theorem start_get {N : List Str} {vs : List V} {i : Nat} (h : i < vs.length) : (start N vs)[i]? = (vs.map some)[i]? := by
  unfold L2.start
  rw [List.getElem?_append_left (by simpa using h)]
/-- the frame at the def's end, as the caller sees it -/
theorem ends_fr {args env : DEnv} {vs : List V} {σ' : L2.St} {G H G' H' : Hp} {N : List Str} (R : Rel K args (vs.map some) G H) (hn : vs.length ≤ N.length) (R' : Rel K env σ' G' H')
    (F : Fr (args ++ List.replicate (N.length - args.length) Sl.no) (start N vs) G H env σ' G' H') :
    Rel K (outsOf args env) (vs.map some) G' H' ∧ Fr args (vs.map some) G H (outsOf args env) (vs.map some) G' H' ∧ (∀ a, Own (outsOf args env) (vs.map some) a → Own env σ' a) := by
  have hl : args.length = vs.length := by simpa using R.len
  have up : ∀ i a, OwnAt args (vs.map some) i a ↔ OwnAt (args ++ List.replicate (N.length - args.length) Sl.no) (start N vs) i a := fun i a => by
    constructor
    · rintro ⟨⟨s, e1, e2⟩, e3⟩
      have c : i < args.length := (List.getElem?_eq_some_iff.mp e1).1
      exact ⟨⟨s, by rw [List.getElem?_append_left c]; exact e1, e2⟩, by rw [start_get (by omega)]; exact e3⟩
    · rintro ⟨⟨s, e1, e2⟩, e3⟩
      by_cases c : i < args.length
      · rw [List.getElem?_append_left c] at e1
        rw [start_get (by omega)] at e3
        exact ⟨⟨s, e1, e2⟩, e3⟩
      · rw [List.getElem?_append_right (by omega)] at e1
        obtain ⟨_, e⟩ := List.getElem?_eq_some_iff.mp e1
        simp at e
        rw [← e] at e2
        cases e2
  -- a slot of outs that is a parameter's list: it stands where it stood
  have back : ∀ (i : Nat) (s : Sl), (outsOf args env)[i]? = some s → s = Sl.no ∨ ∃ ys, s = Sl.p ys ∧ env[i]? = some (Sl.p ys) ∧ σ'[i]? = (vs.map some)[i]? := fun i s h => by
    rcases outs_get h with h | ⟨xs, ys, h1, h2, h3⟩
    · exact .inl h
    · obtain ⟨e, _⟩ := F.par i ys h2
      have c : i < args.length := (List.getElem?_eq_some_iff.mp h1).1
      rw [start_get (by omega)] at e
      exact .inr ⟨ys, h3, h2, e⟩
  have ownO : ∀ i a, OwnAt (outsOf args env) (vs.map some) i a → OwnAt env σ' i a := fun i a ⟨⟨s, e1, e2⟩, e3⟩ => by
    rcases back i s e1 with h | ⟨ys, h1, h2, h3⟩
    · subst h; cases e2
    · subst h1
      exact ⟨⟨_, h2, rfl⟩, by rw [h3]; exact e3⟩
  have hlo : (outsOf args env).length = (vs.map some).length := by
    unfold outsOf
    rw [List.length_mapIdx, List.length_map]
    exact hl
  refine ⟨⟨R'.ex, hlo, fun i s o e1 e2 => ?_, fun i j a x y => R'.dist i j a (ownO i a x) (ownO j a y)⟩, ⟨F.gg, fun a o ha hn => F.keep a o ha fun ⟨i, z⟩ => hn ⟨i, (up i a).mpr z⟩, F.dom, fun a ha => ?_, fun a ⟨i, z⟩ => ?_, fun i xs hi => ?_⟩, fun a ⟨i, z⟩ => ⟨i, ownO i a z⟩⟩
  · rcases back i s e1 with h | ⟨ys, h1, h2, h3⟩
    · subst h; trivial
    · subst h1
      exact R'.slot i _ o h2 (by rw [h3]; exact e2)
  · rcases F.fresh a ha with w | w | ⟨i, w⟩
    · exact .inl w
    · exact .inr (.inl w)
    · exact .inr (.inr ⟨i, (up i a).mpr w⟩)
  · rcases F.own a ⟨i, ownO i a z⟩ with ⟨k, w⟩ | w
    · exact .inl ⟨k, (up k a).mpr w⟩
    · exact .inr w
  · rcases outs_get hi with h | ⟨xs', ys, h1, h2, h3⟩
    · cases h
    · exact ⟨rfl, xs', h1⟩
end
section
variable {P : Program} {w : World} {K : PySem.W.Frag} {mg : Str → Option Value} {base : Heap}
/-- THE RULE for a def: its body as a function on data -/
theorem fn_body {x qual : Str} {st : Stmt} {f : Addr} {fd : FuncData} {N ps : List Str} {k : Nat} {ds : DS} (F : Fun K x qual st f fd) (S : FnScope N ps (defScope st)) (hps : ps.length ≤ N.length)
    (hbody : ∀ (cdv : Value) (A : Around) (outer : List Env) (s : Shared) (H : Hp) (E : XK), Room k (A.deeper (PyProof.Rows.envOfC qual (defScope st) s.heap.objs.size f cdv)) →
      CSs (cxOf (L2.CX P w) P w K mg base N qual (defScope st) f cdv A outer s H E) (fun cls d _ H => E cls d H) (defBody st) ds) :
    FnOk P w K mg base (L2.CX P w) (k + 1) f fd ps (spD K mg ps.length (bodyF N.length ds)) := by
  refine F.okX S (fun vs H Q E h => h.1) (fun cdv A outer s H vs Q E hr h => ⟨_, hbody cdv A outer s H E hr, ?_⟩)
  obtain ⟨hl, args, G, R, h⟩ := h
  have hn : vs.length ≤ N.length := by omega
  have R0 := rel_start (N := N) R hn
  refine ⟨_, G, R0, ?_⟩
  have h' : RunF K mg args (vs.map some) G H (match ds (args ++ List.replicate (N.length - args.length) Sl.no) with
    | .nx e => .ok .none (outsOf args e)
    | .rt d e => .ok d (outsOf args e)
    | .rl xs e => .okl xs (outsOf args e)
    | .ex x e => .ex x (outsOf args e)
    | _ => .stuck) Q E := h
  cases q : ds (args ++ List.replicate (N.length - args.length) Sl.no) with
  | nx e =>
    rw [q] at h'
    exact fun σ' G' H' R' F' => let ⟨a, b, _⟩ := ends_fr R hn R' F'; h' .non G' H' a .non b
  | rt d e =>
    rw [q] at h'
    exact fun v σ' G' H' R' dv F' => let ⟨a, b, _⟩ := ends_fr R hn R' F'; h' v G' H' a dv b
  | rl d e =>
    rw [q] at h'
    exact fun a vs' σ' G' H' R' h1 h2 h3 h4 dv F' => let ⟨r, b, c⟩ := ends_fr R hn R' F'; h' a vs' G' H' r h1 h2 h3 (fun z => h4 (c a z)) dv b
  | ex x e =>
    rw [q] at h'
    exact fun cls dd σ' G' H' xr R' F' => let ⟨a, b, _⟩ := ends_fr R hn R' F'; h' cls dd G' H' xr a b
  | bk e => rw [q] at h'; exact h'.elim
  | ct e => rw [q] at h'; exact h'.elim
  | stuck => rw [q] at h'; exact h'.elim
end
end DL
/- part DL5 -/
set_option Elab.async false
set_option linter.all false
set_option maxRecDepth 100000
set_option autoImplicit false
/-! DL5: calls of defs; lists changed in place. -/
namespace DL
open PySem L2
/-- an argument: data, or a slot's own list lent out -/
inductive Ar where
  | d (x : D)
  | s (i : Nat)
abbrev DAr := DEnv → Rs (List Ar)
def rNil : DAr := fun env => .ok [] env
def rCons (de : DE) (da : DAr) : DAr := fun env => (de env).bind fun x e1 => (da e1).bind fun xs e2 => .ok (.d x :: xs) e2
def lent (i : Nat) (env : DEnv) : Bool := match env[i]? with
  | some (.l _) => true
  | some (.p _) => true
  | _ => false
def rLend (i : Nat) (da : DAr) : DAr := fun env => if lent i env then (da env).bind fun xs e2 => .ok (.s i :: xs) e2 else .stuck
def ArRel (K : PySem.W.Frag) (G : Hp) (σ : L2.St) : List V → List Ar → Prop
  | [], [] => True
  | v :: vs, .d x :: as => Dv K G v x ∧ ArRel K G σ vs as
  | v :: vs, .s i :: as => σ[i]? = some (some v) ∧ ArRel K G σ vs as
  | _, _ => False
theorem ArRel.up {K : PySem.W.Frag} {G G' : Hp} {σ : L2.St} (e : Ex G G') : ∀ {vs : List V} {as : List Ar}, ArRel K G σ vs as → ArRel K G' σ vs as
  | [], [], _ => trivial
  | v :: vs, .d x :: as, h => ⟨h.1.up e, ArRel.up e h.2⟩
  | v :: vs, .s i :: as, h => ⟨h.1, ArRel.up e h.2⟩
theorem ArRel.length {K : PySem.W.Frag} {G : Hp} {σ : L2.St} : ∀ {vs : List V} {as : List Ar}, ArRel K G σ vs as → vs.length = as.length
  | [], [], _ => rfl
  | v :: vs, .d x :: as, h => by simp [ArRel.length h.2]
  | v :: vs, .s i :: as, h => by simp [ArRel.length h.2]
theorem ArRel.getD {K : PySem.W.Frag} {G : Hp} {σ : L2.St} : ∀ {vs : List V} {as : List Ar} {j : Nat} {x : D}, ArRel K G σ vs as → as[j]? = some (.d x) → ∃ v, vs[j]? = some v ∧ Dv K G v x
  | [], [], _, _, _, e => by simp at e
  | v :: vs, .d y :: as, 0, x, h, e => by simp at e; subst e; exact ⟨v, rfl, h.1⟩
  | v :: vs, .s i :: as, 0, x, h, e => by simp at e
  | v :: vs, .d y :: as, j + 1, x, h, e => by simpa using ArRel.getD (j := j) (x := x) h.2 (by simpa using e)
  | v :: vs, .s i :: as, j + 1, x, h, e => by simpa using ArRel.getD (j := j) (x := x) h.2 (by simpa using e)
theorem ArRel.getS {K : PySem.W.Frag} {G : Hp} {σ : L2.St} : ∀ {vs : List V} {as : List Ar} {j i : Nat}, ArRel K G σ vs as → as[j]? = some (.s i) → ∃ v, vs[j]? = some v ∧ σ[i]? = some (some v)
  | [], [], _, _, _, e => by simp at e
  | v :: vs, .s i :: as, 0, x, h, e => by simp at e; subst e; exact ⟨v, rfl, h.1⟩
  | v :: vs, .d i :: as, 0, x, h, e => by simp at e
  | v :: vs, .d y :: as, j + 1, x, h, e => by simpa using ArRel.getS (j := j) (i := x) h.2 (by simpa using e)
  | v :: vs, .s i :: as, j + 1, x, h, e => by simpa using ArRel.getS (j := j) (i := x) h.2 (by simpa using e)
section
variable (K : PySem.W.Frag) (mg : Str → Option Value) (W : WX)
def RunR (env : DEnv) (σ : L2.St) (G H : Hp) (r : Rs (List Ar)) (Q : List V → Hp → Prop) : Prop := match r with
  | .ok as env' => ∀ vs G' H', Rel K env' σ G' H' → ArRel K G' σ vs as → (∀ i, Ar.s i ∈ as → lent i env' = true) → Fr env σ G H env' σ G' H' → Q vs H'
  | .ex x env' => RunX K mg W env σ G H x env'
  | .stuck => False
def rdR (de : DAr) : TA := fun σ H Q => ∃ env G, Rel K env σ G H ∧ RunR K mg W env σ G H (de env) Q
end
abbrev CR (X : Cx) (W : WX) (es : List Expr) (da : DAr) : Prop := PA X es (rdR X.K X.mg W da)
theorem RunR.shift {K : PySem.W.Frag} {mg : Str → Option Value} {W : WX} {env env1 : DEnv} {σ : L2.St} {G H G1 H1 : Hp} {r : Rs (List Ar)} {Q : List V → Hp → Prop} (h : RunR K mg W env σ G H r Q) (f : Fr env σ G H env1 σ G1 H1) : RunR K mg W env1 σ G1 H1 r Q := by
  cases r with
  | ok d e => exact fun v G' H' a b l c => h v G' H' a b l (f.trans c)
  | ex x e => exact RunX.shift h f
  | stuck => exact h
theorem lent_some {i : Nat} {env : DEnv} (h : lent i env = true) : ∃ xs, env[i]? = some (.l xs) ∨ env[i]? = some (.p xs) := by
  unfold lent at h
  cases q : env[i]? with
  | none => rw [q] at h; cases h
  | some s =>
    rw [q] at h
    cases s with
    | l xs => exact ⟨xs, .inl rfl⟩
    | p xs => exact ⟨xs, .inr rfl⟩
    | no => cases h
    | v d => cases h
    | m d => cases h
section
variable {X : Cx} {W : WX} {pos : Pos} {e : Expr} {es : List Expr} {de : DE} {da : DAr}
theorem R_then {K : PySem.W.Frag} {mg : Str → Option Value} {env : DEnv} {σ : L2.St} {G H : Hp} {da : DAr} {β : Type} {f : List Ar → DEnv → Rs β} {R : List V → Hp → Prop} (hR : Rel K env σ G H) {P : DEnv → L2.St → Hp → Hp → Rs β → Prop}
    (h : P env σ G H ((da env).bind f)) (hx : ∀ x e, P env σ G H (.ex x e) → RunX K mg W env σ G H x e) (hst : ¬ P env σ G H .stuck)
    (hsh : ∀ e1 G1 H1 r, P env σ G H r → Fr env σ G H e1 σ G1 H1 → P e1 σ G1 H1 r)
    (k : ∀ as e1 vs G1 H1, da env = .ok as e1 → Rel K e1 σ G1 H1 → ArRel K G1 σ vs as → (∀ i, Ar.s i ∈ as → lent i e1 = true) → Fr env σ G H e1 σ G1 H1 → P e1 σ G1 H1 (f as e1) → R vs H1) : rdR K mg W da σ H R := by
  refine ⟨env, G, hR, ?_⟩
  cases q : da env with
  | ok d e1 =>
    rw [q] at h
    exact fun v G1 H1 a b l c => k d e1 v G1 H1 q a b l c (hsh _ _ _ _ h c)
  | ex x e => rw [q] at h; exact hx x e h
  | stuck => rw [q] at h; exact (hst h).elim
theorem cr_nil : CR X W [] rNil := pa_imp pa_nil fun σ H Q h => by
  obtain ⟨env, G, R, h⟩ := h
  exact h [] G H R trivial (fun i z => nomatch z) (Fr.refl _ _ _ _)
theorem E_thenR {K : PySem.W.Frag} {mg : Str → Option Value} {env : DEnv} {σ : L2.St} {G H : Hp} {de : DE} {f : D → DEnv → Rs (List Ar)} {Q : List V → Hp → Prop} {R : VK} (hR : Rel K env σ G H) (h : RunR K mg W env σ G H ((de env).bind f) Q)
    (k : ∀ d e1 v G1 H1, de env = .ok d e1 → Rel K e1 σ G1 H1 → Dv K G1 v d → Fr env σ G H e1 σ G1 H1 → RunR K mg W e1 σ G1 H1 (f d e1) Q → R v H1) : rdE K mg W de σ H R :=
  E_then hR (P := fun e s G H r => RunR K mg W e s G H r Q) h (fun _ _ z => z) (fun z => z) (fun _ _ _ _ a b => a.shift b) k
theorem cr_cons (ha : CE X W e de) (hr : CR X W es da) (hs : starEach (e :: es) X.env = (false, eval e X.env) :: starEach es X.env := by rfl) : CR X W (e :: es) (rCons de da) := pa_imp (pa_cons ha hr hs) fun σ H Q h => by
  obtain ⟨env, G, R, h⟩ := h
  refine E_thenR R h fun d e1 v G1 H1 _ R1 dv F1 h1 => R_then R1 (P := fun e s G H r => RunR X.K X.mg W e s G H r Q) h1 (fun _ _ z => z) (fun z => z) (fun _ _ _ _ a b => a.shift b) fun as e2 vs G2 H2 _ R2 ar le F2 h2 => ?_
  exact h2 (v :: vs) G2 H2 R2 ⟨dv.up F2.gg, ar⟩ (fun i z => by
    rcases List.mem_cons.mp z with z | z
    · cases z
    · exact le i z) (Fr.refl _ _ _ _)
/-- a name whose list is lent out: what comes behind does not take it away -/
theorem cr_lend (i : Nat) {x : Str} {p : Pos} (hr : CR X W es da) (hN : X.N[i]? = some x := by rfl) (hv : Vis X.env.scope x := by first | exact Or.inl rfl | exact Or.inr (Or.inl rfl) | exact Or.inr (Or.inr rfl)) (hd : (x == ("__debug__" : Str)) = false := by decide)
    (hcd : (x == ("__classdict__" : Str)) = false := by decide) (hs : starEach (.Name x p :: es) X.env = (false, eval (.Name x p) X.env) :: starEach es X.env := by rfl) : CR X W (.Name x p :: es) (fun env => if lent i env then (da env).bind fun xs e2 => if lent i e2 then .ok (.s i :: xs) e2 else .stuck else .stuck) := pa_imp (pa_cons (pe_var hN hv hd hcd) hr hs) fun σ H Q h => by
  obtain ⟨env, G, R, h⟩ := h
  by_cases c : lent i env = true
  · have h' : RunR X.K X.mg W env σ G H ((da env).bind fun xs e2 => if lent i e2 then .ok (.s i :: xs) e2 else .stuck) Q := by
      have h2 : RunR X.K X.mg W env σ G H (if lent i env = true then (da env).bind fun xs e2 => if lent i e2 then .ok (.s i :: xs) e2 else .stuck else .stuck) Q := h
      rw [if_pos c] at h2
      exact h2
    obtain ⟨xs, hx⟩ := lent_some c
    have li : i < σ.length := by
      rw [← R.len]
      rcases hx with hx | hx <;> exact (List.getElem?_eq_some_iff.mp hx).1
    have ho : σ[i]? = some σ[i] := List.getElem?_eq_getElem li
    obtain ⟨v, hv⟩ : ∃ v, σ[i]? = some (some v) := by
      rcases hx with hx | hx
      · obtain ⟨a, vs, e, _⟩ := R.slot i _ _ hx ho
        exact ⟨_, by rw [ho, e]⟩
      · obtain ⟨a, vs, e, _⟩ := R.slot i _ _ hx ho
        exact ⟨_, by rw [ho, e]⟩
    refine ⟨v, hv, R_then R (P := fun e s G H r => RunR X.K X.mg W e s G H r Q) h' (fun _ _ z => z) (fun z => z) (fun _ _ _ _ a b => a.shift b) fun as e2 vs G2 H2 _ R2 ar le F2 h2 => ?_⟩
    by_cases c2 : lent i e2 = true
    · have h3 : RunR X.K X.mg W e2 σ G2 H2 (if lent i e2 = true then .ok (.s i :: as) e2 else .stuck) Q := h2
      rw [if_pos c2] at h3
      exact h3 (v :: vs) G2 H2 R2 ⟨hv, ar⟩ (fun j z => by
        rcases List.mem_cons.mp z with z | z
        · cases z; exact c2
        · exact le j z) (Fr.refl _ _ _ _)
    · have h3 : RunR X.K X.mg W e2 σ G2 H2 (if lent i e2 = true then .ok (.s i :: as) e2 else .stuck) Q := h2
      rw [if_neg c2] at h3
      exact h3.elim
  · have h2 : RunR X.K X.mg W env σ G H (if lent i env = true then (da env).bind fun xs e2 => if lent i e2 then .ok (.s i :: xs) e2 else .stuck else .stuck) Q := h
    rw [if_neg c] at h2
    exact h2.elim
end
/-! ### the callee's slots; what comes back -/
def toSl (env : DEnv) : Ar → Sl
  | .d x => .v x
  | .s i => match env[i]? with
    | some (.l xs) => .p xs
    | some (.p xs) => .p xs
    | _ => .no
def lookS (j : Nat) : List Ar → DEnv → Option Sl
  | .s i :: as, o :: os => if i = j then some o else lookS j as os
  | .d _ :: as, _ :: os => lookS j as os
  | _, _ => none
def conv : Sl → Sl → Sl
  | .l _, .p ys => .l ys
  | .p _, .p ys => .p ys
  | _, _ => .no
def backD (as : List Ar) (outs env : DEnv) : DEnv := env.mapIdx fun j s => match lookS j as outs with
  | some o => conv s o
  | none => s
def slotsOf : List Ar → List Nat
  | [] => []
  | .s i :: as => i :: slotsOf as
  | .d _ :: as => slotsOf as
def callD (F : Df) (as : List Ar) (env : DEnv) : Fo := if (slotsOf as).Nodup then match F (as.map (toSl env)) with
    | .ok d outs => .ok d (backD as outs env)
    | .okl xs outs => .okl xs (backD as outs env)
    | .ex x outs => .ex x (backD as outs env)
    | .stuck => .stuck
  else .stuck
def Fo.rs : Fo → Rs D
  | .ok d env => .ok d env
  | .okl xs env => .ok (.list xs) env
  | .ex x env => .ex x env
  | .stuck => .stuck
def Fo.rl : Fo → Rs (List D)
  | .okl xs env => .ok xs env
  | .ex x env => .ex x env
  | _ => .stuck
def eCall (F : Df) (da : DAr) : DE := fun env => (da env).bind fun as e1 => (callD F as e1).rs
def lCall (F : Df) (da : DAr) : DA := fun env => (da env).bind fun as e1 => (callD F as e1).rl
theorem slots_mem : ∀ {as : List Ar} {i : Nat}, i ∈ slotsOf as ↔ Ar.s i ∈ as
  | [], i => by simp [slotsOf]
  | .s j :: as, i => by simp [slotsOf, slots_mem (as := as)]
  | .d x :: as, i => by simp [slotsOf, slots_mem (as := as)]
theorem slots_inj : ∀ {as : List Ar}, (slotsOf as).Nodup → ∀ {j k i : Nat}, as[j]? = some (.s i) → as[k]? = some (.s i) → j = k
  | [], _, _, _, _, e, _ => by simp at e
  | .d x :: as, h, 0, _, _, e, _ => by simp at e
  | .d x :: as, h, _, 0, _, _, e => by simp at e
  | .d x :: as, h, j + 1, k + 1, i, e1, e2 => by
    have := slots_inj (as := as) (by simpa [slotsOf] using h) (j := j) (k := k) (i := i) (by simpa using e1) (by simpa using e2)
    omega
  | .s x :: as, h, 0, 0, _, _, _ => rfl
  | .s x :: as, h, 0, k + 1, i, e1, e2 => by
    simp at e1 e2
    subst e1
    have h' : x ∉ slotsOf as ∧ (slotsOf as).Nodup := by simpa [slotsOf] using h
    exact absurd (slots_mem.mpr (List.mem_of_getElem? e2)) h'.1
  | .s x :: as, h, j + 1, 0, i, e1, e2 => by
    simp at e1 e2
    subst e2
    have h' : x ∉ slotsOf as ∧ (slotsOf as).Nodup := by simpa [slotsOf] using h
    exact absurd (slots_mem.mpr (List.mem_of_getElem? e1)) h'.1
  | .s x :: as, h, j + 1, k + 1, i, e1, e2 => by
    have h' : x ∉ slotsOf as ∧ (slotsOf as).Nodup := by simpa [slotsOf] using h
    have := slots_inj (as := as) h'.2 (j := j) (k := k) (i := i) (by simpa using e1) (by simpa using e2)
    omega
theorem lookS_some : ∀ {as : List Ar} {os : DEnv} {j : Nat} {o : Sl}, lookS j as os = some o → ∃ k : Nat, as[k]? = some (Ar.s j) ∧ os[k]? = some o
  | [], _, _, _, h => by simp [lookS] at h
  | .s i :: as, [], _, _, h => by simp [lookS] at h
  | .d i :: as, [], _, _, h => by simp [lookS] at h
  | .s i :: as, o' :: os, j, o, h => by
    unfold lookS at h
    by_cases c : i = j
    · rw [if_pos c] at h
      cases h
      subst c
      exact ⟨0, rfl, rfl⟩
    · rw [if_neg c] at h
      obtain ⟨k, a, b⟩ := lookS_some h
      exact ⟨k + 1, by simpa using a, by simpa using b⟩
  | .d i :: as, o' :: os, j, o, h => by
    unfold lookS at h
    obtain ⟨k, a, b⟩ := lookS_some h
    exact ⟨k + 1, by simpa using a, by simpa using b⟩
theorem lookS_none : ∀ {as : List Ar} {os : DEnv} {j : Nat}, as.length = os.length → lookS j as os = none → Ar.s j ∉ as
  | [], _, _, _, _ => by simp
  | .s i :: as, [], _, h, _ => by simp at h
  | .d i :: as, [], _, h, _ => by simp at h
  | .s i :: as, o' :: os, j, hl, h => by
    unfold lookS at h
    by_cases c : i = j
    · rw [if_pos c] at h; cases h
    · rw [if_neg c] at h
      have := lookS_none (by simpa using hl) h
      simp [this, Ne.symm c]
  | .d i :: as, o' :: os, j, hl, h => by
    unfold lookS at h
    have := lookS_none (by simpa using hl) h
    simp [this]
section
variable {K : PySem.W.Frag} {mg : Str → Option Value} {env : DEnv} {σ : L2.St} {G H : Hp} {as : List Ar} {vs : List V}
theorem toSl_own {i : Nat} {a : Addr} (ar : ArRel K G σ vs as) (h : OwnAt (as.map (toSl env)) (vs.map some) i a) : ∃ k, as[i]? = some (.s k) ∧ OwnAt env σ k a ∧ ∃ xs, (as.map (toSl env))[i]? = some (.p xs) := by
  obtain ⟨⟨s, e1, e2⟩, e3⟩ := h
  rw [List.getElem?_map] at e1 e3
  cases q : as[i]? with
  | none => rw [q] at e1; cases e1
  | some x =>
    rw [q] at e1
    cases x with
    | d y => cases e1; cases e2
    | s k =>
      obtain ⟨v, hv, hs⟩ := ar.getS q
      rw [hv] at e3
      cases e3
      have e1' : toSl env (.s k) = s := by simpa using e1
      unfold toSl at e1'
      cases q2 : env[k]? with
      | none => simp [q2] at e1'; subst e1'; cases e2
      | some t =>
        simp only [q2] at e1'
        cases t with
        | l xs => exact ⟨k, rfl, ⟨⟨_, q2, rfl⟩, hs⟩, xs, by rw [List.getElem?_map, q]; simp [toSl, q2]⟩
        | p xs => exact ⟨k, rfl, ⟨⟨_, q2, rfl⟩, hs⟩, xs, by rw [List.getElem?_map, q]; simp [toSl, q2]⟩
        | no => subst e1'; cases e2
        | v d => subst e1'; cases e2
        | m d => subst e1'; cases e2
theorem rel_args (R : Rel K env σ G H) (ar : ArRel K G σ vs as) (nd : (slotsOf as).Nodup) : Rel K (as.map (toSl env)) (vs.map some) G H := by
  refine ⟨R.ex, by simp [ar.length], fun i s o e1 e2 => ?_, fun i j a x y => ?_⟩
  · rw [List.getElem?_map] at e1 e2
    cases q : as[i]? with
    | none => rw [q] at e1; cases e1
    | some x =>
      rw [q] at e1
      have e1' : toSl env x = s := by simpa using e1
      cases x with
      | d y =>
        obtain ⟨v, hv, dv⟩ := ar.getD q
        rw [hv] at e2
        have e2' : some v = o := by simpa using e2
        subst e1'
        exact ⟨v, e2'.symm, dv⟩
      | s k =>
        obtain ⟨v, hv, hs⟩ := ar.getS q
        rw [hv] at e2
        have e2' : some v = o := by simpa using e2
        unfold toSl at e1'
        cases q2 : env[k]? with
        | none => simp [q2] at e1'; subst e1'; trivial
        | some t =>
          simp only [q2] at e1'
          cases t with
          | l xs => have z := R.slot k (.l xs) (some v) q2 hs; subst e1'; rw [← e2']; exact z
          | p xs => have z := R.slot k (.p xs) (some v) q2 hs; subst e1'; rw [← e2']; exact z
          | no => subst e1'; trivial
          | v d => subst e1'; trivial
          | m d => subst e1'; trivial
  · obtain ⟨k1, a1, a2, _⟩ := toSl_own ar x
    obtain ⟨k2, b1, b2, _⟩ := toSl_own ar y
    have e := R.dist k1 k2 a a2 b2
    subst e
    exact slots_inj nd a1 b1
/-- behind the call -/
theorem back_ok {outs : DEnv} {G' H' : Hp} (R : Rel K env σ G H) (ar : ArRel K G σ vs as) (nd : (slotsOf as).Nodup) (R' : Rel K outs (vs.map some) G' H') (F : Fr (as.map (toSl env)) (vs.map some) G H outs (vs.map some) G' H') :
    Rel K (backD as outs env) σ G' H' ∧ Fr env σ G H (backD as outs env) σ G' H' ∧ ∀ a, Own (backD as outs env) σ a → Own outs (vs.map some) a ∨ Own env σ a := by
  have hlo : as.length = outs.length := by rw [R'.len]; simp [ar.length]
  have ownA : ∀ a, Own (as.map (toSl env)) (vs.map some) a → Own env σ a := fun a ⟨i, z⟩ => let ⟨k, _, b, _⟩ := toSl_own ar z; ⟨k, b⟩
  -- a slot of ours that is not lent stays
  have keepS : ∀ (j : Nat) (a : Addr), OwnAt env σ j a → Ar.s j ∉ as → ¬ Own (as.map (toSl env)) (vs.map some) a := fun j a o hn ⟨i, z⟩ => by
    obtain ⟨k, b1, b2, _⟩ := toSl_own ar z
    have e := R.dist j k a o b2
    subst e
    exact hn (List.mem_of_getElem? b1)
  have gnone : ∀ (j : Nat) (a : Addr), OwnAt env σ j a → Ar.s j ∉ as → G' a = none := fun j a o hn => by
    cases z : G' a with
    | none => rfl
    | some u =>
      rcases F.fresh a (by rw [z]; exact fun w => by cases w) with w | w | w
      · exact absurd (o.there R).2 w
      · exact absurd w (o.there R).1
      · exact absurd w (keepS j a o hn)
  have getB : ∀ (j : Nat) (s : Sl), (backD as outs env)[j]? = some s → ∃ s0, env[j]? = some s0 ∧ ((lookS j as outs = none ∧ s = s0) ∨ ∃ o, lookS j as outs = some o ∧ s = conv s0 o) := fun j s h => by
    unfold backD at h
    rw [List.getElem?_mapIdx] at h
    cases q : env[j]? with
    | none => rw [q] at h; cases h
    | some s0 =>
      rw [q] at h
      have h' : (match lookS j as outs with | some o => conv s0 o | none => s0) = s := by simpa using h
      refine ⟨s0, rfl, ?_⟩
      cases q2 : lookS j as outs with
      | none => rw [q2] at h'; exact .inl ⟨rfl, h'.symm⟩
      | some o => rw [q2] at h'; exact .inr ⟨o, rfl, h'.symm⟩
  have ownB : ∀ (j : Nat) (a : Addr), OwnAt (backD as outs env) σ j a → (OwnAt env σ j a ∧ Ar.s j ∉ as) ∨ ∃ k, as[k]? = some (.s j) ∧ OwnAt outs (vs.map some) k a := fun j a ⟨⟨s, e1, e2⟩, e3⟩ => by
    obtain ⟨s0, h0, h1 | ⟨o, h1, h2⟩⟩ := getB j s e1
    · obtain ⟨h1, h2⟩ := h1
      subst h2
      exact .inl ⟨⟨⟨_, h0, e2⟩, e3⟩, lookS_none hlo h1⟩
    · obtain ⟨k, b1, b2⟩ := lookS_some h1
      obtain ⟨v, hv, hs⟩ := ar.getS b1
      rw [e3] at hs
      cases hs
      have oo : o.own = true := by
        subst h2
        cases s0 <;> cases o <;> first | rfl | (cases e2)
      exact .inr ⟨k, b1, ⟨⟨o, b2, oo⟩, by rw [List.getElem?_map, hv]; rfl⟩⟩
  refine ⟨⟨R'.ex, by unfold backD; rw [List.length_mapIdx]; exact R.len, fun j s o e1 e2 => ?_, fun j k a x y => ?_⟩, ⟨F.gg, fun a o ha hn => F.keep a o ha fun z => hn (ownA a z), F.dom, fun a ha => ?_, fun a ⟨j, z⟩ => ?_, fun j xs hj => ?_⟩, fun a ⟨j, z⟩ => ?_⟩
  · obtain ⟨s0, h0, ⟨h1, h2⟩ | ⟨oo, h1, h2⟩⟩ := getB j s e1
    · subst h2
      have hn := lookS_none hlo h1
      have q := R.slot j _ o h0 e2
      have kp : ∀ (b : Addr) (u : HO), s.own = true → o = some (.ref b) → H b = some u → H' b = some u ∧ G' b = none := fun b u hs ho hb => by
        have ow : OwnAt env σ j b := ⟨⟨_, h0, hs⟩, by rw [e2, ho]⟩
        exact ⟨F.keep b u hb (keepS j b ow hn), gnone j b ow hn⟩
      cases s with
      | no => trivial
      | v d => obtain ⟨v, e, q⟩ := q; exact ⟨v, e, q.up F.gg⟩
      | l xs => obtain ⟨b, vs', e, q1, q2, q3⟩ := q; obtain ⟨z1, z2⟩ := kp b _ rfl e q1; exact ⟨b, vs', e, z1, z2, q3.up F.gg⟩
      | p xs => obtain ⟨b, vs', e, q1, q2, q3⟩ := q; obtain ⟨z1, z2⟩ := kp b _ rfl e q1; exact ⟨b, vs', e, z1, z2, q3.up F.gg⟩
      | m xs => obtain ⟨b, vs', e, q1, q2, q3⟩ := q; obtain ⟨z1, z2⟩ := kp b _ rfl e q1; exact ⟨b, vs', e, z1, z2, q3.up F.gg⟩
    · obtain ⟨k, b1, b2⟩ := lookS_some h1
      obtain ⟨v, hv, hs⟩ := ar.getS b1
      have q := R'.slot k oo (some v) b2 (by rw [List.getElem?_map, hv]; rfl)
      rw [hs] at e2
      cases e2
      subst h2
      cases s0 <;> cases oo <;> first | trivial | exact q
  · rcases ownB j a x with ⟨x1, x2⟩ | ⟨i1, x1, x2⟩
    · rcases ownB k a y with ⟨y1, y2⟩ | ⟨i2, y1, y2⟩
      · exact R.dist j k a x1 y1
      · rcases F.own a ⟨i2, y2⟩ with w | w
        · exact absurd w (keepS j a x1 x2)
        · exact absurd w (x1.there R).1
    · rcases ownB k a y with ⟨y1, y2⟩ | ⟨i2, y1, y2⟩
      · rcases F.own a ⟨i1, x2⟩ with w | w
        · exact absurd w (keepS k a y1 y2)
        · exact absurd w (y1.there R).1
      · have e := R'.dist i1 i2 a x2 y2
        subst e
        rw [x1] at y1
        cases y1
        rfl
  · rcases F.fresh a ha with w | w | w
    · exact .inl w
    · exact .inr (.inl w)
    · exact .inr (.inr (ownA a w))
  · rcases ownB j a z with ⟨x1, _⟩ | ⟨i1, x1, x2⟩
    · exact .inl ⟨j, x1⟩
    · rcases F.own a ⟨i1, x2⟩ with w | w
      · exact .inl (ownA a w)
      · exact .inr w
  · obtain ⟨s0, h0, ⟨h1, h2⟩ | ⟨oo, h1, h2⟩⟩ := getB j _ hj
    · subst h2
      exact ⟨rfl, xs, h0⟩
    · cases s0 <;> cases oo <;> simp [conv] at h2 <;> exact ⟨rfl, _, h0⟩
  · rcases ownB j a z with ⟨x1, _⟩ | ⟨i1, x1, x2⟩
    · exact .inr ⟨j, x1⟩
    · exact .inl ⟨i1, x2⟩
end
section
variable {X : Cx} {W : WX} {pos p : Pos} {e : Expr} {es : List Expr} {da : DAr} {k : Nat} {f : Addr} {fd : FuncData} {ps : List Str} {F : Df} {x : Str}
theorem ar_np {K : PySem.W.Frag} {G : Hp} {σ : L2.St} {vs : List V} {as : List Ar} (ar : ArRel K G σ vs as) {np : Nat} (h : as.length = np) : vs.length = np := by rw [ar.length]; exact h
/-- f(e, ..): how many arguments come is told by the def's own rows -/
def eCallN (np : Nat) (F : Df) (da : DAr) : DE := fun env => (da env).bind fun as e1 => if as.length = np then (callD F as e1).rs else .stuck
def lCallN (np : Nat) (F : Df) (da : DAr) : DA := fun env => (da env).bind fun as e1 => if as.length = np then (callD F as e1).rl else .stuck
theorem ce_call (Fn : FnOk X.prog X.w X.K X.mg X.base (L2.CX X.prog X.w) k f fd ps (spD X.K X.mg ps.length F)) (hr : Room k X.A) (hm : X.mg x = some (.ref f)) (hk : PySem.W.keepIn X.K (.ref f) = true) (hb : Binds X.K fd ps []) (tk : ∀ σ, PassesAt (L2.CX X.prog X.w) X σ (WE W σ)) (ha : CR X W (e :: es) da) (hg : Gl X x := by rfl)
    (hdb : (x == ("__debug__" : Str)) = false := by decide) (he : starEach (e :: es) X.env = (false, eval e X.env) :: starEach es X.env := by rfl) (hpl : (backTo pos (starEach es X.env)).any (·.1) = false := by rfl) :
    CE X W (.Call (.Name x p) (e :: es) [] pos) (eCallN ps.length F da) := pe_imp (pe_callS Fn hr hg hm hk hb tk ha hdb he hpl) fun σ H Q h => by
  obtain ⟨env, G, R, h⟩ := h
  refine R_then R (P := fun e s G H r => RunE X.K X.mg W e s G H r Q) h (fun _ _ z => z) (fun z => z) (fun _ _ _ _ a b => a.shift b) fun as e1 vs G1 H1 _ R1 ar le F1 h1 => ?_
  by_cases cn : as.length = ps.length
  · rw [if_pos cn] at h1
    by_cases c : (slotsOf as).Nodup
    · have h2 : RunE X.K X.mg W e1 σ G1 H1 (Fo.rs (match F (as.map (toSl e1)) with
        | .ok d outs => .ok d (backD as outs e1)
        | .okl xs outs => .okl xs (backD as outs e1)
        | .ex x outs => .ex x (backD as outs e1)
        | .stuck => .stuck)) Q := by
        have h3 : RunE X.K X.mg W e1 σ G1 H1 (callD F as e1).rs Q := h1
        unfold callD at h3
        rw [if_pos c] at h3
        exact h3
      refine ⟨ar_np ar cn, as.map (toSl e1), G1, rel_args R1 ar c, ?_⟩
      cases q : F (as.map (toSl e1)) with
      | stuck => rw [q] at h2; exact h2
      | ok d outs =>
        rw [q] at h2
        exact fun v G' H' R' dv F' => let ⟨a, b, _⟩ := back_ok R1 ar c R' F'; h2 v G' H' a dv b
      | okl xs outs =>
        rw [q] at h2
        intro a vs' G' H' R' h3 h4 h5 h6 dv F'
        obtain ⟨r, b, o⟩ := back_ok R1 ar c R' F'
        have na : ¬ Own (backD as outs e1) σ a := fun z => by
          rcases o a z with z | z
          · exact h6 z
          · exact (z.there R1).1 h5
        have hl : RunL X.K X.mg W e1 σ G1 H1 (Rs.ok xs (backD as outs e1)) Q := RunL.of h2
        exact hl a vs' G' H' r h3 h4 h5 na dv b
      | ex x outs =>
        rw [q] at h2
        exact fun cls dd G' H' xr R' F' => let ⟨a, b, _⟩ := back_ok R1 ar c R' F'; h2 cls dd G' H' xr a b
    · have h3 : RunE X.K X.mg W e1 σ G1 H1 (callD F as e1).rs Q := h1
      unfold callD at h3
      rw [if_neg c] at h3
      exact h3.elim
  · rw [if_neg cn] at h1
    exact h1.elim
theorem cl_call (Fn : FnOk X.prog X.w X.K X.mg X.base (L2.CX X.prog X.w) k f fd ps (spD X.K X.mg ps.length F)) (hr : Room k X.A) (hm : X.mg x = some (.ref f)) (hk : PySem.W.keepIn X.K (.ref f) = true) (hb : Binds X.K fd ps []) (tk : ∀ σ, PassesAt (L2.CX X.prog X.w) X σ (WE W σ)) (ha : CR X W (e :: es) da) (hg : Gl X x := by rfl)
    (hdb : (x == ("__debug__" : Str)) = false := by decide) (he : starEach (e :: es) X.env = (false, eval e X.env) :: starEach es X.env := by rfl) (hpl : (backTo pos (starEach es X.env)).any (·.1) = false := by rfl) :
    CL X W (.Call (.Name x p) (e :: es) [] pos) (lCallN ps.length F da) := pe_imp (pe_callS Fn hr hg hm hk hb tk ha hdb he hpl) fun σ H Q h => by
  obtain ⟨env, G, R, h⟩ := h
  refine R_then R (P := fun e s G H r => RunL X.K X.mg W e s G H r Q) h (fun _ _ z => z) (fun z => z) (fun _ _ _ _ a b => a.shift b) fun as e1 vs G1 H1 _ R1 ar le F1 h1 => ?_
  by_cases cn : as.length = ps.length
  · rw [if_pos cn] at h1
    by_cases c : (slotsOf as).Nodup
    · have h2 : RunL X.K X.mg W e1 σ G1 H1 (Fo.rl (match F (as.map (toSl e1)) with
        | .ok d outs => .ok d (backD as outs e1)
        | .okl xs outs => .okl xs (backD as outs e1)
        | .ex x outs => .ex x (backD as outs e1)
        | .stuck => .stuck)) Q := by
        have h3 : RunL X.K X.mg W e1 σ G1 H1 (callD F as e1).rl Q := h1
        unfold callD at h3
        rw [if_pos c] at h3
        exact h3
      refine ⟨ar_np ar cn, as.map (toSl e1), G1, rel_args R1 ar c, ?_⟩
      cases q : F (as.map (toSl e1)) with
      | stuck => rw [q] at h2; exact h2
      | ok d outs => rw [q] at h2; exact h2.elim
      | okl xs outs =>
        rw [q] at h2
        intro a vs' G' H' R' h3 h4 h5 h6 dv F'
        obtain ⟨r, b, o⟩ := back_ok R1 ar c R' F'
        exact h2 a vs' G' H' r h3 h4 h5 (fun z => by
          rcases o a z with z | z
          · exact h6 z
          · exact (z.there R1).1 h5) dv b
      | ex x outs =>
        rw [q] at h2
        exact fun cls dd G' H' xr R' F' => let ⟨a, b, _⟩ := back_ok R1 ar c R' F'; h2 cls dd G' H' xr a b
    · have h3 : RunL X.K X.mg W e1 σ G1 H1 (callD F as e1).rl Q := h1
      unfold callD at h3
      rw [if_neg c] at h3
      exact h3.elim
  · rw [if_neg cn] at h1
    exact h1.elim
end
end DL
/- part DL6 -/
set_option Elab.async false
set_option linter.all false
set_option maxRecDepth 100000
set_option autoImplicit false
/-! DL6: operations on data. -/
namespace DL
open PySem L2
/-- below this all lengths stay -/
abbrev LIM : Nat := 100000
theorem lim_size {n : Nat} (h : n ≤ 100000) : n ≤ sizeLine := Nat.le_trans h (by decide)
/-! ### ints -/
def dAdd : D → D → Option D
  | .int i, .int j => some (.int (i + j))
  | .str x, .str y => if x.length + y.length ≤ 100000 then some (.str (x ++ y)) else none
  | .tuple xs, .tuple ys => if xs.length + ys.length ≤ 100000 then some (.tuple (xs ++ ys)) else none
  | _, _ => none
def dSub : D → D → Option D
  | .int i, .int j => some (.int (i - j))
  | _, _ => none
/-- one factor small, or both of a size that is told -/
def mulOk (i j : Int) : Bool := (decide (-(2 ^ 64) < i) && decide (i < 2 ^ 64)) || (decide (-(2 ^ 64) < j) && decide (j < 2 ^ 64)) || (decide (i.natAbs < 2 ^ 4000) && decide (j.natAbs < 2 ^ 4000))
def dMul : D → D → Option D
  | .int i, .int j => if mulOk i j then some (.int (i * j)) else none
  | _, _ => none
def divOk (j : Int) : Bool := decide (0 < j) && decide (j.natAbs < 2 ^ 4000)
def powOk (i j : Int) : Bool := decide (0 ≤ j) && decide (j ≤ 1000000) && decide (i.natAbs < 2 ^ 64)
def dFdiv : D → D → Option D
  | .int i, .int j => if divOk j = true then some (.int (i / j)) else none
  | _, _ => none
def dMod : D → D → Option D
  | .int i, .int j => if 0 < j then some (.int (i % j)) else none
  | _, _ => none
def dPow : D → D → Option D
  | .int i, .int j => if powOk i j = true then some (.int (i ^ j.toNat)) else none
  | _, _ => none
def dLt : D → D → Option D
  | .int i, .int j => some (.bool (decide (i < j)))
  | _, _ => none
def dLe : D → D → Option D
  | .int i, .int j => some (.bool (decide (i ≤ j)))
  | _, _ => none
def dGt : D → D → Option D
  | .int i, .int j => some (.bool (decide (j < i)))
  | _, _ => none
def dGe : D → D → Option D
  | .int i, .int j => some (.bool (decide (j ≤ i)))
  | _, _ => none
def dEq (a b : D) : Option D := if SeqAt.shaped a = true ∧ SeqAt.shaped b = true then some (.bool (PyData.eqv a b)) else none
def dNe (a b : D) : Option D := if SeqAt.shaped a = true ∧ SeqAt.shaped b = true then some (.bool (!PyData.eqv a b)) else none
def isNone : D → Bool
  | .none => true
  | _ => false
def dIs (a b : D) : Option D := match b with
  | .none => some (.bool (isNone a))
  | .bool y => match a with
    | .bool x => some (.bool (decide (x = y)))
    | _ => none
  | _ => none
def dIsnt (a b : D) : Option D := match b with
  | .none => some (.bool (!isNone a))
  | .bool y => match a with
    | .bool x => some (.bool (!decide (x = y)))
    | _ => none
  | _ => none
def flatD : D → Bool
  | .none => true
  | .bool _ => true
  | .int _ => true
  | .str _ => true
  | _ => false
def seqOf : D → Option (List D)
  | .list xs => some xs
  | .tuple xs => some xs
  | _ => none
/-- x in a list or tuple of flat things -/
def dIn (x s : D) : Option D := match seqOf s with
  | some xs => if flatD x && xs.all flatD then some (.bool (xs.any fun z => PyData.eqv z x)) else none
  | none => none
def dNotIn (x s : D) : Option D := match seqOf s with
  | some xs => if flatD x && xs.all flatD then some (.bool (!xs.any fun z => PyData.eqv z x)) else none
  | none => none
def dIx (s i : D) : Option D := match s, i with
  | .list xs, .int k => atI xs k
  | .tuple xs, .int k => atI xs k
  | .str z, .int k => if z.length ≤ 100000 then (atI z.cps.toList k).map fun c => .str ⟨#[c]⟩ else none
  | _, _ => none
section
variable {X : Cx} {K : PySem.W.Frag}
/-- an operation that makes nothing -/
theorem opd_pure {r : R2} {f : D → D → Option D} (h : ∀ x y d e z G H Q, Dv K G x d → Dv K G y e → Ex G H → f d e = some z → (∀ v, Dv K G v z → Q v H) → r x y H Q) : OpD K r f :=
  fun x y d e z G H Q hx hy ex hf k => h x y d e z G H Q hx hy ex hf fun v dv => k v G H dv (Grow.refl ex)
theorem od_I0 {g : Int → Int → V} {f : D → D → Option D} {gd : Int → Int → D} (hg : ∀ G i j, Dv K G (g i j) (gd i j)) (hf : ∀ d e z, f d e = some z → ∃ i j, d = .int i ∧ e = .int j ∧ z = gd i j) : OpD K (rI0 g) f := opd_pure fun x y d e z G H Q hx hy ex h k => by
  obtain ⟨i, j, rfl, rfl, rfl⟩ := hf d e z h
  cases hx
  cases hy
  exact ⟨i, j, rfl, rfl, k _ (hg G i j)⟩
theorem od_I {C : Int → Int → Prop} {g : Int → Int → V} {f : D → D → Option D} {gd : Int → Int → D} (hg : ∀ G i j, Dv K G (g i j) (gd i j)) (hf : ∀ d e z, f d e = some z → ∃ i j, d = .int i ∧ e = .int j ∧ C i j ∧ z = gd i j) : OpD K (rI C g) f := opd_pure fun x y d e z G H Q hx hy ex h k => by
  obtain ⟨i, j, rfl, rfl, c, rfl⟩ := hf d e z h
  cases hx
  cases hy
  exact ⟨i, j, rfl, rfl, c, k _ (hg G i j)⟩
theorem od_sub : OpD K (rI0 fun i j => .int (i - j)) dSub := od_I0 (gd := fun i j => .int (i - j)) (fun _ _ _ => .int _) fun d e z h => by
  cases d <;> cases e <;> simp [dSub] at h <;> exact ⟨_, _, rfl, rfl, h.symm⟩
theorem od_lt : OpD K (rI0 fun i j => .bl (decide (i < j))) dLt := od_I0 (gd := fun i j => .bool (decide (i < j))) (fun _ _ _ => .bl _) fun d e z h => by
  cases d <;> cases e <;> simp [dLt] at h <;> exact ⟨_, _, rfl, rfl, h.symm⟩
theorem od_le : OpD K (rI0 fun i j => .bl (decide (i ≤ j))) dLe := od_I0 (gd := fun i j => .bool (decide (i ≤ j))) (fun _ _ _ => .bl _) fun d e z h => by
  cases d <;> cases e <;> simp [dLe] at h <;> exact ⟨_, _, rfl, rfl, h.symm⟩
theorem od_gt : OpD K (rI0 fun i j => .bl (decide (j < i))) dGt := od_I0 (gd := fun i j => .bool (decide (j < i))) (fun _ _ _ => .bl _) fun d e z h => by
  cases d <;> cases e <;> simp [dGt] at h <;> exact ⟨_, _, rfl, rfl, h.symm⟩
theorem od_ge : OpD K (rI0 fun i j => .bl (decide (j ≤ i))) dGe := od_I0 (gd := fun i j => .bool (decide (j ≤ i))) (fun _ _ _ => .bl _) fun d e z h => by
  cases d <;> cases e <;> simp [dGe] at h <;> exact ⟨_, _, rfl, rfl, h.symm⟩
theorem mulOk_wide {i j : Int} (h : mulOk i j = true) : CMulW i j ∨ CMul i j := by
  unfold mulOk at h
  simp only [Bool.or_eq_true, Bool.and_eq_true, decide_eq_true_eq] at h
  rcases h with (h | h) | h
  · exact .inr (.inl h)
  · exact .inr (.inr h)
  · exact .inl (wide_mul h.1 h.2 (by decide) (by decide) (by decide))
def rMulA : R2 := fun x y H Q => rI CMulW (fun i j => .int (i * j)) x y H Q ∨ rI CMul (fun i j => .int (i * j)) x y H Q
theorem op_mulA : OpR X (binaryOp .Mult) rMulA := op_mulW.or op_mul
theorem od_mul : OpD K rMulA dMul := opd_pure fun x y d e z G H Q hx hy ex h k => by
  cases d <;> cases e <;> first | (simp [dMul] at h; done) | skip
  rename_i i j
  have h' : (if mulOk i j = true then some (PyData.int (i * j)) else none) = some z := h
  by_cases c : mulOk i j = true
  · rw [if_pos c] at h'
    cases h'
    cases hx
    cases hy
    rcases mulOk_wide c with w | w
    · exact .inl ⟨i, j, rfl, rfl, w, k _ (.int _)⟩
    · exact .inr ⟨i, j, rfl, rfl, w, k _ (.int _)⟩
  · rw [if_neg c] at h'
    cases h'
theorem od_fdiv : OpD K (rI CDivW fun i j => .int (i / j)) dFdiv := od_I (gd := fun i j => .int (i / j)) (fun _ _ _ => .int _) fun d e z h => by
  cases d <;> cases e <;> first | (simp [dFdiv] at h; done) | skip
  rename_i i j
  have h' : (if divOk j = true then some (PyData.int (i / j)) else none) = some z := h
  by_cases c : divOk j = true
  · rw [if_pos c] at h'
    cases h'
    unfold divOk at c
    simp only [Bool.and_eq_true, decide_eq_true_eq] at c
    exact ⟨i, j, rfl, rfl, wide_div c.1 c.2 (by decide) (by decide), rfl⟩
  · rw [if_neg c] at h'
    cases h'
theorem od_mod : OpD K (rI (fun _ j => 0 < j) fun i j => .int (i % j)) dMod := od_I (gd := fun i j => .int (i % j)) (fun _ _ _ => .int _) fun d e z h => by
  cases d <;> cases e <;> first | (simp [dMod] at h; done) | skip
  rename_i i j
  have h' : (if 0 < j then some (PyData.int (i % j)) else none) = some z := h
  by_cases c : 0 < j
  · rw [if_pos c] at h'
    cases h'
    exact ⟨i, j, rfl, rfl, c, rfl⟩
  · rw [if_neg c] at h'
    cases h'
theorem od_pow : OpD K (rI CPow fun i j => .int (i ^ j.toNat)) dPow := od_I (gd := fun i j => .int (i ^ j.toNat)) (fun _ _ _ => .int _) fun d e z h => by
  cases d <;> cases e <;> first | (simp [dPow] at h; done) | skip
  rename_i i j
  have h' : (if powOk i j = true then some (PyData.int (i ^ j.toNat)) else none) = some z := h
  by_cases c : powOk i j = true
  · rw [if_pos c] at h'
    cases h'
    unfold powOk at c
    simp only [Bool.and_eq_true, decide_eq_true_eq] at c
    exact ⟨i, j, rfl, rfl, ⟨c.1.1, c.1.2, c.2⟩, rfl⟩
  · rw [if_neg c] at h'
    cases h'
/-! ### + -/
def rAddStr : R2 := fun x y H Q => ∃ i j, x = .str i ∧ y = .str j ∧ i.length + j.length ≤ sizeLine ∧ Q (.str (i ++ j)) H
def rAddA (K : PySem.W.Frag) : R2 := fun x y H Q => rI0 (fun i j => .int (i + j)) x y H Q ∨ rAddStr x y H Q ∨ rCatA K x y H Q
theorem op_addA : OpR X (binaryOp .Add) (rAddA X.K) := op_add.or (OpR.or op_add_str op_catA)
theorem od_add : OpD K (rAddA K) dAdd := fun x y d e z G H Q hx hy ex h k => by
  cases d <;> cases e <;> first | (simp [dAdd] at h; done) | skip
  · rename_i i j
    cases h
    cases hx
    cases hy
    exact .inl ⟨i, j, rfl, rfl, k _ G H (.int _) (Grow.refl ex)⟩
  · rename_i i j
    have h' : (if i.length + j.length ≤ 100000 then some (PyData.str (i ++ j)) else none) = some z := h
    by_cases c : i.length + j.length ≤ 100000
    · rw [if_pos c] at h'
      cases h'
      cases hx
      cases hy
      exact .inr (.inl ⟨i, j, rfl, rfl, lim_size c, k _ G H (.str _) (Grow.refl ex)⟩)
    · rw [if_neg c] at h'
      cases h'
  · rename_i xs ys
    have h' : (if xs.length + ys.length ≤ 100000 then some (PyData.tuple (xs ++ ys)) else none) = some z := h
    by_cases c : xs.length + ys.length ≤ 100000
    · rw [if_pos c] at h'
      cases h'
      cases hx with
      | @tup a vs _ h1 h2 =>
        cases hy with
        | @tup b ws _ h3 h4 =>
          refine .inr (.inr ⟨a, b, vs, ws, rfl, rfl, ex.t h1, ex.t h3, by rw [h2.length, h4.length]; exact lim_size c, fun e => ?_, fun _ e => ?_, fun _ _ p hp => ?_⟩)
          · subst e
            cases h2
            exact k _ G H (.tup h3 h4) (Grow.refl ex)
          · subst e
            cases h4
            rw [List.append_nil] at k
            exact k _ G H (.tup h1 h2) (Grow.refl ex)
          · have g : Grow G H (upd G p (.tup (vs ++ ws))) (upd H p (.tup (vs ++ ws))) := Grow.one ex hp
            exact k _ _ _ (.tup (.inl (.inl upd_same)) ((h2.append h4).up g.gg)) g
    · rw [if_neg c] at h'
      cases h'
/-! ### ==, is, in -/
theorem od_eq : OpD K (rEqD K) dEq := opd_pure fun x y d e z G H Q hx hy ex h k => by
  unfold dEq at h
  by_cases c : SeqAt.shaped d = true ∧ SeqAt.shaped e = true
  · rw [if_pos c] at h
    cases h
    exact ⟨d, e, Dv.dp ex d x (SeqAt.canLay_of_shaped c.1) hx, Dv.dp ex e y (SeqAt.canLay_of_shaped c.2) hy, c.1, c.2, k _ (.bl _)⟩
  · rw [if_neg c] at h
    cases h
theorem od_ne : OpD K (rNeD K) dNe := opd_pure fun x y d e z G H Q hx hy ex h k => by
  unfold dNe at h
  by_cases c : SeqAt.shaped d = true ∧ SeqAt.shaped e = true
  · rw [if_pos c] at h
    cases h
    exact ⟨d, e, Dv.dp ex d x (SeqAt.canLay_of_shaped c.1) hx, Dv.dp ex e y (SeqAt.canLay_of_shaped c.2) hy, c.1, c.2, k _ (.bl _)⟩
  · rw [if_neg c] at h
    cases h
theorem dv_none {G : Hp} {x : V} {d : D} (h : Dv K G x d) : decide (x = .non) = isNone d := by
  cases h <;> rfl
def rIsA : R2 := fun x y H Q => (y = .non ∧ Q (.bl (decide (x = .non))) H) ∨ rIsB x y H Q
def rIsntA : R2 := fun x y H Q => (y = .non ∧ Q (.bl (!decide (x = .non))) H) ∨ rNotB x y H Q
theorem op_isA : OpR X (compareOp .Is) rIsA := op_isN.or op_isBl
theorem op_isntA : OpR X (compareOp .IsNot) rIsntA := op_notN.or op_notBl
theorem od_is : OpD K rIsA dIs := opd_pure fun x y d e z G H Q hx hy ex h k => by
  have e0 := dv_none hx
  cases e with
  | none =>
    cases hy
    cases h
    exact .inl ⟨rfl, by rw [e0]; exact k _ (.bl _)⟩
  | bool b =>
    cases d <;> simp [dIs] at h
    subst h
    cases hx
    cases hy
    exact .inr ⟨_, _, rfl, rfl, k _ (.bl _)⟩
  | int i => cases h
  | str i => cases h
  | list i => cases h
  | tuple i => cases h
  | dict i => cases h
theorem od_isnt : OpD K rIsntA dIsnt := opd_pure fun x y d e z G H Q hx hy ex h k => by
  have e0 := dv_none hx
  cases e with
  | none =>
    cases hy
    cases h
    exact .inl ⟨rfl, by rw [e0]; exact k _ (.bl _)⟩
  | bool b =>
    cases d <;> simp [dIsnt] at h
    subst h
    cases hx
    cases hy
    exact .inr ⟨_, _, rfl, rfl, k _ (.bl _)⟩
  | int i => cases h
  | str i => cases h
  | list i => cases h
  | tuple i => cases h
  | dict i => cases h
theorem dv_flat {G : Hp} {x : V} {d : D} (h : Dv K G x d) : flatV x = flatD d := by
  cases h <;> rfl
theorem dv_flats {G : Hp} : ∀ {xs : List V} {ds : List D}, DvAll K G xs ds → xs.all flatV = ds.all flatD
  | _, _, .nil => rfl
  | _, _, .cons a b => by rw [List.all_cons, List.all_cons, dv_flat a, dv_flats b]
theorem eqv_flat {G : Hp} {x y : V} {d e : D} (hx : Dv K G x d) (hy : Dv K G y e) (fx : flatD d = true) (fy : flatD e = true) : eqV x y = PyData.eqv d e := by
  cases hx <;> first | cases fx | skip
  all_goals (cases hy <;> first | cases fy | skip)
  all_goals first | rfl | simp [eqV, PyData.eqv]
theorem any_flat {G : Hp} {x : V} {d : D} (hx : Dv K G x d) (fx : flatD d = true) : ∀ {xs : List V} {ds : List D}, DvAll K G xs ds → ds.all flatD = true → inV x xs = ds.any fun z => PyData.eqv z d
  | _, _, .nil, _ => rfl
  | _, _, .cons a b, f => by
    rw [List.all_cons, Bool.and_eq_true] at f
    have ih := any_flat hx fx b f.2
    unfold inV at ih ⊢
    rw [List.any_cons, List.any_cons, ih, eqv_flat a hx f.1 fx]
theorem seqOf_dv {G H : Hp} (ex : Ex G H) {y : V} {s : D} {ds : List D} (h : Dv K G y s) (e : seqOf s = some ds) : ∃ p xs, y = .ref p ∧ (SqL K H p xs ∨ SqT K H p xs) ∧ DvAll K G xs ds := by
  cases h with
  | lst a b => cases e; exact ⟨_, _, rfl, .inl (ex.rl a).sq, b⟩
  | tup a b => cases e; exact ⟨_, _, rfl, .inr (ex.t a), b⟩
  | non => cases e
  | bl _ => cases e
  | int _ => cases e
  | str _ => cases e
  | dct _ _ => cases e
theorem od_in : OpD K (rIn K false) dIn := opd_pure fun x y d e z G H Q hx hy ex h k => by
  unfold dIn at h
  cases q : seqOf e with
  | none => rw [q] at h; cases h
  | some ds =>
    rw [q] at h
    obtain ⟨p, xs, rfl, sq, dv⟩ := seqOf_dv ex hy q
    have h' : (if (flatD d && ds.all flatD) = true then some (PyData.bool (ds.any fun z => PyData.eqv z d)) else none) = some z := h
    by_cases c : (flatD d && ds.all flatD) = true
    · rw [if_pos c] at h'
      cases h'
      rw [Bool.and_eq_true] at c
      refine ⟨p, xs, rfl, sq, by rw [dv_flat hx]; exact c.1, by rw [dv_flats dv]; exact c.2, ?_⟩
      show Q (.bl (inV x xs)) H
      rw [any_flat hx c.1 dv c.2]
      exact k _ (.bl _)
    · rw [if_neg c] at h'
      cases h'
theorem od_notIn : OpD K (rIn K true) dNotIn := opd_pure fun x y d e z G H Q hx hy ex h k => by
  unfold dNotIn at h
  cases q : seqOf e with
  | none => rw [q] at h; cases h
  | some ds =>
    rw [q] at h
    obtain ⟨p, xs, rfl, sq, dv⟩ := seqOf_dv ex hy q
    have h' : (if (flatD d && ds.all flatD) = true then some (PyData.bool (!ds.any fun z => PyData.eqv z d)) else none) = some z := h
    by_cases c : (flatD d && ds.all flatD) = true
    · rw [if_pos c] at h'
      cases h'
      rw [Bool.and_eq_true] at c
      refine ⟨p, xs, rfl, sq, by rw [dv_flat hx]; exact c.1, by rw [dv_flats dv]; exact c.2, ?_⟩
      show Q (.bl (!inV x xs)) H
      rw [any_flat hx c.1 dv c.2]
      exact k _ (.bl _)
    · rw [if_neg c] at h'
      cases h'
theorem atI_dv {G : Hp} {xs : List V} {ds : List D} {i : Int} {z : D} (dv : DvAll K G xs ds) (h : atI ds i = some z) : ∃ v, atI xs i = some v ∧ Dv K G v z := by
  unfold atI at h ⊢
  rw [dv.length]
  cases q : ixN ds.length i with
  | none => rw [q] at h; cases h
  | some j =>
    rw [q] at h
    exact dv.get h
theorem od_ix : OpD K (rIx K) dIx := opd_pure fun x y d e z G H Q hx hy ex h k => by
  cases d <;> cases e <;> first | (simp [dIx] at h; done) | skip
  · rename_i s i
    have h' : (if s.length ≤ 100000 then (atI s.cps.toList i).map (fun c => PyData.str ⟨#[c]⟩) else none) = some z := h
    by_cases c : s.length ≤ 100000
    · rw [if_pos c] at h'
      cases q : atI s.cps.toList i with
      | none => rw [q] at h'; cases h'
      | some ch =>
        rw [q] at h'
        cases h'
        cases hx
        cases hy
        exact .inr (.inr ⟨s, i, ch, rfl, rfl, lim_size c, q, k _ (.str _)⟩)
    · rw [if_neg c] at h'
      cases h'
  · rename_i ds i
    cases hx with
    | @lst a xs _ h1 h2 =>
      cases hy
      obtain ⟨v, hv, dv⟩ := atI_dv h2 h
      exact .inl ⟨a, xs, i, v, rfl, rfl, (ex.rl h1).sq, hv, k v dv⟩
  · rename_i ds i
    cases hx with
    | @tup a xs _ h1 h2 =>
      cases hy
      obtain ⟨v, hv, dv⟩ := atI_dv h2 h
      exact .inr (.inl ⟨a, xs, i, v, rfl, rfl, ex.t h1, hv, k v dv⟩)
/-! ### built-ins -/
def fLen : List D → Option D
  | [.list xs] => some (.int xs.length)
  | [.tuple xs] => some (.int xs.length)
  | [.str x] => if x.length ≤ 100000 then some (.int x.length) else none
  | _ => none
def rLenA (K : PySem.W.Frag) : List V → Hp → VK → Prop := fun xs H Q => (∃ p ys, xs = [.ref p] ∧ (SqL K H p ys ∨ SqT K H p ys) ∧ Q (.int ys.length) H) ∨ (∃ z, xs = [.str z] ∧ z.length ≤ sizeLine ∧ Q (.int z.length) H)
theorem cr_lenA : CallR X (.builtin "len") (rLenA X.K) := call_len_seq.or call_len_str
theorem cd_len : CbD K (rLenA K) fLen := fun xs ds z G H Q hx ex hf k => by
  match ds, hx, hf with
  | [.list ys], .cons (.lst a b) .nil, hf => cases hf; exact .inl ⟨_, _, rfl, .inl (ex.rl a).sq, by rw [b.length]; exact k _ G H (.int _) (Grow.refl ex)⟩
  | [.tuple ys], .cons (.tup a b) .nil, hf => cases hf; exact .inl ⟨_, _, rfl, .inr (ex.t a), by rw [b.length]; exact k _ G H (.int _) (Grow.refl ex)⟩
  | [.str s], .cons (.str _) .nil, hf =>
    have h' : (if s.length ≤ 100000 then some (PyData.int s.length) else none) = some z := hf
    by_cases c : s.length ≤ 100000
    · rw [if_pos c] at h'
      cases h'
      exact .inr ⟨s, rfl, lim_size c, k _ G H (.int _) (Grow.refl ex)⟩
    · rw [if_neg c] at h'; cases h'
def fMin : List D → Option D
  | [.int i, .int j] => some (.int (if j < i then j else i))
  | _ => none
def fMax : List D → Option D
  | [.int i, .int j] => some (.int (if j > i then j else i))
  | _ => none
theorem cd_min : CbD K (fun xs H Q => ∃ i j, xs = [.int i, .int j] ∧ Q (.int (if j < i then j else i)) H) fMin := fun xs ds z G H Q hx ex hf k => by
  match ds, hx, hf with
  | [.int i, .int j], .cons (.int _) (.cons (.int _) .nil), hf => cases hf; exact ⟨i, j, rfl, k _ G H (.int _) (Grow.refl ex)⟩
theorem cd_max : CbD K (fun xs H Q => ∃ i j, xs = [.int i, .int j] ∧ Q (.int (if j > i then j else i)) H) fMax := fun xs ds z G H Q hx ex hf k => by
  match ds, hx, hf with
  | [.int i, .int j], .cons (.int _) (.cons (.int _) .nil), hf => cases hf; exact ⟨i, j, rfl, k _ G H (.int _) (Grow.refl ex)⟩
/-- int(x) of an int or a truth -/
def fInt : List D → Option D
  | [.int i] => some (.int i)
  | [.bool b] => some (.int (if b then 1 else 0))
  | _ => none
theorem cd_int : CbD K (fun xs H Q => (∃ i, xs = [.int i] ∧ Q (.int i) H) ∨ ∃ k, xs = [.bl k] ∧ Q (.int (if k then 1 else 0)) H) fInt := fun xs ds z G H Q hx ex hf k => by
  match ds, hx, hf with
  | [.int i], .cons (.int _) .nil, hf => cases hf; exact .inl ⟨i, rfl, k _ G H (.int _) (Grow.refl ex)⟩
  | [.bool i], .cons (.bl _) .nil, hf => cases hf; exact .inr ⟨i, rfl, k _ G H (.int _) (Grow.refl ex)⟩
def bools : List D → Option (List Bool)
  | [] => some []
  | .bool b :: ds => (bools ds).map (b :: ·)
  | _ :: _ => none
theorem bools_dv {G : Hp} : ∀ {xs : List V} {ds : List D} {bs : List Bool}, DvAll K G xs ds → bools ds = some bs → xs = bs.map V.bl
  | _, [], _, .nil, h => by cases h; rfl
  | _, .bool b :: ds, bs, .cons (.bl _) t, h => by
    have h' : (bools ds).map (b :: ·) = some bs := h
    cases q : bools ds with
    | none => rw [q] at h'; cases h'
    | some cs =>
      rw [q] at h'
      cases h'
      rw [bools_dv t q]; rfl
  | _, .none :: ds, _, _, h => by cases h
  | _, .int _ :: ds, _, _, h => by cases h
  | _, .str _ :: ds, _, _, h => by cases h
  | _, .list _ :: ds, _, _, h => by cases h
  | _, .tuple _ :: ds, _, _, h => by cases h
  | _, .dict _ :: ds, _, _, h => by cases h
def fAll : List D → Option D
  | [.list ds] => (bools ds).map fun bs => .bool (bs.all id)
  | _ => none
theorem cd_all : CbD K (rAll K) fAll := fun xs ds z G H Q hx ex hf k => by
  match ds, hx, hf with
  | [.list ys], .cons (.lst a b) .nil, hf =>
    have h' : (bools ys).map (fun bs => PyData.bool (bs.all id)) = some z := hf
    cases q : bools ys with
    | none => rw [q] at h'; cases h'
    | some bs =>
      rw [q] at h'
      cases h'
      have e := bools_dv b q
      subst e
      exact ⟨_, bs, rfl, (ex.rl a).sq, k _ G H (.bl _) (Grow.refl ex)⟩
/-- list(x), tuple(x) -/
def fList : List D → Option (List D)
  | [.list xs] => some xs
  | [.tuple xs] => some xs
  | _ => none
theorem cd_list : ClD K (fun xs H Q => ∃ p ys, xs = [.ref p] ∧ (SqL K H p ys ∨ SqT K H p ys) ∧ ∀ l, H l = none → Q (.ref l) (upd H l (.lst ys))) fList := fun xs ds zs G H Q hx ex hf k => by
  match ds, hx, hf with
  | [.list ys], .cons (.lst a b) .nil, hf => cases hf; exact ⟨_, _, rfl, .inl (ex.rl a).sq, fun l hl => k l _ hl b⟩
  | [.tuple ys], .cons (.tup a b) .nil, hf => cases hf; exact ⟨_, _, rfl, .inr (ex.t a), fun l hl => k l _ hl b⟩
def fTup : List D → Option D
  | [.list xs] => some (.tuple xs)
  | [.tuple xs] => some (.tuple xs)
  | _ => none
theorem cd_tup : CbD K (fun xs H Q => ∃ p ys, xs = [.ref p] ∧ ((SqL K H p ys ∧ ∀ l, H l = none → Q (.ref l) (upd H l (.tup ys))) ∨ (SqT K H p ys ∧ Q (.ref p) H))) fTup := fun xs ds z G H Q hx ex hf k => by
  match ds, hx, hf with
  | [.list ys], .cons (.lst a b) .nil, hf =>
    cases hf
    refine ⟨_, _, rfl, .inl ⟨(ex.rl a).sq, fun l hl => ?_⟩⟩
    rename_i vs
    have g : Grow G H (upd G l (.tup vs)) (upd H l (.tup vs)) := Grow.one ex hl
    exact k _ _ _ (.tup (.inl (.inl upd_same)) (b.up g.gg)) g
  | [.tuple ys], .cons (.tup a b) .nil, hf => cases hf; exact ⟨_, _, rfl, .inr ⟨ex.t a, k _ G H (.tup a b) (Grow.refl ex)⟩⟩
end
end DL
/- part DL7 -/
set_option Elab.async false
set_option linter.all false
set_option maxRecDepth 100000
set_option autoImplicit false
/-! DL7: lists changed in place; slices, isinstance, chains, constants. -/
namespace DL
open PySem L2
def getL (i : Nat) (env : DEnv) : Option (List D) := match env[i]? with
  | some (.l xs) => some xs
  | some (.p xs) => some xs
  | _ => none
def putL (i : Nat) (xs : List D) (env : DEnv) : DEnv := match env[i]? with
  | some (.l _) => env.set i (.l xs)
  | some (.p _) => env.set i (.p xs)
  | _ => env
section
variable {K : PySem.W.Frag} {mg : Str → Option Value} {W : WX} {env : DEnv} {σ : L2.St} {G H : Hp} {i : Nat} {xs : List D}
theorem getL_some (h : getL i env = some xs) : env[i]? = some (.l xs) ∨ env[i]? = some (.p xs) := by
  unfold getL at h
  cases q : env[i]? with
  | none => rw [q] at h; cases h
  | some s =>
    rw [q] at h
    cases s with
    | l ys => cases h; exact .inl rfl
    | p ys => cases h; exact .inr rfl
    | no => cases h
    | v d => cases h
    | m d => cases h
theorem own_get (R : Rel K env σ G H) (h : getL i env = some xs) : ∃ a vs, σ[i]? = some (some (.ref a)) ∧ H a = some (.lst vs) ∧ G a = none ∧ DvAll K G vs xs ∧ OwnAt env σ i a := by
  rcases getL_some h with q | q
  · have li : i < σ.length := by rw [← R.len]; exact (List.getElem?_eq_some_iff.mp q).1
    have ho : σ[i]? = some σ[i] := List.getElem?_eq_getElem li
    obtain ⟨a, vs, e, h1, h2, h3⟩ := R.slot i _ _ q ho
    rw [e] at ho
    exact ⟨a, vs, ho, h1, h2, h3, ⟨_, q, rfl⟩, ho⟩
  · have li : i < σ.length := by rw [← R.len]; exact (List.getElem?_eq_some_iff.mp q).1
    have ho : σ[i]? = some σ[i] := List.getElem?_eq_getElem li
    obtain ⟨a, vs, e, h1, h2, h3⟩ := R.slot i _ _ q ho
    rw [e] at ho
    exact ⟨a, vs, ho, h1, h2, h3, ⟨_, q, rfl⟩, ho⟩
def reL (o : Option Sl) (ys : List D) : Sl := match o with
  | some (.l _) => .l ys
  | _ => .p ys
theorem putL_get (h : getL i env = some xs) (ys : List D) (j : Nat) : (putL i ys env)[j]? = if j = i then some (reL (env[i]?) ys) else env[j]? := by
  unfold putL
  rcases getL_some h with q | q
  · have li : i < env.length := (List.getElem?_eq_some_iff.mp q).1
    rw [q]
    by_cases c : j = i
    · subst c
      rw [if_pos rfl]
      exact List.getElem?_set_self li
    · rw [if_neg c]
      exact List.getElem?_set_ne (Ne.symm c)
  · have li : i < env.length := (List.getElem?_eq_some_iff.mp q).1
    rw [q]
    by_cases c : j = i
    · subst c
      rw [if_pos rfl]
      exact List.getElem?_set_self li
    · rw [if_neg c]
      exact List.getElem?_set_ne (Ne.symm c)
theorem putL_length (ys : List D) : (putL i ys env).length = env.length := by
  unfold putL
  split <;> simp
theorem putL_own (h : getL i env = some xs) {ys : List D} {j : Nat} {a : Addr} (o : OwnAt (putL i ys env) σ j a) : OwnAt env σ j a := by
  obtain ⟨⟨s, e1, e2⟩, e3⟩ := o
  rw [putL_get h] at e1
  by_cases c : j = i
  · subst c
    rcases getL_some h with q | q
    · exact ⟨⟨_, q, rfl⟩, e3⟩
    · exact ⟨⟨_, q, rfl⟩, e3⟩
  · rw [if_neg c] at e1
    exact ⟨⟨s, e1, e2⟩, e3⟩
/-- the list of slot i is changed -/
theorem own_put (R : Rel K env σ G H) (h : getL i env = some xs) {a : Addr} {vs vs' : List V} {ys : List D} (ho : σ[i]? = some (some (.ref a))) (h1 : H a = some (.lst vs)) (h2 : G a = none) (o : OwnAt env σ i a) (dv : DvAll K G vs' ys) :
    Rel K (putL i ys env) σ G (upd H a (.lst vs')) ∧ Fr env σ G H (putL i ys env) σ G (upd H a (.lst vs')) := by
  refine ⟨⟨fun b u hb => ?_, by rw [putL_length]; exact R.len, fun j s u e1 e2 => ?_, fun j k b x y => R.dist j k b (putL_own h x) (putL_own h y)⟩,
    ⟨Ex.refl _, fun b u hb hn => ?_, fun b hb => ?_, fun b hb => .inl hb, fun b ⟨j, z⟩ => .inl ⟨j, putL_own h z⟩, fun j zs hj => ?_⟩⟩
  · rw [upd_ne (fun z => by subst z; rw [h2] at hb; cases hb)]
    exact R.ex b u hb
  · rw [putL_get h] at e1
    by_cases c : j = i
    · subst c
      rw [ho] at e2
      cases e2
      rw [if_pos rfl] at e1
      rcases getL_some h with q | q
      · rw [q] at e1; cases e1; exact ⟨a, vs', rfl, upd_same, h2, dv⟩
      · rw [q] at e1; cases e1; exact ⟨a, vs', rfl, upd_same, h2, dv⟩
    · rw [if_neg c] at e1
      have q := R.slot j s u e1 e2
      have nb : ∀ b, s.own = true → u = some (.ref b) → b ≠ a := fun b hs hb z => by
        subst z
        exact c (R.dist j i b ⟨⟨s, e1, hs⟩, by rw [e2, hb]⟩ o)
      cases s with
      | no => trivial
      | v d => exact q
      | l ys => obtain ⟨b, ws, e, q1, q2, q3⟩ := q; exact ⟨b, ws, e, by rw [upd_ne (nb b rfl e)]; exact q1, q2, q3⟩
      | p ys => obtain ⟨b, ws, e, q1, q2, q3⟩ := q; exact ⟨b, ws, e, by rw [upd_ne (nb b rfl e)]; exact q1, q2, q3⟩
      | m ys => obtain ⟨b, ws, e, q1, q2, q3⟩ := q; exact ⟨b, ws, e, by rw [upd_ne (nb b rfl e)]; exact q1, q2, q3⟩
  · rw [upd_ne (fun z => by subst z; exact hn ⟨i, o⟩)]
    exact hb
  · by_cases c : b = a
    · subst c; rw [upd_same] at hb; cases hb
    · rw [upd_ne c] at hb; exact hb
  · rw [putL_get h] at hj
    by_cases c : j = i
    · subst c
      rw [if_pos rfl] at hj
      rcases getL_some h with q | q
      · rw [q] at hj; cases hj
      · exact ⟨rfl, xs, q⟩
    · rw [if_neg c] at hj
      exact ⟨rfl, zs, hj⟩
end
/-! ### x[k], x a name -/
def known (i : Nat) (env : DEnv) : Bool := match env[i]? with
  | some .no => false
  | some _ => true
  | none => false
def ixAt (i : Nat) (k : D) (e1 : DEnv) : Rs D := match e1[i]? with
  | some (.v d) => put (dIx d k) e1
  | some (.l xs) => put (dIx (.list xs) k) e1
  | some (.p xs) => put (dIx (.list xs) k) e1
  | _ => .stuck
def eIxN (i : Nat) (db : DE) : DE := fun env => if known i env then (db env).bind fun k e1 => ixAt i k e1 else .stuck
section
variable {X : Cx} {W : WX} {pos : Pos} {b e : Expr} {db de : DE}
/-- a name's value as it stands: data, or a list of the def's own (to be read at once) -/
theorem peekV {K : PySem.W.Frag} {env : DEnv} {σ : L2.St} {G H : Hp} {i : Nat} {s : Sl} (R : Rel K env σ G H) (h : env[i]? = some s) : ∃ o, σ[i]? = some o ∧ RS K G H s o := by
  have li : i < σ.length := by rw [← R.len]; exact (List.getElem?_eq_some_iff.mp h).1
  exact ⟨_, List.getElem?_eq_getElem li, R.slot i s _ h (List.getElem?_eq_getElem li)⟩
theorem known_v {K : PySem.W.Frag} {env : DEnv} {σ : L2.St} {G H : Hp} {i : Nat} (R : Rel K env σ G H) (h : known i env = true) : ∃ v, σ[i]? = some (some v) := by
  unfold known at h
  cases q : env[i]? with
  | none => rw [q] at h; cases h
  | some s =>
    rw [q] at h
    obtain ⟨o, ho, rs⟩ := peekV R q
    cases s with
    | no => cases h
    | v d => obtain ⟨v, e, _⟩ := rs; exact ⟨v, by rw [ho, e]⟩
    | l d => obtain ⟨v, _, e, _⟩ := rs; exact ⟨_, by rw [ho, e]⟩
    | p d => obtain ⟨v, _, e, _⟩ := rs; exact ⟨_, by rw [ho, e]⟩
    | m d => obtain ⟨v, _, e, _⟩ := rs; exact ⟨_, by rw [ho, e]⟩
theorem ixAt_ok {K : PySem.W.Frag} {mg : Str → Option Value} {e1 : DEnv} {σ : L2.St} {G1 H1 : Hp} {i : Nat} {k : D} {v y : V} {Q : VK} (R1 : Rel K e1 σ G1 H1) (hv : σ[i]? = some (some v)) (dv : Dv K G1 y k) (h1 : RunE K mg W e1 σ G1 H1 (ixAt i k e1) Q) : rIx K v y H1 Q := by
  unfold ixAt at h1
  cases q : e1[i]? with
  | none => rw [q] at h1; exact h1.elim
  | some s =>
    rw [q] at h1
    obtain ⟨o, ho, rs⟩ := peekV R1 q
    rw [hv] at ho
    cases ho
    have own : ∀ xs : List D, (∃ a vs, some v = some (V.ref a) ∧ H1 a = some (.lst vs) ∧ G1 a = none ∧ DvAll K G1 vs xs) → RunE K mg W e1 σ G1 H1 (put (dIx (.list xs) k) e1) Q → rIx K v y H1 Q := fun xs rs h1 => by
      obtain ⟨a, vs, e, g1, g2, g3⟩ := rs
      cases e
      obtain ⟨z, ez, kk⟩ := RunE.put R1 h1
      cases k with
      | int n =>
        cases dv
        obtain ⟨u, hu, du⟩ := atI_dv g3 ez
        exact .inl ⟨a, vs, n, u, rfl, rfl, .inl (.inl g1), hu, kk u G1 H1 du (Grow.refl R1.ex)⟩
      | none => cases ez
      | bool _ => cases ez
      | str _ => cases ez
      | list _ => cases ez
      | tuple _ => cases ez
      | dict _ => cases ez
    cases s with
    | no => exact h1.elim
    | m xs => exact h1.elim
    | v d =>
      obtain ⟨w, e, dw⟩ := rs
      cases e
      obtain ⟨z, ez, kk⟩ := RunE.put R1 h1
      exact od_ix v y d k z G1 H1 Q dw dv R1.ex ez kk
    | l xs => exact own xs rs h1
    | p xs => exact own xs rs h1
theorem if_run {α : Type} {c : Bool} {r : Rs α} {P : Rs α → Prop} (h : P (if c = true then r else .stuck)) (hst : ¬ P .stuck) : c = true ∧ P r := by
  cases c with
  | true => exact ⟨rfl, h⟩
  | false => exact (hst h).elim
theorem ce_ixN (i : Nat) {x : Str} {p : Pos} (hb : CE X W b db) (hs : PlainIx b) (hN : X.N[i]? = some x := by rfl) (hv : Vis X.env.scope x := by first | exact Or.inl rfl | exact Or.inr (Or.inl rfl) | exact Or.inr (Or.inr rfl)) (hd : (x == ("__debug__" : Str)) = false := by decide)
    (hcd : (x == ("__classdict__" : Str)) = false := by decide) : CE X W (.Subscript (.Name x p) b pos) (eIxN i db) := pe_imp (pe_ix ix_seq (pe_var hN hv hd hcd) hb hs) fun σ H Q h => by
  obtain ⟨env, G, R, h⟩ := h
  obtain ⟨c, h⟩ := if_run (P := fun r => RunE X.K X.mg W env σ G H r Q) h fun z => z
  obtain ⟨v, hv⟩ := known_v R c
  exact ⟨v, hv, E_thenE R h fun k e1 y G1 H1 _ R1 dv F1 h1 => ixAt_ok R1 hv dv h1⟩
/-! ### x[k] = e -/
def sSetO (i : Nat) (dk dv : DE) : DS := fun env => (dv env).fl fun v e1 => if known i e1 then (dk e1).fl fun k e2 => match getL i e2, k with
  | some xs, .int n => match ixN xs.length n with
    | some j => .nx (putL i (xs.set j v) e2)
    | none => .stuck
  | _, _ => .stuck else .stuck
theorem cs_setO (i : Nat) {x : Str} {p p2 : Pos} (hk : CE X W b db) (he : CE X W e de) (hN : X.N[i]? = some x := by rfl) (hv : Vis X.env.scope x := by first | exact Or.inl rfl | exact Or.inr (Or.inl rfl) | exact Or.inr (Or.inr rfl)) (hd : (x == ("__debug__" : Str)) = false := by decide)
    (hcd : (x == ("__classdict__" : Str)) = false := by decide) (hs : swapsWithSole [.Subscript (.Name x p) b p2] e pos.line X.env = pure false := by rfl) (hw : swappedStores [.Subscript (.Name x p) b p2] e X.env = pure none := by rfl)
    (h1 : (assignEach [.Subscript (.Name x p) b p2] X.env).map (·.2) = [assign (.Subscript (.Name x p) b p2) X.env] := by rfl)
    (ha : ∀ v, assign (.Subscript (.Name x p) b p2) X.env v = (do
      let ov ← holding [v] (eval (.Name x p) X.env)
      let iv ← holding [v, ov] (eval b X.env)
      standAt p2
      holding [v, ov, iv] (setItem ov iv v)
      release [v, ov, iv] []) := by intro _; rfl) : CS X W (.Assign [.Subscript (.Name x p) b p2] e pos) (sSetO i db de) :=
  ps_imp (ps_asg he (pg_sub (pe_var hN hv hd hcd) hk set_list ha) hs hw h1) fun E σ H h => by
    obtain ⟨env, G, R, h⟩ := h
    refine E_thenS R h fun d e1 v G1 H1 _ R1 dv F1 h1 => ?_
    by_cases c : known i e1 = true
    · rw [if_pos c] at h1
      obtain ⟨o, ho⟩ := known_v R1 c
      refine ⟨o, ho, E_thenS R1 h1 fun k e2 y G2 H2 _ R2 dk F2 h2 => ?_⟩
      cases q : getL i e2 with
      | none => rw [q] at h2; exact h2.elim
      | some xs =>
        rw [q] at h2
        cases k with
        | int n =>
          cases dk
          obtain ⟨a, vs, x1, x2, x3, x4, x5⟩ := own_get R2 q
          rw [ho] at x1
          cases x1
          have h3 : RunS X.K X.mg W e2 σ G2 H2 (match ixN xs.length n with
            | some j => .nx (putL i (xs.set j d) e2)
            | none => .stuck) E := h2
          cases q2 : ixN xs.length n with
          | none => rw [q2] at h3; exact h3.elim
          | some j =>
            rw [q2] at h3
            obtain ⟨r1, r2⟩ := own_put R2 q ho x2 x3 x5 (x4.set (dv.up F2.gg) j)
            exact ⟨a, vs, n, j, rfl, rfl, x2, by rw [x4.length]; exact q2, h3 σ G2 _ r1 r2⟩
        | none => exact h2.elim
        | bool _ => exact h2.elim
        | str _ => exact h2.elim
        | list _ => exact h2.elim
        | tuple _ => exact h2.elim
        | dict _ => exact h2.elim
    · rw [if_neg c] at h1
      exact h1.elim
/-! ### x.m(e, ..), x a list of the def's own -/
def OwnM (K : PySem.W.Frag) (r : V → List V → Hp → VK → Prop) (f : List D → List D → Option (D × List D)) : Prop := ∀ (l : Addr) (vs ws : List V) (xs args : List D) (z : D) (ys : List D) (G H : Hp) (Q : VK),
  H l = some (.lst vs) → DvAll K G vs xs → DvAll K G ws args → Ex G H → G l = none → f xs args = some (z, ys) → (∀ v vs', Dv K G v z → DvAll K G vs' ys → Q v (upd H l (.lst vs'))) → r (.ref l) ws H Q
def eMO (i : Nat) (f : List D → List D → Option (D × List D)) (da : DA) : DE := fun env => if (getL i env).isSome then (da env).bind fun args e1 => match getL i e1 with
  | some xs => match f xs args with
    | some (z, ys) => .ok z (putL i ys e1)
    | none => .stuck
  | none => .stuck else .stuck
theorem mo_ok {K : PySem.W.Frag} {mg : Str → Option Value} {r : V → List V → Hp → VK → Prop} {f : List D → List D → Option (D × List D)} (o : OwnM K r f) {i : Nat} {e1 : DEnv} {σ : L2.St} {G1 H1 : Hp} {args : List D} {ws : List V} {l : Addr} {Q : VK} (R1 : Rel K e1 σ G1 H1)
    (hl : σ[i]? = some (some (.ref l))) (dw : DvAll K G1 ws args) (h1 : RunE K mg W e1 σ G1 H1 (match getL i e1 with
      | some xs => match f xs args with
        | some (z, ys) => .ok z (putL i ys e1)
        | none => .stuck
      | none => .stuck) Q) : r (.ref l) ws H1 Q := by
  cases q : getL i e1 with
  | none => rw [q] at h1; exact h1.elim
  | some xs =>
    rw [q] at h1
    obtain ⟨a, vs, x1, x2, x3, x4, x5⟩ := own_get R1 q
    rw [hl] at x1
    cases x1
    have h2 : RunE K mg W e1 σ G1 H1 (match f xs args with
      | some (z, ys) => .ok z (putL i ys e1)
      | none => .stuck) Q := h1
    cases q2 : f xs args with
    | none => rw [q2] at h2; exact h2.elim
    | some p =>
      obtain ⟨z, ys⟩ := p
      rw [q2] at h2
      refine o l vs ws xs args z ys G1 H1 Q x2 x4 dw R1.ex x3 q2 fun v vs' dz dvs => ?_
      obtain ⟨r1, r2⟩ := own_put R1 q hl x2 x3 x5 dvs
      exact h2 v G1 _ r1 dz r2
theorem ce_mo (i : Nat) {x name : Str} {p apos : Pos} {id : String} {r : V → List V → Hp → VK → Prop} {f : List D → List D → Option (D × List D)} {es : List Expr} {da : DA} (o : OwnM X.K r f) (slot : Slot "list" name id) (hty : typeOf (.builtin id) = pure (.type "method_descriptor")) (hm : MtR X id r) (ha : CA X W (e :: es) da)
    (hN : X.N[i]? = some x := by rfl) (hv : Vis X.env.scope x := by first | exact Or.inl rfl | exact Or.inr (Or.inl rfl) | exact Or.inr (Or.inr rfl)) (hd : (x == ("__debug__" : Str)) = false := by decide) (hcd : (x == ("__classdict__" : Str)) = false := by decide)
    (hbase : attributeBase (.Name x p) name X.env (eval (.Name x p) X.env) = eval (.Name x p) X.env := by rfl)
    (hfew : ((backTo pos (starEach (e :: es) X.env)).all (fun x => !x.1) && (backToKw pos (keywordEach [] X.env)).all (fun x => x.1.isSome)
      && decide ((e :: es).length + ([] : List Keyword).length + (if ([] : List Keyword).isEmpty then 0 else 1) < 30)) = true := by rfl)
    (hline : (apos.endLine == pos.line) = true := by rfl) (hs : starEach (e :: es) X.env = (false, eval e X.env) :: starEach es X.env := by rfl) (hplain : (backTo pos (starEach es X.env)).any (·.1) = false := by rfl) :
    CE X W (.Call (.Attribute (.Name x p) name apos) (e :: es) [] pos) (eMO i f da) := pe_imp (pe_bm PySem.F.plainAttrs_list slot hty hm (pe_var hN hv hd hcd) ha hbase hfew hline hs hplain) fun σ H Q h => by
  obtain ⟨env, G, R, h⟩ := h
  obtain ⟨c, h⟩ := if_run (P := fun r => RunE X.K X.mg W env σ G H r Q) h fun z => z
  cases q : getL i env with
  | none => rw [q] at c; cases c
  | some xs =>
    obtain ⟨a, vs, x1, x2, x3, x4, x5⟩ := own_get R q
    exact ⟨_, x1, .inl ⟨rfl, _, .inl (.inl x2)⟩, A_thenE R h fun args e1 ws G1 H1 _ R1 dw F1 h1 => mo_ok o R1 x1 dw h1⟩
theorem ce_mo0 (i : Nat) {x name : Str} {p apos : Pos} {id : String} {r : V → List V → Hp → VK → Prop} {f : List D → List D → Option (D × List D)} (o : OwnM X.K r f) (slot : Slot "list" name id) (hty : typeOf (.builtin id) = pure (.type "method_descriptor")) (hm : MtR X id r)
    (hN : X.N[i]? = some x := by rfl) (hv : Vis X.env.scope x := by first | exact Or.inl rfl | exact Or.inr (Or.inl rfl) | exact Or.inr (Or.inr rfl)) (hd : (x == ("__debug__" : Str)) = false := by decide) (hcd : (x == ("__classdict__" : Str)) = false := by decide)
    (hbase : attributeBase (.Name x p) name X.env (eval (.Name x p) X.env) = eval (.Name x p) X.env := by rfl) (hline : (apos.endLine == pos.line) = true := by rfl) :
    CE X W (.Call (.Attribute (.Name x p) name apos) [] [] pos) (eMO i f aNil) := pe_imp (pe_bm0 PySem.F.plainAttrs_list slot hty hm (pe_var hN hv hd hcd) hbase hline) fun σ H Q h => by
  obtain ⟨env, G, R, h⟩ := h
  obtain ⟨c, h⟩ := if_run (P := fun r => RunE X.K X.mg W env σ G H r Q) h fun z => z
  cases q : getL i env with
  | none => rw [q] at c; cases c
  | some xs =>
    obtain ⟨a, vs, x1, x2, x3, x4, x5⟩ := own_get R q
    exact ⟨_, x1, .inl ⟨rfl, _, .inl (.inl x2)⟩, mo_ok o R x1 .nil h⟩
def mAppend : List D → List D → Option (D × List D)
  | xs, [d] => if xs.length < 100000 then some (.none, xs ++ [d]) else none
  | _, _ => none
def mInsert : List D → List D → Option (D × List D)
  | xs, [.int i, d] => if xs.length < 100000 ∧ 0 ≤ i ∧ i < 2 ^ 63 then some (.none, xs.take i.toNat ++ [d] ++ xs.drop i.toNat) else none
  | _, _ => none
def mPop : List D → List D → Option (D × List D)
  | xs, [] => match xs[xs.length - 1]? with
    | some y => some (y, xs.dropLast)
    | none => none
  | _, _ => none
def mPopAt : List D → List D → Option (D × List D)
  | xs, [.int i] => if -(2 ^ 63) ≤ i ∧ i < 2 ^ 63 then match seqIndex? i xs.length with
      | some k => match xs[k]? with
        | some y => some (y, xs.eraseIdx k)
        | none => none
      | none => none
    else none
  | _, _ => none
theorem lt_size {n : Nat} (h : n < 100000) : n < sizeLine := Nat.lt_of_lt_of_le h (by decide)
theorem om_append {K : PySem.W.Frag} : OwnM K rAppend mAppend := fun l vs ws xs args z ys G H Q h1 h2 h3 ex hg hf k => by
  match args, h3, hf with
  | [d], .cons (v := v) a .nil, hf =>
    have hf' : (if xs.length < 100000 then some (PyData.none, xs ++ [d]) else none) = some (z, ys) := hf
    by_cases c : xs.length < 100000
    · rw [if_pos c] at hf'
      cases hf'
      exact ⟨l, vs, v, rfl, rfl, h1, by rw [h2.length]; exact lt_size c, k _ _ .non (h2.append (.one a))⟩
    · rw [if_neg c] at hf'; cases hf'
theorem om_insert {K : PySem.W.Frag} : OwnM K (fun x vs H Q => ∃ (l : Addr) (xs : List V) (i : Int) (y : V), x = .ref l ∧ vs = [.int i, y] ∧ H l = some (.lst xs) ∧ xs.length < sizeLine ∧ 0 ≤ i ∧ i < 2 ^ 63 ∧
    Q .non (upd H l (.lst (xs.take i.toNat ++ [y] ++ xs.drop i.toNat)))) mInsert := fun l vs ws xs args z ys G H Q h1 h2 h3 ex hg hf k => by
  match args, h3, hf with
  | [.int i, d], .cons (.int _) (.cons (v := v) a .nil), hf =>
    have hf' : (if xs.length < 100000 ∧ 0 ≤ i ∧ i < 2 ^ 63 then some (PyData.none, xs.take i.toNat ++ [d] ++ xs.drop i.toNat) else none) = some (z, ys) := hf
    by_cases c : xs.length < 100000 ∧ 0 ≤ i ∧ i < 2 ^ 63
    · rw [if_pos c] at hf'
      cases hf'
      exact ⟨l, vs, i, v, rfl, rfl, h1, by rw [h2.length]; exact lt_size c.1, c.2.1, c.2.2, k _ _ .non (((h2.take _).append (.one a)).append (h2.drop _))⟩
    · rw [if_neg c] at hf'; cases hf'
theorem om_pop {K : PySem.W.Frag} : OwnM K rPop mPop := fun l vs ws xs args z ys G H Q h1 h2 h3 ex hg hf k => by
  match args, h3, hf with
  | [], .nil, hf =>
    have hf' : (match xs[xs.length - 1]? with
      | some y => some (y, xs.dropLast)
      | none => none) = some (z, ys) := hf
    cases q : xs[xs.length - 1]? with
    | none => rw [q] at hf'; cases hf'
    | some y =>
      rw [q] at hf'
      cases hf'
      obtain ⟨v, hv, dv⟩ := h2.get q
      exact ⟨l, vs, v, rfl, rfl, h1, by rw [h2.length]; exact hv, k _ _ dv h2.dropLast⟩
theorem om_popAt {K : PySem.W.Frag} : OwnM K rPopAt mPopAt := fun l vs ws xs args z ys G H Q h1 h2 h3 ex hg hf k => by
  match args, h3, hf with
  | [.int i], .cons (.int _) .nil, hf =>
    have hf' : (if -(2 ^ 63) ≤ i ∧ i < 2 ^ 63 then match seqIndex? i xs.length with
      | some k => match xs[k]? with
        | some y => some (y, xs.eraseIdx k)
        | none => none
      | none => none
      else none) = some (z, ys) := hf
    by_cases c : -(2 ^ 63) ≤ i ∧ i < 2 ^ 63
    · rw [if_pos c] at hf'
      cases q : seqIndex? i xs.length with
      | none => rw [q] at hf'; cases hf'
      | some j =>
        rw [q] at hf'
        have hf2 : (match xs[j]? with
          | some y => some (y, xs.eraseIdx j)
          | none => none) = some (z, ys) := hf'
        cases q2 : xs[j]? with
        | none => rw [q2] at hf2; cases hf2
        | some y =>
          rw [q2] at hf2
          cases hf2
          obtain ⟨v, hv, dv⟩ := h2.get q2
          exact ⟨l, vs, i, j, v, rfl, rfl, h1, c.1, c.2, by rw [h2.length]; exact q, hv, k _ _ dv (h2.eraseIdx j)⟩
    · rw [if_neg c] at hf'; cases hf'
/-! ### reading a list of the def's own without giving it away -/
/-- len(x) -/
def eLenO (i : Nat) : DE := fun env => match getL i env with
  | some xs => .ok (.int xs.length) env
  | none => .stuck
theorem ce_lenO (i : Nat) {x : Str} {p p2 : Pos} (hm : X.mg "len" = none) (hN : X.N[i]? = some x := by rfl) (hv : Vis X.env.scope x := by first | exact Or.inl rfl | exact Or.inr (Or.inl rfl) | exact Or.inr (Or.inr rfl)) (hd : (x == ("__debug__" : Str)) = false := by decide) (hcd : (x == ("__classdict__" : Str)) = false := by decide)
    (hg : Gl X "len" := by rfl) (hs : starEach [.Name x p] X.env = (false, eval (.Name x p) X.env) :: starEach [] X.env := by rfl) (hpl : (backTo pos (starEach [] X.env)).any (·.1) = false := by rfl) : CE X W (.Call (.Name "len" p2) [.Name x p] [] pos) (eLenO i) :=
  pe_imp (pe_callB call_len_seq hg hm PySem.boot_len (pa_cons (pe_var hN hv hd hcd) pa_nil hs) (by decide) (by decide) hs hpl) fun σ H Q h => by
    obtain ⟨env, G, R, h⟩ := h
    unfold eLenO at h
    cases q : getL i env with
    | none => rw [q] at h; exact h.elim
    | some xs =>
      rw [q] at h
      obtain ⟨a, vs, x1, x2, x3, x4, x5⟩ := own_get R q
      exact ⟨_, x1, a, vs, rfl, .inl (.inl (.inl x2)), by rw [x4.length]; exact h _ G H R (.int _) (Fr.refl _ _ _ _)⟩
/-- tuple(x) -/
def eTupO (i : Nat) : DE := fun env => match getL i env with
  | some xs => .ok (.tuple xs) env
  | none => .stuck
theorem ce_tupO (i : Nat) {x : Str} {p p2 : Pos} (hm : X.mg "tuple" = none) (hN : X.N[i]? = some x := by rfl) (hv : Vis X.env.scope x := by first | exact Or.inl rfl | exact Or.inr (Or.inl rfl) | exact Or.inr (Or.inr rfl)) (hd : (x == ("__debug__" : Str)) = false := by decide) (hcd : (x == ("__classdict__" : Str)) = false := by decide)
    (hg : Gl X "tuple" := by rfl) (hs : starEach [.Name x p] X.env = (false, eval (.Name x p) X.env) :: starEach [] X.env := by rfl) (hpl : (backTo pos (starEach [] X.env)).any (·.1) = false := by rfl) : CE X W (.Call (.Name "tuple" p2) [.Name x p] [] pos) (eTupO i) :=
  pe_imp (pe_callTy call_tuple_of hg hm (by decide +kernel) (pa_cons (pe_var hN hv hd hcd) pa_nil hs) (by decide) (by decide) hs hpl) fun σ H Q h => by
    obtain ⟨env, G, R, h⟩ := h
    unfold eTupO at h
    cases q : getL i env with
    | none => rw [q] at h; exact h.elim
    | some xs =>
      rw [q] at h
      obtain ⟨a, vs, x1, x2, x3, x4, x5⟩ := own_get R q
      refine ⟨_, x1, a, vs, rfl, .inl ⟨.inl (.inl x2), fun l hl => ?_⟩⟩
      have g : Grow G H (upd G l (.tup vs)) (upd H l (.tup vs)) := Grow.one R.ex hl
      exact h _ _ _ (R.grow g) (.tup (.inl (.inl upd_same)) (x4.up g.gg)) (g.fr _ _)
/-- list(x) -/
def lListO (i : Nat) : DA := fun env => match getL i env with
  | some xs => .ok xs env
  | none => .stuck
theorem cl_listO (i : Nat) {x : Str} {p p2 : Pos} (hm : X.mg "list" = none) (hN : X.N[i]? = some x := by rfl) (hv : Vis X.env.scope x := by first | exact Or.inl rfl | exact Or.inr (Or.inl rfl) | exact Or.inr (Or.inr rfl)) (hd : (x == ("__debug__" : Str)) = false := by decide) (hcd : (x == ("__classdict__" : Str)) = false := by decide)
    (hg : Gl X "list" := by rfl) (hs : starEach [.Name x p] X.env = (false, eval (.Name x p) X.env) :: starEach [] X.env := by rfl) (hpl : (backTo pos (starEach [] X.env)).any (·.1) = false := by rfl) : CL X W (.Call (.Name "list" p2) [.Name x p] [] pos) (lListO i) :=
  pe_imp (pe_callTy call_list_of hg hm (by decide +kernel) (pa_cons (pe_var hN hv hd hcd) pa_nil hs) (by decide) (by decide) hs hpl) fun σ H Q h => by
    obtain ⟨env, G, R, h⟩ := h
    unfold lListO at h
    cases q : getL i env with
    | none => rw [q] at h; exact h.elim
    | some xs =>
      rw [q] at h
      obtain ⟨a, vs, x1, x2, x3, x4, x5⟩ := own_get R q
      exact ⟨_, x1, a, vs, rfl, .inl (.inl (.inl x2)), fun l hl => RunL.new R h hl x4⟩
end
end DL
/- part DL8 -/
set_option Elab.async false
set_option linter.all false
set_option maxRecDepth 100000
set_option autoImplicit false
/-! DL8: slices, isinstance, chains, constants of the module, new lists by + and *, list(range(..)). -/
namespace DL
open PySem L2
/-! ### slices -/
def cutD (xs : List D) (lo hi : Option Int) : List D := (xs.drop (HT.sIx xs.length 0 lo)).take (HT.sIx xs.length xs.length hi - HT.sIx xs.length 0 lo)
def dSl (d : D) (lo hi : Option Int) : Option D := match d with
  | .list xs => some (.list (cutD xs lo hi))
  | .tuple xs => some (.tuple (cutD xs lo hi))
  | .str z => if z.length ≤ 100000 then some (.str (cutS z lo hi)) else none
  | _ => none
/-- an end of a slice -/
inductive Pt where
  | no
  | of (de : DE)
def Pt.run (p : Pt) (env : DEnv) : Rs (Option Int) := match p with
  | .no => .ok none env
  | .of de => (de env).bind fun d e1 => match d with
    | .int i => .ok (some i) e1
    | _ => .stuck
def eSl (de : DE) (lo hi : Pt) : DE := fun env => (de env).bind fun d e1 => (lo.run e1).bind fun l e2 => (hi.run e2).bind fun u e3 => put (dSl d l u) e3
section
variable {K : PySem.W.Frag} {mg : Str → Option Value} {W : WX}
def RunO (env : DEnv) (σ : L2.St) (G H : Hp) (r : Rs (Option Int)) (Q : Option Int → Hp → Prop) (K : PySem.W.Frag) (mg : Str → Option Value) (W : WX) : Prop := match r with
  | .ok o env' => ∀ G' H', Rel K env' σ G' H' → Fr env σ G H env' σ G' H' → Q o H'
  | .ex x env' => RunX K mg W env σ G H x env'
  | .stuck => False
def rdO (K : PySem.W.Frag) (mg : Str → Option Value) (W : WX) (p : Pt) : TO := fun σ H Q => ∃ env G, Rel K env σ G H ∧ RunO env σ G H (p.run env) Q K mg W
theorem O_thenE {env : DEnv} {σ : L2.St} {G H : Hp} {p : Pt} {f : Option Int → DEnv → Rs D} {Q : VK} {R : Option Int → Hp → Prop} (hR : Rel K env σ G H) (h : RunE K mg W env σ G H ((p.run env).bind f) Q)
    (k : ∀ o e1 G1 H1, p.run env = .ok o e1 → Rel K e1 σ G1 H1 → Fr env σ G H e1 σ G1 H1 → RunE K mg W e1 σ G1 H1 (f o e1) Q → R o H1) : rdO K mg W p σ H R := by
  refine ⟨env, G, hR, ?_⟩
  cases q : p.run env with
  | ok d e1 =>
    rw [q] at h
    exact fun G1 H1 a c => k d e1 G1 H1 q a c (RunE.shift h c)
  | ex x e => rw [q] at h; exact h
  | stuck => rw [q] at h; exact h
def rSlAny (K : PySem.W.Frag) : V → Option Int → Option Int → Hp → VK → Prop := fun x lo hi H Q => rSlA K x lo hi H Q ∨ rSlL K x lo hi H Q ∨ rSlS x lo hi H Q
theorem sl_any {X : Cx} : SlR X (rSlAny X.K) := sl_tupA.or (sl_list.or sl_str)
theorem cut_dv {G : Hp} {xs : List V} {ds : List D} (dv : DvAll K G xs ds) (lo hi : Option Int) : DvAll K G (cutV xs lo hi) (cutD ds lo hi) := by
  unfold cutV cutD
  rw [dv.length]
  exact (dv.drop _).take _
theorem cut_whole (ds : List D) (lo hi : Option Int) (h : HT.sIx ds.length 0 lo = 0 ∧ HT.sIx ds.length ds.length hi = ds.length) : cutD ds lo hi = ds := by
  unfold cutD
  rw [h.1, h.2]
  simp
theorem sl_d {x : V} {d z : D} {lo hi : Option Int} {G H : Hp} {Q : VK} (hx : Dv K G x d) (ex : Ex G H) (hf : dSl d lo hi = some z) (k : ∀ v G' H', Dv K G' v z → Grow G H G' H' → Q v H') : rSlAny K x lo hi H Q := by
  cases hx with
  | @tup a xs ds h1 h2 =>
    cases hf
    refine .inl ⟨a, xs, rfl, ex.t h1, fun w => ?_, fun w p hp => ?_⟩
    · rw [h2.length] at w
      rw [cut_whole ds lo hi w] at k
      exact k _ G H (.tup h1 h2) (Grow.refl ex)
    · have g : Grow G H (upd G p (.tup (cutV xs lo hi))) (upd H p (.tup (cutV xs lo hi))) := Grow.one ex hp
      exact k _ _ _ (.tup (.inl (.inl upd_same)) ((cut_dv h2 lo hi).up g.gg)) g
  | @lst a xs ds h1 h2 =>
    cases hf
    refine .inr (.inl ⟨a, xs, rfl, (ex.rl h1).sq, fun p hp => ?_⟩)
    have g : Grow G H (upd G p (.lst (cutV xs lo hi))) (upd H p (.lst (cutV xs lo hi))) := Grow.one ex hp
    exact k _ _ _ (.lst (.of upd_same) ((cut_dv h2 lo hi).up g.gg)) g
  | str s =>
    have hf' : (if s.length ≤ 100000 then some (PyData.str (cutS s lo hi)) else none) = some z := hf
    by_cases c : s.length ≤ 100000
    · rw [if_pos c] at hf'
      cases hf'
      exact .inr (.inr ⟨s, rfl, lim_size c, k _ G H (.str _) (Grow.refl ex)⟩)
    · rw [if_neg c] at hf'; cases hf'
  | non => cases hf
  | bl _ => cases hf
  | int _ => cases hf
  | dct _ _ => cases hf
end
section
variable {X : Cx} {W : WX} {pos : Pos} {e : Expr} {de : DE}
abbrev CO (X : Cx) (W : WX) (e : Option Expr) (p : Pt) : Prop := PO X e (rdO X.K X.mg W p)
theorem po_imp {e : Option Expr} {t t' : TO} (h : PO X e t) (k : ∀ σ H Q, t' σ H Q → t σ H Q) : PO X e t' := ⟨fun pins s σ H Q I w => h.run pins s σ H Q I (k σ H Q w)⟩
theorem co_none : CO X W none .no := po_imp po_none fun σ H Q h => by
  obtain ⟨env, G, R, h⟩ := h
  exact h G H R (Fr.refl _ _ _ _)
theorem co_some (h : CE X W e de) : CO X W (some e) (.of de) := po_imp (po_some h) fun σ H Q h => by
  obtain ⟨env, G, R, h⟩ := h
  refine ⟨env, G, R, ?_⟩
  have h' : RunO env σ G H ((de env).bind fun d e1 => match d with
    | .int i => .ok (some i) e1
    | _ => .stuck) Q X.K X.mg W := h
  cases q : de env with
  | stuck => rw [q] at h'; exact h'
  | ex x e => rw [q] at h'; exact h'
  | ok d e1 =>
    rw [q] at h'
    intro v G1 H1 R1 dv F1
    cases dv with
    | int i => exact ⟨i, rfl, h' G1 H1 R1 F1⟩
    | non => exact h'.elim
    | bl _ => exact h'.elim
    | str _ => exact h'.elim
    | lst _ _ => exact h'.elim
    | tup _ _ => exact h'.elim
    | dct _ _ => exact h'.elim
theorem ce_sl {lo hi : Option Expr} {pl ph : Pt} {p2 : Pos} (he : CE X W e de) (hl : CO X W lo pl) (hh : CO X W hi ph) : CE X W (.Subscript e (.Slice lo hi none p2) pos) (eSl de pl ph) := pe_imp (pe_slice sl_any he hl hh) fun σ H Q h => by
  obtain ⟨env, G, R, h⟩ := h
  refine E_thenE R h fun d e1 v G1 H1 _ R1 dv F1 h1 => O_thenE R1 h1 fun l e2 G2 H2 _ R2 F2 h2 => O_thenE R2 h2 fun u e3 G3 H3 _ R3 F3 h3 => ?_
  obtain ⟨z, ez, k⟩ := RunE.put R3 h3
  exact sl_d ((dv.up F2.gg).up F3.gg) R3.ex ez k
/-! ### isinstance(e, T), T a built-in class by its name -/
def tyD : D → String
  | .none => "NoneType"
  | .bool _ => "bool"
  | .int _ => "int"
  | .str _ => "str"
  | .list _ => "list"
  | .tuple _ => "tuple"
  | .dict _ => "dict"
def isiD (T : String) (d : D) : Option D := (kitB (tyD d) T).map .bool
def eIsi (T : String) (de : DE) : DE := fun env => (de env).bind fun d e1 => put (isiD T d) e1
theorem ty_dv {K : PySem.W.Frag} {G H : Hp} {x : V} {d : D} (hx : Dv K G x d) (ex : Ex G H) : TyX K H x (.type (tyD d)) := by
  cases hx with
  | non => exact .base .non
  | bl b => exact .base (.bl b)
  | int b => exact .base (.int b)
  | str b => exact .base (.str b)
  | lst a b =>
    rcases ex.rl a with (h | ⟨o, h⟩) | ⟨its, n, h, _⟩
    · exact .base (.lst h)
    · exact .base (.frz h)
    · exact .kList h rfl
  | tup a b =>
    rcases ex.t a with (h | ⟨o, h⟩) | ⟨o, its, n, h1, h2, _⟩
    · exact .base (.tup h)
    · exact .fTuple h
    · exact .kTuple h1 h2
  | dct a b =>
    rcases ex.rd a with h | ⟨o, h⟩
    · exact .base (.dK h)
    · exact .fDict h
theorem ce_isi (T : String) {x : Str} {p p2 : Pos} (hT : bootBuiltins x = some (.type T)) (hmT : X.mg x = none) (hm : X.mg "isinstance" = none) (he : CE X W e de) (hb : bootBuiltins "isinstance" = some (.builtin "isinstance") := by decide +kernel) (hg : Gl X "isinstance" := by rfl) (hgT : Gl X x := by rfl) (hn : x ≠ "__name__" := by decide) (hd : (x == ("__debug__" : Str)) = false := by decide)
    (hs : starEach (e :: [.Name x p]) X.env = (false, eval e X.env) :: starEach [.Name x p] X.env := by rfl) (hs2 : starEach [.Name x p] X.env = (false, eval (.Name x p) X.env) :: starEach [] X.env := by rfl) (hpl : (backTo pos (starEach [.Name x p] X.env)).any (·.1) = false := by rfl) :
    CE X W (.Call (.Name "isinstance" p2) [e, .Name x p] [] pos) (eIsi T de) := pe_imp (pe_callB call_isi hg hm hb (pa_cons he (pa_cons (pe_bltn (v := .ty T) hgT hmT hT rfl hn hd) pa_nil hs2) hs) (by decide) (by decide) hs hpl) fun σ H Q h => by
  obtain ⟨env, G, R, h⟩ := h
  refine E_thenE R h fun d e1 v G1 H1 _ R1 dv F1 h1 => ?_
  obtain ⟨z, ez, k⟩ := RunE.put R1 h1
  unfold isiD at ez
  cases q : kitB (tyD d) T with
  | none => rw [q] at ez; cases ez
  | some b =>
    rw [q] at ez
    cases ez
    exact ⟨v, .ty T, .type (tyD d), .type T, b, rfl, .ty T, ty_dv dv R1.ex, kit_ty q, k _ G1 H1 (.bl b) (Grow.refl R1.ex)⟩
/-! ### a < b <= c -/
def eChain (f g : D → D → Option D) (da db dc : DE) : DE := fun env => (da env).bind fun x e1 => (db e1).bind fun y e2 => match f x y with
  | some (.bool true) => (dc e2).bind fun z e3 => put (g y z) e3
  | some (.bool false) => .ok (.bool false) e2
  | _ => .stuck
variable {a b c : Expr} {da db dc : DE}
theorem chain_ok {K : PySem.W.Frag} {mg : Str → Option Value} {r r' : R2} {f g : D → D → Option D} (o : OpD K r f) (o' : OpD K r' g) (σ : L2.St) (H : Hp) (Q : VK) (h : rdE K mg W (eChain f g da db dc) σ H Q) : tChain r r' (rdE K mg W da) (rdE K mg W db) (rdE K mg W dc) σ H Q := by
  obtain ⟨env, G, R, h⟩ := h
  refine E_thenE R h fun d e1 v G1 H1 _ R1 dv F1 h1 => E_thenE R1 h1 fun d2 e2 v2 G2 H2 _ R2 dv2 F2 h2 => ?_
  cases q : f d d2 with
  | none => rw [q] at h2; exact h2.elim
  | some z =>
    rw [q] at h2
    refine o v v2 d d2 z G2 H2 _ (dv.up F2.gg) dv2 R2.ex q fun u G3 H3 dz g3 => ?_
    cases z with
    | bool k =>
      cases dz
      refine ⟨k, rfl, ?_⟩
      cases k with
      | true =>
        have R3 := R2.grow g3
        have h3 := RunE.shift (env1 := e2) h2 (g3.fr e2 σ)
        rw [if_pos rfl]
        refine E_thenE R3 h3 fun d4 e4 v4 G4 H4 _ R4 dv4 F4 h4 => ?_
        obtain ⟨z, ez, kk⟩ := RunE.put R4 h4
        exact o' v2 v4 d2 d4 z G4 H4 Q ((dv2.up g3.gg).up F4.gg) dv4 R4.ex ez kk
      | false =>
        rw [if_neg Bool.false_ne_true]
        exact h2 _ G3 H3 (R2.grow g3) (.bl false) (g3.fr e2 σ)
    | none => exact h2.elim
    | int _ => exact h2.elim
    | str _ => exact h2.elim
    | list _ => exact h2.elim
    | tuple _ => exact h2.elim
    | dict _ => exact h2.elim
theorem ce_chain {op op' : CmpOp} {r r' : R2} {f g : D → D → Option D} (ho : OpR X (compareOp op) r) (o : OpD X.K r f) (ho' : OpR X (compareOp op') r') (o' : OpD X.K r' g) (ha : CE X W a da) (hb : CE X W b db) (hc : CE X W c dc)
    (hm : lastMarks [op, op'] [b, c] = false := by with_unfolding_all rfl) : CE X W (.Compare a [op, op'] [b, c] pos) (eChain f g da db dc) := pe_imp (pe_chain ho ho' ha hb hc hm) fun σ H Q h => chain_ok o o' σ H Q h
theorem ct_chain {op op' : CmpOp} {r r' : R2} {f g : D → D → Option D} (ho : OpR X (compareOp op) r) (o : OpD X.K r f) (ho' : OpR X (compareOp op') r') (o' : OpD X.K r' g) (ha : CE X W a da) (hb : CE X W b db) (hc : CE X W c dc)
    (hm : lastMarks [op, op'] [b, c] = false := by with_unfolding_all rfl) : CT X W (.Compare a [op, op'] [b, c] pos) (tTst (eChain f g da db dc)) := pt_imp (pt_chain ho ho' ha hb hc hm) fun σ H Q h => chain_ok o o' σ H _ (tst_ok _ σ H Q h)
/-! ### constants of the module -/
theorem ce_globI {x : Str} {i : Int} {t : Tok} (hm : X.mg x = some (.int i t)) (hg : Gl X x := by rfl) (hd : (x == ("__debug__" : Str)) = false := by decide) : CE X W (.Name x pos) (eC (.int i)) := pe_imp (pe_glob (v := .int i) hg hm ⟨t, rfl⟩ hd) (c_ok fun _ => .int i)
theorem ce_globS {x : Str} {s : Str} {t : Tok} (hm : X.mg x = some (.str s t)) (hg : Gl X x := by rfl) (hd : (x == ("__debug__" : Str)) = false := by decide) : CE X W (.Name x pos) (eC (.str s)) := pe_imp (pe_glob (v := .str s) hg hm ⟨t, rfl⟩ hd) (c_ok fun _ => .str s)
/-- a tuple of texts, written at the top -/
theorem ce_globT {x : Str} {A : Addr} {o : Obj} {its : Array Value} {n : Nat} {ss : List Str} (hm : X.mg x = some (.ref A)) (hk : X.K.lookup A = some o) (hc : o.cls = .type "tuple") (hd : o.data = .seq its n) (hz : its.size ≤ sizeLine) (hv : Vals (ss.map V.str) its.toList)
    (hg : Gl X x := by rfl) (hdb : (x == ("__debug__" : Str)) = false := by decide) : CE X W (.Name x pos) (eC (.tuple (ss.map PyData.str))) := by
  refine pe_imp (pe_glob hg hm (v := .ref A) rfl hdb) (c_ok fun G => .tup (xs := ss.map V.str) (.inr ⟨o, its, n, hk, hc, hd, hz, hv⟩) ?_)
  have : ∀ ss : List Str, DvAll X.K G (ss.map V.str) (ss.map PyData.str) := fun ss => by
    induction ss with
    | nil => exact .nil
    | cons s ss ih => exact .cons (.str s) ih
  exact this ss
end
/-! ### + and * of lists -/
section
variable {X : Cx} {K : PySem.W.Frag}
def rCatR (K : PySem.W.Frag) : R2 := fun x y H Q => ∃ l b xs zs, x = .ref l ∧ y = .ref b ∧ RL K H l xs ∧ RL K H b zs ∧ xs.length + zs.length ≤ sizeLine ∧ ∀ p, H p = none → Q (.ref p) (upd H p (.lst (xs ++ zs)))
theorem rd_lst {pins : List (Addr × Obj)} {σ : L2.St} {H : Hp} {s : Shared} {l : Addr} {xs : List V} (I : Inv X pins σ H s) (h : RL X.K H l xs) : xs.length ≤ sizeLine ∧ ∃ (its : List Value) (n : Nat), Vals xs its ∧ xs.length = its.length ∧ s.heap.get? l = some { cls := .type "list", data := .seq its.toArray n } := by
  rcases h with h | ⟨its, n, h1, h2, h3⟩
  · obtain ⟨z, its, n, r, e⟩ := h.ok I.hok
    exact ⟨z, its, n, r, r.length, e⟩
  · have e := h3.length
    exact ⟨by rw [e]; simpa using h2, its.toList, n, h3, e, by simpa using I.kIn _ _ h1⟩
theorem op_catR : OpR X (binaryOp .Add) (rCatR X.K) := by
  intro pins s σ H x y v u Q I rx ry h
  obtain ⟨l, b, xs, zs, rfl, rfl, hH, hB, hz, q⟩ := h
  cases rx
  cases ry
  obtain ⟨z, its, n, r, hl, e⟩ := rd_lst I hH
  obtain ⟨z2, its2, n2, r2, hl2, e2⟩ := rd_lst I hB
  refine PySem.P.add_list e e2 ?_ (by rw [List.size_toArray, List.size_toArray]; omega)
  have ea : its.toArray ++ its2.toArray = (its ++ its2).toArray := by simp
  rw [ea]
  exact ⟨.ref _, _, I.lnew (t' := s.toks) (r.append r2) (by rw [List.length_append]; omega), rfl, q _ I.fresh⟩
def dCat : D → D → Option (List D)
  | .list xs, .list ys => if xs.length + ys.length ≤ 100000 then some (xs ++ ys) else none
  | _, _ => none
theorem ol_cat : OlD K (rCatR K) dCat := fun x y d e zs G H Q hx hy ex h k => by
  cases d <;> cases e <;> first | (simp [dCat] at h; done) | skip
  rename_i xs ys
  have h' : (if xs.length + ys.length ≤ 100000 then some (xs ++ ys) else none) = some zs := h
  by_cases c : xs.length + ys.length ≤ 100000
  · rw [if_pos c] at h'
    cases h'
    cases hx with
    | @lst a vs _ h1 h2 =>
      cases hy with
      | @lst b ws _ h3 h4 => exact ⟨a, b, vs, ws, rfl, rfl, ex.rl h1, ex.rl h3, by rw [h2.length, h4.length]; exact lim_size c, fun p hp => k p _ hp (h2.append h4)⟩
  · rw [if_neg c] at h'; cases h'
/-- [x] * n: the list is one that was just made -/
def repD (xs : List D) (k : Int) : List D := (List.replicate k.toNat xs).flatten
theorem rep_dv {G : Hp} {vs : List V} {xs : List D} (h : DvAll K G vs xs) : ∀ n : Nat, DvAll K G (List.replicate n vs).flatten (List.replicate n xs).flatten
  | 0 => .nil
  | n + 1 => by
    rw [List.replicate_succ, List.flatten_cons, List.replicate_succ, List.flatten_cons]
    exact h.append (rep_dv h n)
def lRep (dl : DA) (dk : DE) : DA := fun env => (dl env).bind fun xs e1 => (dk e1).bind fun k e2 => match k with
  | .int n => if -(2 ^ 63) ≤ n ∧ n < 2 ^ 63 ∧ xs.length * n.toNat ≤ 100000 then .ok (repD xs n) e2 else .stuck
  | _ => .stuck
end
section
variable {X : Cx} {W : WX} {pos : Pos} {a b e : Expr} {da db de : DE} {dl : DA}
theorem cl_rep (ha : CL X W a dl) (hb : CE X W b db) : CL X W (.BinOp a .Mult b pos) (lRep dl db) := pe_imp (pe_op op_rep ha hb) fun σ H Q h => by
  obtain ⟨env, G, R, h⟩ := h
  refine ⟨env, G, R, ?_⟩
  have h' : RunL X.K X.mg W env σ G H ((dl env).bind fun xs e1 => (db e1).bind fun k e2 => match k with
    | .int n => if -(2 ^ 63) ≤ n ∧ n < 2 ^ 63 ∧ xs.length * n.toNat ≤ 100000 then .ok (repD xs n) e2 else .stuck
    | _ => .stuck) Q := h
  cases q : dl env with
  | stuck => rw [q] at h'; exact h'
  | ex x e => rw [q] at h'; exact h'
  | ok xs e1 =>
    rw [q] at h'
    intro l vs G1 H1 R1 h1 h2 h3 h4 dv F1
    have h5 : RunL X.K X.mg W e1 σ G1 H1 ((db e1).bind fun k e2 => match k with
      | .int n => if -(2 ^ 63) ≤ n ∧ n < 2 ^ 63 ∧ xs.length * n.toNat ≤ 100000 then .ok (repD xs n) e2 else .stuck
      | _ => .stuck) Q := RunL.shift h' F1
    refine E_thenL R1 h5 fun k e2 y G2 H2 _ R2 dk F2 h6 => ?_
    cases dk with
    | int n =>
      have h7 : RunL X.K X.mg W e2 σ G2 H2 (if -(2 ^ 63) ≤ n ∧ n < 2 ^ 63 ∧ xs.length * n.toNat ≤ 100000 then .ok (repD xs n) e2 else .stuck) Q := h6
      by_cases c : -(2 ^ 63) ≤ n ∧ n < 2 ^ 63 ∧ xs.length * n.toNat ≤ 100000
      · rw [if_pos c] at h7
        have hl : H2 l = some (.lst vs) := F2.keep l _ h1 h4
        exact ⟨l, n, vs, rfl, rfl, hl, c.1, c.2.1, by rw [dv.length]; exact lim_size c.2.2, fun p hp => RunL.new R2 h7 hp (rep_dv (dv.up F2.gg) n.toNat)⟩
      · rw [if_neg c] at h7
        exact h7.elim
    | non => exact h6.elim
    | bl _ => exact h6.elim
    | str _ => exact h6.elim
    | lst _ _ => exact h6.elim
    | tup _ _ => exact h6.elim
    | dct _ _ => exact h6.elim
/-- list(range(n)) -/
def lRange1 (de : DE) : DA := fun env => (de env).bind fun d e1 => match d with
  | .int n => if -1000 ≤ n ∧ n ≤ 100000 then .ok (rngD 0 n) e1 else .stuck
  | _ => .stuck
theorem rg_dv {K : PySem.W.Frag} {G : Hp} (a b : Int) : DvAll K G (rgV a b) (rngD a b) := by
  unfold rgV rngD
  generalize List.range (b - a).toNat = l
  induction l with
  | nil => exact .nil
  | cons x l ih => exact .cons (.int _) ih
theorem cl_listRg {p p2 p3 : Pos} (hc : X.calm = true) (hml : X.mg "list" = none) (hmr : X.mg "range" = none) (he : CE X W e de) (hgl : Gl X "list" := by rfl) (hgr : Gl X "range" := by rfl) (na : starEach [e] X.env = (false, eval e X.env) :: starEach [] X.env := by rfl)
    (nb : starEach [.Call (.Name "range" p2) [e] [] p3] X.env = (false, eval (.Call (.Name "range" p2) [e] [] p3) X.env) :: starEach [] X.env := by rfl) : CL X W (.Call (.Name "list" p) [.Call (.Name "range" p2) [e] [] p3] [] pos) (lRange1 de) :=
  pe_imp (pe_listRg hc hgl hml (prg_1 hgr hmr he na) nb) fun σ H Q h => by
    obtain ⟨env, G, R, h⟩ := h
    refine E_thenL R h fun k e1 y G1 H1 _ R1 dk F1 h1 => ?_
    cases dk with
    | int n =>
      have h2 : RunL X.K X.mg W e1 σ G1 H1 (if -1000 ≤ n ∧ n ≤ 100000 then .ok (rngD 0 n) e1 else .stuck) Q := h1
      by_cases c : -1000 ≤ n ∧ n ≤ 100000
      · rw [if_pos c] at h2
        exact ⟨n, rfl, ⟨by omega, by omega, by omega, by omega, by omega⟩, fun q hq => RunL.new R1 h2 hq (rg_dv 0 n)⟩
      · rw [if_neg c] at h2
        exact h2.elim
    | non => exact h1.elim
    | bl _ => exact h1.elim
    | str _ => exact h1.elim
    | lst _ _ => exact h1.elim
    | tup _ _ => exact h1.elim
    | dct _ _ => exact h1.elim
/-- a name's list of its own in a comparison whose answer is flat: x != [] -/
def eBinPL (f : D → D → Option D) (i : Nat) (db : DE) : DE := fun env => if (getL i env).isSome then (db env).bind fun y e1 => match getL i e1 with
  | some xs => match f (.list xs) y with
    | some z => if flatD z then .ok z e1 else .stuck
    | none => .stuck
  | none => .stuck else .stuck
end
end DL
/- part DL9 -/
set_option Elab.async false
set_option linter.all false
set_option maxRecDepth 100000
set_option autoImplicit false
/-! DL9: dicts with int and text keys. -/
namespace DL
open PySem L2
def kEq (d : D) (k : Key) : Bool := match d, k with
  | .int i, .inl j => i == j
  | .str x, .inr y => x == y
  | _, _ => false
def keyOf : D → Option Key
  | .int i => some (.inl i)
  | .str x => some (.inr x)
  | _ => none
def valD (kvs : List (D × D)) (k : Key) : Option D := (kvs.find? fun kv => kEq kv.1 k).map (·.2)
def putD (kvs : List (D × D)) (k : Key) (v : D) : List (D × D) := if (kvs.any fun kv => kEq kv.1 k) = true then kvs.map (fun kv => if kEq kv.1 k = true then (kv.1, v) else kv) else kvs ++ [(kD k, v)]
theorem kEq_kD (a k : Key) : kEq (kD a) k = decide (a = k) := by
  cases a <;> cases k <;> simp [kEq, kD, Bool.beq_eq_decide_eq]
theorem keyOf_some {d : D} {k : Key} (h : keyOf d = some k) : d = kD k := by
  cases d <;> simp [keyOf] at h <;> subst h <;> rfl
theorem dv_key {K : PySem.W.Frag} {G : Hp} {v : V} {k : Key} (h : Dv K G v (kD k)) : v = kV k := by
  cases k <;> cases h <;> rfl
section
variable {K : PySem.W.Frag} {G : Hp}
theorem kv_val {k : Key} : ∀ {vs : List (Key × V)} {ds : List (D × D)}, DvKv K G vs ds → (valV vs k = none ∧ valD ds k = none) ∨ ∃ v d, valV vs k = some v ∧ valD ds k = some d ∧ Dv K G v d
  | _, _, .nil => .inl ⟨rfl, rfl⟩
  | _, _, .cons (k := a) (v := v) (d := d) (xs := xs) (ys := ys) x t => by
    by_cases c : a = k
    · refine .inr ⟨v, d, valV_pos c, ?_, x⟩
      unfold valD
      rw [List.find?_cons, kEq_kD, decide_eq_true c]
      rfl
    · have e : valD ((kD a, d) :: ys) k = valD ys k := by
        unfold valD
        rw [List.find?_cons, kEq_kD, decide_eq_false c]
      rw [valV_neg c, e]
      exact kv_val t
theorem kv_any {k : Key} : ∀ {vs : List (Key × V)} {ds : List (D × D)}, DvKv K G vs ds → (vs.any fun kv => decide (kv.1 = k)) = ds.any fun kv => kEq kv.1 k
  | _, _, .nil => rfl
  | _, _, .cons x t => by rw [List.any_cons, List.any_cons, kv_any t, kEq_kD]
theorem kv_map {k : Key} {v : V} {d : D} (h : Dv K G v d) : ∀ {vs : List (Key × V)} {ds : List (D × D)}, DvKv K G vs ds → DvKv K G (vs.map fun kv => if kv.1 = k then (kv.1, v) else kv) (ds.map fun kv => if kEq kv.1 k = true then (kv.1, d) else kv)
  | _, _, .nil => .nil
  | _, _, .cons (k := a) x t => by
    rw [List.map_cons, List.map_cons]
    by_cases c : a = k
    · rw [if_pos c, if_pos (by rw [kEq_kD]; exact decide_eq_true c)]
      exact .cons h (kv_map h t)
    · rw [if_neg c, if_neg (by rw [kEq_kD]; simpa using c)]
      exact .cons x (kv_map h t)
theorem kv_app : ∀ {vs ws : List (Key × V)} {ds es : List (D × D)}, DvKv K G vs ds → DvKv K G ws es → DvKv K G (vs ++ ws) (ds ++ es)
  | _, _, _, _, .nil, s => s
  | _, _, _, _, .cons x t, s => .cons x (kv_app t s)
theorem kv_put {k : Key} {v : V} {d : D} {vs : List (Key × V)} {ds : List (D × D)} (h : DvKv K G vs ds) (hv : Dv K G v d) : DvKv K G (putK vs k v) (putD ds k d) := by
  unfold putK putD
  rw [kv_any h]
  by_cases c : (ds.any fun kv => kEq kv.1 k) = true
  · rw [if_pos c, if_pos c]
    exact kv_map hv h
  · rw [if_neg c, if_neg c]
    exact kv_app h (.cons hv .nil)
theorem kv_len : ∀ {vs : List (Key × V)} {ds : List (D × D)}, DvKv K G vs ds → vs.length = ds.length
  | _, _, .nil => rfl
  | _, _, .cons x t => by rw [List.length_cons, List.length_cons, kv_len t]
end
/-! ### {k: v, ..} -/
def pairsD : List (DE × DE) → DEnv → Rs (List (D × D))
  | [], env => .ok [] env
  | (dk, dv) :: r, env => (dk env).bind fun k e1 => (dv e1).bind fun v e2 => (pairsD r e2).bind fun ps e3 => .ok ((k, v) :: ps) e3
def keysOf : List (D × D) → Option (List (Key × D))
  | [] => some []
  | (k, v) :: r => match keyOf k, keysOf r with
    | some a, some ps => some ((a, v) :: ps)
    | _, _ => none
def mergeP (ds : List (D × D)) (ps : List (Key × D)) : List (D × D) := ps.foldl (fun acc kv => putD acc kv.1 kv.2) ds
def lDisp (prs : List (DE × DE)) : DEnv → Rs (List (D × D)) := fun env => (pairsD prs env).bind fun ps e1 => match keysOf ps with
  | some ks => if ks.length ≤ 15 then .ok (mergeP [] ks) e1 else .stuck
  | none => .stuck
/-- a dict that nobody else holds -/
def RunM (K : PySem.W.Frag) (mg : Str → Option Value) (W : WX) (env : DEnv) (σ : L2.St) (G H : Hp) (r : Rs (List (D × D))) (Q : VK) : Prop := match r with
  | .ok ds env' => ∀ a vs G' H', Rel K env' σ G' H' → H' a = some (.dK vs) → G' a = none → H a = none → ¬ Own env' σ a → DvKv K G' vs ds → Fr env σ G H env' σ G' H' → Q (.ref a) H'
  | .ex x env' => RunX K mg W env σ G H x env'
  | .stuck => False
abbrev DM := DEnv → Rs (List (D × D))
def rdM (K : PySem.W.Frag) (mg : Str → Option Value) (W : WX) (de : DM) : TE := fun σ H Q => ∃ env G, Rel K env σ G H ∧ RunM K mg W env σ G H (de env) Q
abbrev CM (X : Cx) (W : WX) (e : Expr) (de : DM) : Prop := PE X e (rdM X.K X.mg W de)
def eDct (dm : DM) : DE := fun env => (dm env).bind fun ds e1 => .ok (.dict ds) e1
section
variable {K : PySem.W.Frag} {mg : Str → Option Value} {W : WX} {env : DEnv} {σ : L2.St} {G H : Hp}
theorem RunM.of {r : Rs (List (D × D))} {Q : VK} (h' : RunE K mg W env σ G H (r.bind fun xs e1 => .ok (.dict xs) e1) Q) : RunM K mg W env σ G H r Q := by
  cases r with
  | stuck => exact h'
  | ex x e => exact h'
  | ok ds e1 =>
    intro a vs G' H' R' h1 h2 h3 h4 dv F
    have ne : ∀ b, Own e1 σ b → b ≠ a := fun b hb z => by subst z; exact h4 hb
    refine h' (.ref a) (upd G' a (.dK vs)) H' ⟨fun b o hb => ?_, R'.len, fun i s o e1' e2 => ?_, R'.dist⟩ (.dct (.inl upd_same) (dv.up (Ex.new h2)))
      ⟨F.gg.trans (Ex.new h2), F.keep, F.dom, fun b hb => ?_, F.own, F.par⟩
    · by_cases z : b = a
      · subst z; rw [upd_same] at hb; rw [h1]; exact hb
      · rw [upd_ne z] at hb; exact R'.ex b o hb
    · have qq := R'.slot i s o e1' e2
      have own : ∀ b, s.own = true → o = some (.ref b) → b ≠ a := fun b hs ho => ne b ⟨i, ⟨s, e1', hs⟩, by rw [e2, ho]⟩
      cases s with
      | no => trivial
      | v d => obtain ⟨v, e, qq⟩ := qq; exact ⟨v, e, qq.up (Ex.new h2)⟩
      | l xs => obtain ⟨b, vs', e, q1, q2, q3⟩ := qq; exact ⟨b, vs', e, q1, by rw [upd_ne (own b rfl e)]; exact q2, q3.up (Ex.new h2)⟩
      | p xs => obtain ⟨b, vs', e, q1, q2, q3⟩ := qq; exact ⟨b, vs', e, q1, by rw [upd_ne (own b rfl e)]; exact q2, q3.up (Ex.new h2)⟩
      | m xs => obtain ⟨b, vs', e, q1, q2, q3⟩ := qq; exact ⟨b, vs', e, q1, by rw [upd_ne (own b rfl e)]; exact q2, q3.up (Ex.new h2)⟩
    · by_cases z : b = a
      · subst z; exact .inr (.inl h3)
      · rw [upd_ne z] at hb; exact F.fresh b hb
theorem M_to_E {dm : DM} (σ : L2.St) (H : Hp) (Q : VK) (h : rdE K mg W (eDct dm) σ H Q) : rdM K mg W dm σ H Q := by
  obtain ⟨env, G, R, h⟩ := h
  exact ⟨env, G, R, RunM.of h⟩
/-- pairs by data -/
inductive PrD (K : PySem.W.Frag) (G : Hp) : List (V × V) → List (D × D) → Prop
  | nil : PrD K G [] []
  | cons {k v : V} {dk dv : D} {xs : List (V × V)} {ys : List (D × D)} : Dv K G k dk → Dv K G v dv → PrD K G xs ys → PrD K G ((k, v) :: xs) ((dk, dv) :: ys)
theorem PrD.up {G G' : Hp} (e : Ex G G') : ∀ {xs : List (V × V)} {ys : List (D × D)}, PrD K G xs ys → PrD K G' xs ys
  | _, _, .nil => .nil
  | _, _, .cons a b c => .cons (a.up e) (b.up e) (PrD.up e c)
theorem pairs_ok {prs : List (DE × DE)} : ∀ {env : DEnv} {G H : Hp} (R : Rel K env σ G H) {Q : List (V × V) → Hp → Prop} (_ : match pairsD prs env with
    | .ok ps e1 => ∀ vs G' H', Rel K e1 σ G' H' → PrD K G' vs ps → Fr env σ G H e1 σ G' H' → Q vs H'
    | .ex x e1 => RunX K mg W env σ G H x e1
    | .stuck => False), tPairs (prs.map fun p => (rdE K mg W p.1, rdE K mg W p.2)) σ H Q := by
  induction prs with
  | nil => exact fun R Q h => h [] _ _ R .nil (Fr.refl _ _ _ _)
  | cons p prs ih =>
    intro env G H R Q h
    obtain ⟨dk, dv⟩ := p
    have pd : pairsD ((dk, dv) :: prs) env = (dk env).bind fun k e1 => (dv e1).bind fun v e2 => (pairsD prs e2).bind fun ps e3 => .ok ((k, v) :: ps) e3 := rfl
    rw [pd] at h
    refine ⟨env, G, R, ?_⟩
    show RunE K mg W env σ G H (dk env) _
    cases qk : dk env with
    | stuck => rw [qk] at h; exact h
    | ex x e => rw [qk] at h; exact h
    | ok k e1 =>
      rw [qk] at h
      intro vk G1 H1 R1 dvk F1
      refine ⟨e1, G1, R1, ?_⟩
      show RunE K mg W e1 σ G1 H1 (dv e1) _
      rw [bind_ok] at h
      cases qv : dv e1 with
      | stuck => rw [qv] at h; exact h
      | ex x e => rw [qv] at h; exact RunX.shift h F1
      | ok v e2 =>
        rw [qv] at h
        intro vv G2 H2 R2 dvv F2
        rw [bind_ok] at h
        refine ih R2 ?_
        cases qp : pairsD prs e2 with
        | stuck => rw [qp] at h; exact h
        | ex x e => rw [qp] at h; exact RunX.shift h (F1.trans F2)
        | ok ps e3 =>
          rw [qp] at h
          exact fun vs G3 H3 R3 pr F3 => h _ G3 H3 R3 (.cons ((dvk.up F2.gg).up F3.gg) (dvv.up F3.gg) pr) ((F1.trans F2).trans F3)
theorem keys_pr {G : Hp} : ∀ {vs : List (V × V)} {ps : List (D × D)} {ks : List (Key × D)}, PrD K G vs ps → keysOf ps = some ks → ∃ kvs : List (Key × V), vs = kvs.map (fun kv => (kV kv.1, kv.2)) ∧ kvs.length = ks.length ∧ ∀ {ws : List (Key × V)} {ds : List (D × D)}, DvKv K G ws ds → DvKv K G (mergeK ws kvs) (mergeP ds ks)
  | _, [], ks, .nil, h => by cases h; exact ⟨[], rfl, rfl, fun z => z⟩
  | _, (dk, dv) :: ps, ks, .cons a b c, h => by
    have h' : (match keyOf dk, keysOf ps with
      | some a, some qs => some ((a, dv) :: qs)
      | _, _ => none) = some ks := h
    cases q1 : keyOf dk with
    | none => rw [q1] at h'; cases h'
    | some k0 =>
      cases q2 : keysOf ps with
      | none => rw [q1, q2] at h'; cases h'
      | some qs =>
        rw [q1, q2] at h'
        cases h'
        obtain ⟨kvs, e1, e2, e3⟩ := keys_pr c q2
        have e0 := keyOf_some q1
        subst e0
        have ek := dv_key a
        subst ek
        refine ⟨(k0, _) :: kvs, by rw [List.map_cons, ← e1], by simp [e2], fun {ws ds} z => ?_⟩
        exact e3 (kv_put z b)
end
section
variable {X : Cx} {W : WX} {pos : Pos}
abbrev CPs (X : Cx) (W : WX) (pos : Pos) (keys : List (Option Expr)) (values : List Expr) (prs : List (DE × DE)) : Prop := PPs X pos keys values (prs.map fun p => (rdE X.K X.mg W p.1, rdE X.K X.mg W p.2))
theorem cps_nil : CPs X W pos [] [] [] := pps_nil
theorem cps_cons {k v : Expr} {ks : List (Option Expr)} {vs : List Expr} {dk dv : DE} {prs : List (DE × DE)} (hk : CE X W k dk) (hv : CE X W v dv) (hr : CPs X W pos ks vs prs) : CPs X W pos (some k :: ks) (v :: vs) ((dk, dv) :: prs) := pps_cons hk hv hr
theorem cm_disp {keys : List (Option Expr)} {values : List Expr} {prs : List (DE × DE)} (h : CPs X W pos keys values prs) (hall : keys.all (·.isSome) = true := by rfl) (hl : keys.length = values.length := by rfl) (h0 : keys ≠ [] := by intro z; cases z) (h15 : keys.length ≤ 15 := by decide) : CM X W (.Dict keys values pos) (lDisp prs) :=
  pe_imp (pe_disp h hall hl h0 h15) fun σ H Q h => by
    obtain ⟨env, G, R, h⟩ := h
    intro p hp
    have gp : G p = none := R.ex.none hp
    have np : ¬ Own env σ p := fun z => (z.there R).1 hp
    have R0 : Rel X.K env σ G (upd H p (.dK [])) := R.mutFree gp np
    refine pairs_ok R0 ?_
    have h' : RunM X.K X.mg W env σ G H ((pairsD prs env).bind fun ps e1 => match keysOf ps with
      | some ks => if ks.length ≤ 15 then .ok (mergeP [] ks) e1 else .stuck
      | none => .stuck) Q := h
    have back : ∀ {e1 : DEnv} {G' H' : Hp}, Fr env σ G (upd H p (.dK [])) e1 σ G' H' → Fr env σ G H e1 σ G' H' := fun {e1 G' H'} F =>
      ⟨F.gg, fun a o ha hn => F.keep a o (by rw [upd_ne (ne_of_none ha hp)]; exact ha) hn, fun a ha => by
        have := F.dom a ha
        by_cases z : a = p
        · subst z; exact hp
        · rw [upd_ne z] at this; exact this, fun a ha => by
        rcases F.fresh a ha with w | w | w
        · exact .inl w
        · by_cases z : a = p
          · subst z; exact .inr (.inl hp)
          · rw [upd_ne z] at w; exact .inr (.inl w)
        · exact .inr (.inr w), fun a ha => by
        rcases F.own a ha with w | w
        · exact .inl w
        · by_cases z : a = p
          · subst z; exact .inr hp
          · rw [upd_ne z] at w; exact .inr w, F.par⟩
    cases q : pairsD prs env with
    | stuck => rw [q] at h'; exact h'
    | ex x e => rw [q] at h'; exact fun cls dd G' H' a b c => h' cls dd G' H' a b (back c)
    | ok ps e1 =>
      rw [q, bind_ok] at h'
      intro vs G' H' R' pr F'
      have hp' : H' p = some (.dK []) := F'.keep p _ upd_same np
      have gp' : G' p = none := by
        cases z : G' p with
        | none => rfl
        | some u =>
          rcases F'.fresh p (by rw [z]; exact fun w => by cases w) with w | w | w
          · exact absurd gp w
          · rw [upd_same] at w; cases w
          · exact absurd w np
      have np' : ¬ Own e1 σ p := fun z => by
        rcases F'.own p z with w | w
        · exact np w
        · rw [upd_same] at w; cases w
      cases qk : keysOf ps with
      | none => rw [qk] at h'; exact h'.elim
      | some ks =>
        rw [qk] at h'
        have h2 : RunM X.K X.mg W env σ G H (if ks.length ≤ 15 then .ok (mergeP [] ks) e1 else .stuck) Q := h'
        by_cases c : ks.length ≤ 15
        · rw [if_pos c] at h2
          obtain ⟨kvs, e1', e2, e3⟩ := keys_pr pr qk
          refine ⟨hp', kvs, e1', by omega, ?_⟩
          exact h2 p _ G' _ (R'.mutFree gp' np') upd_same gp' hp np' (e3 .nil) ((back F').mutNew hp (by rw [hp']; exact fun z => by cases z))
        · rw [if_neg c] at h2
          exact h2.elim
/-- {} -/
def lDict0 : DM := fun env => .ok [] env
theorem RunM.new {K : PySem.W.Frag} {mg : Str → Option Value} {env : DEnv} {σ : L2.St} {G H : Hp} {zs : List (D × D)} {vs : List (Key × V)} {Q : VK} {a : Addr} (R : Rel K env σ G H) (h : RunM K mg W env σ G H (.ok zs env) Q) (ha : H a = none) (dv : DvKv K G vs zs) : Q (.ref a) (upd H a (.dK vs)) := by
  have ga : G a = none := R.ex.none ha
  have na : ¬ Own env σ a := fun z => (z.there R).1 ha
  refine h a vs G _ (R.mutFree ga na) upd_same ga ha na dv ⟨Ex.refl _, fun b u hb _ => by rw [upd_ne (ne_of_none hb ha)]; exact hb, fun b hb => ?_, fun _ z => .inl z, fun _ z => .inl z, fun _ xs z => ⟨rfl, xs, z⟩⟩
  by_cases z : b = a
  · subst z; exact ha
  · rw [upd_ne z] at hb; exact hb
theorem cm_new : CM X W (.Dict [] [] pos) lDict0 := pe_imp pe_dnewK fun σ H Q h => by
  obtain ⟨env, G, R, h⟩ := h
  exact fun p hp => RunM.new R h hp .nil
theorem ce_dct {e : Expr} {dm : DM} (h : CM X W e dm) : CE X W e (eDct dm) := pe_imp h fun σ H Q h => M_to_E σ H Q h
/-! ### reading a dict -/
def dGet2 (d k x : D) : Option D := match d with
  | .dict ds => match keyOf k with
    | some a => some ((valD ds a).getD x)
    | none => none
  | _ => none
def eGet2 (dd dk dx : DE) : DE := fun env => (dd env).bind fun d e1 => match d with
  | .dict ds => (dk e1).bind fun k e2 => (dx e2).bind fun x e3 => put (dGet2 (.dict ds) k x) e3
  | _ => .stuck
variable {o e f : Expr} {dd dk dx : DE} {apos : Pos}
theorem m2_of (base : attributeBase o "get" X.env (eval o X.env) = eval o X.env) (line : (apos.endLine == pos.line) = true) (few : ((backTo pos (starEach [e, f] X.env)).all (fun x => !x.1) && (backToKw pos (keywordEach [] X.env)).all (fun x => x.1.isSome)
    && decide (([e, f] : List Expr).length + ([] : List Keyword).length + (if ([] : List Keyword).isEmpty then 0 else 1) < 30)) = true) (trees : backTo pos (starEach [e, f] X.env) = [(false, eval e X.env), (false, eval f X.env)]) : M2 X o "get" apos e f pos := ⟨base, few, line, trees⟩
theorem ce_get2 (hu : X.A.units + 1 < cLine) (ho : CE X W o dd) (he : CE X W e dk) (hf : CE X W f dx) (base : attributeBase o "get" X.env (eval o X.env) = eval o X.env := by rfl) (line : (apos.endLine == pos.line) = true := by rfl)
    (few : ((backTo pos (starEach [e, f] X.env)).all (fun x => !x.1) && (backToKw pos (keywordEach [] X.env)).all (fun x => x.1.isSome) && decide (([e, f] : List Expr).length + ([] : List Keyword).length + (if ([] : List Keyword).isEmpty then 0 else 1) < 30)) = true := by rfl)
    (trees : backTo pos (starEach [e, f] X.env) = [(false, eval e X.env), (false, eval f X.env)] := by rfl) : CE X W (.Call (.Attribute o "get" apos) [e, f] [] pos) (eGet2 dd dk dx) := pe_imp (pe_dget2 hu ho he hf ⟨base, few, line, trees⟩) fun σ H Q h => by
  obtain ⟨env, G, R, h⟩ := h
  refine E_thenE R h fun d e1 v G1 H1 _ R1 dv F1 h1 => ?_
  cases dv with
  | @dct a xs ds h2 h3 =>
    refine ⟨a, rfl, .inl ⟨xs, R1.ex.rd h2⟩, E_thenE R1 h1 fun k e2 w G2 H2 _ R2 dw F2 h4 => E_thenE R2 h4 fun x e3 z G3 H3 _ R3 dz F3 h5 => ?_⟩
    obtain ⟨r, er, kk⟩ := RunE.put R3 h5
    unfold dGet2 at er
    cases q : keyOf k with
    | none => simp [q] at er
    | some key =>
      simp only [q, Option.some.injEq] at er
      have e0 := keyOf_some q
      subst e0
      have ew := dv_key dw
      subst ew
      refine ⟨valV xs key, .inl ⟨xs, key, R3.ex.rd (F3.gg.rd (F2.gg.rd h2)), rfl, rfl⟩, ?_⟩
      rcases kv_val (k := key) h3 with ⟨n1, n2⟩ | ⟨v1, d1, n1, n2, n3⟩
      · rw [n1]
        rw [n2] at er
        exact kk _ G3 H3 (by rw [← er]; exact dz) (Grow.refl R3.ex)
      · rw [n1]
        rw [n2] at er
        exact kk _ G3 H3 (by rw [← er]; exact (n3.up F2.gg).up F3.gg) (Grow.refl R3.ex)
  | non => exact h1.elim
  | bl _ => exact h1.elim
  | int _ => exact h1.elim
  | str _ => exact h1.elim
  | lst _ _ => exact h1.elim
  | tup _ _ => exact h1.elim
end
end DL
/- part DL10 -/
set_option Elab.async false
set_option linter.all false
set_option maxRecDepth 100000
set_option autoImplicit false
/-! DL10: defs by names; the law's end. -/
namespace DL
open PySem L2
/-- a def of the top, where it stands -/
abbrev FnT (K : PySem.W.Frag) (x : Str) (st : Stmt) (fd : FuncData) : Prop := FunD K x x (defArgs st) (defBody st) (defScope st) [] [] (He.ga K x) fd
/-- what a caller knows of a def -/
structure Cal (P : Program) (w : World) (K : PySem.W.Frag) (mg : Str → Option Value) (base : Heap) (k : Nat) (x : Str) (np : Nat) (F : Df) : Prop where
  ex : ∃ (fd : FuncData) (ps : List Str), ps.length = np ∧ FnOk P w K mg base (L2.CX P w) k (He.ga K x) fd ps (spD K mg ps.length F) ∧ Binds K fd ps []
  mg_ : mg x = some (.ref (He.ga K x))
  kp : PySem.W.keepIn K (.ref (He.ga K x)) = true
section
variable {P : Program} {w : World} {K : PySem.W.Frag} {mg : Str → Option Value} {base : Heap}
theorem fn_bodyD {x : Str} {st : Stmt} {fd : FuncData} {N ps : List Str} {k : Nat} {ds : DS} (F : FnT K x st fd) (S : FnScope N ps (defScope st)) (hps : ps.length ≤ N.length)
    (hbody : ∀ (cdv : Value) (A : Around) (outer : List Env) (s : Shared) (H : Hp) (E : XK), Room k (A.deeper (PyProof.Rows.envOfC x (defScope st) s.heap.objs.size (He.ga K x) cdv)) →
      CSs (cxOf (L2.CX P w) P w K mg base N x (defScope st) (He.ga K x) cdv A outer s H E) (fun cls d _ H => E cls d H) (defBody st) ds) :
    FnOk P w K mg base (L2.CX P w) (k + 1) (He.ga K x) fd ps (spD K mg ps.length (bodyF N.length ds)) := by
  obtain ⟨oc, od, dV, kV, doc, pm, an, cdv, ct, osl, rfl, lk, hcd, _, _⟩ := F.ex
  refine fn_of lk hcd S (fun vs H Q E h => h.1) fun A outer s H vs Q E hr h => ⟨_, hbody cdv A outer s H E hr, ?_⟩
  obtain ⟨hl, args, G, R, h⟩ := h
  have hn : vs.length ≤ N.length := by omega
  refine ⟨_, G, rel_start (N := N) R hn, ?_⟩
  have h' : RunF K mg args (vs.map some) G H (match ds (args ++ List.replicate (N.length - args.length) Sl.no) with
    | .nx e => .ok .none (outsOf args e)
    | .rt d e => .ok d (outsOf args e)
    | .rl xs e => .okl xs (outsOf args e)
    | .ex x e => .ex x (outsOf args e)
    | _ => .stuck) Q E := h
  cases q : ds (args ++ List.replicate (N.length - args.length) Sl.no) with
  | nx e =>
    rw [q] at h'
    exact fun σ' G' H' R' F' => let ⟨a, b, _⟩ := ends_fr R hn R' F'; h' .non G' H' a .non b
  | rt d e =>
    rw [q] at h'
    exact fun v σ' G' H' R' dv F' => let ⟨a, b, _⟩ := ends_fr R hn R' F'; h' v G' H' a dv b
  | rl d e =>
    rw [q] at h'
    exact fun a vs' σ' G' H' R' h1 h2 h3 h4 dv F' => let ⟨r, b, c⟩ := ends_fr R hn R' F'; h' a vs' G' H' r h1 h2 h3 (fun z => h4 (c a z)) dv b
  | ex x e =>
    rw [q] at h'
    exact fun cls dd σ' G' H' xr R' F' => let ⟨a, b, _⟩ := ends_fr R hn R' F'; h' cls dd G' H' xr a b
  | bk e => rw [q] at h'; exact h'.elim
  | ct e => rw [q] at h'; exact h'.elim
  | stuck => rw [q] at h'; exact h'.elim
/-- THE RULE: a def of the top keeps what its function on data says -/
theorem cal_of {x : Str} {st : Stmt} {N ps : List Str} {k : Nat} {ds : DS} (D : ∃ fd, FnT K x st fd) (g : mg x = some (.ref (He.ga K x))) (S : FnScope N ps (defScope st)) (hps : ps.length ≤ N.length)
    (hb : ∀ (kV doc pm : Value) (an : Option Addr) (cdv ct : Value) (us : List Value), us.length = ps.length → bindArgs (PySem.W.fnOf x x (defArgs st) (defBody st) (defScope st) .none kV doc pm an cdv ct) ⟨us, []⟩ = pure (ps.zip us))
    (hbody : ∀ (cdv : Value) (A : Around) (outer : List Env) (s : Shared) (H : Hp) (E : XK), Room k (A.deeper (PyProof.Rows.envOfC x (defScope st) s.heap.objs.size (He.ga K x) cdv)) →
      CSs (cxOf (L2.CX P w) P w K mg base N x (defScope st) (He.ga K x) cdv A outer s H E) (fun cls d _ H => E cls d H) (defBody st) ds) :
    Cal P w K mg base (k + 1) x ps.length (bodyF N.length ds) := by
  obtain ⟨fd, F⟩ := D
  exact ⟨⟨fd, ps, rfl, fn_bodyD F S hps hbody, F.bindsN hb⟩, g, F.kp⟩
theorem Cal.mono {j k : Nat} {x : Str} {np : Nat} {F : Df} (C : Cal P w K mg base j x np F) (h : j ≤ k) : Cal P w K mg base k x np F :=
  let ⟨fd, ps, e, f, b⟩ := C.ex
  ⟨⟨fd, ps, e, f.mono h, b⟩, C.mg_, C.kp⟩
end
section
variable {X : Cx} {W : WX} {pos p : Pos} {e : Expr} {es : List Expr} {da : DAr} {j k np : Nat} {F : Df} {x : Str}
theorem passF (σ : L2.St) : PassesAt (L2.CX X.prog X.w) X σ (WE WF σ) := fun _ _ _ _ _ _ h => by
  obtain ⟨_, _, _, _, _, _, _, _, _, _, _, _, z⟩ := h
  exact z.elim
theorem ce_callC (C : Cal X.prog X.w X.K X.mg X.base j x np F) (hr : Room k X.A) (hjk : j ≤ k) (tk : ∀ σ, PassesAt (L2.CX X.prog X.w) X σ (WE W σ)) (ha : CR X W (e :: es) da) (hg : Gl X x := by rfl)
    (hdb : (x == ("__debug__" : Str)) = false := by decide) (he : starEach (e :: es) X.env = (false, eval e X.env) :: starEach es X.env := by rfl) (hpl : (backTo pos (starEach es X.env)).any (·.1) = false := by rfl) :
    CE X W (.Call (.Name x p) (e :: es) [] pos) (eCallN np F da) := by
  obtain ⟨fd, ps, rfl, f, b⟩ := C.ex
  exact ce_call f (hr.mono hjk) C.mg_ C.kp b tk ha hg hdb he hpl
theorem cl_callC (C : Cal X.prog X.w X.K X.mg X.base j x np F) (hr : Room k X.A) (hjk : j ≤ k) (tk : ∀ σ, PassesAt (L2.CX X.prog X.w) X σ (WE W σ)) (ha : CR X W (e :: es) da) (hg : Gl X x := by rfl)
    (hdb : (x == ("__debug__" : Str)) = false := by decide) (he : starEach (e :: es) X.env = (false, eval e X.env) :: starEach es X.env := by rfl) (hpl : (backTo pos (starEach es X.env)).any (·.1) = false := by rfl) :
    CL X W (.Call (.Name x p) (e :: es) [] pos) (lCallN np F da) := by
  obtain ⟨fd, ps, rfl, f, b⟩ := C.ex
  exact cl_call f (hr.mono hjk) C.mg_ C.kp b tk ha hg hdb he hpl
/-- f(): nothing is handed in -/
def eCall0 (F : Df) : DE := fun env => match F [] with
  | .ok d _ => .ok d env
  | .okl xs _ => .ok (.list xs) env
  | _ => .stuck
theorem rel_nil {K : PySem.W.Frag} {G H : Hp} (ex : Ex G H) : Rel K [] [] G H := ⟨ex, rfl, fun i s o h => by simp at h, fun i j a ⟨⟨s, h, _⟩, _⟩ => by simp at h⟩
theorem own_nil {σ : L2.St} {a : Addr} : ¬ Own [] σ a := fun ⟨i, ⟨s, h, _⟩, _⟩ => by simp at h
/-- the frame of a call without arguments -/
theorem fr_nil {K : PySem.W.Frag} {env outs : DEnv} {σ : L2.St} {G H G' H' : Hp} (R : Rel K env σ G H) (R' : Rel K outs [] G' H') (F : Fr [] [] G H outs [] G' H') : Grow G H G' H' :=
  ⟨F.gg, fun a o h => F.keep a o h own_nil, R'.ex, fun a h => by
    rcases F.fresh a h with w | w | w
    · exact .inl w
    · exact .inr w
    · exact (own_nil w).elim⟩
theorem ce_call0C (C : Cal X.prog X.w X.K X.mg X.base j x 0 F) (hr : Room k X.A) (hjk : j ≤ k) (hg : Gl X x := by rfl) (hdb : (x == ("__debug__" : Str)) = false := by decide) : CE X W (.Call (.Name x p) [] [] pos) (eCall0 F) := by
  obtain ⟨fd, ps, e0, f, b⟩ := C.ex
  refine pe_imp (pe_call0 f (hr.mono hjk) hg C.mg_ C.kp b .nil (passL (X := X)) hdb) fun σ H Q h => ?_
  obtain ⟨env, G, R, h⟩ := h
  show spD X.K X.mg ps.length F [] H Q E0
  refine ⟨e0.symm, [], G, rel_nil R.ex, ?_⟩
  unfold eCall0 at h
  cases q : F [] with
  | stuck => rw [q] at h; exact h
  | ex x outs => rw [q] at h; exact h.elim
  | ok d outs =>
    rw [q] at h
    intro v G' H' R' dv F'
    have g := fr_nil R R' F'
    exact h v G' H' (R.grow g) dv (g.fr env σ)
  | okl xs outs =>
    rw [q] at h
    intro a vs G' H' R' h1 h2 h3 h4 dv F'
    have g := fr_nil R R' F'
    have hl : RunL X.K X.mg W env σ G H (Rs.ok xs env) Q := RunL.of h
    exact hl a vs G' H' (R.grow g) h1 h2 h3 (fun z => (z.there R).1 h3) dv (g.fr env σ)
end
/-! ### the law's end -/
/-- the script as data -/
def scriptD (ns : List Int) : D := .list (ns.map PyData.int)
theorem script_sp {K : PySem.W.Frag} {mg : Str → Option Value} {H : Hp} {a : Addr} {ns : List Int} {F : Df} {outs : DEnv} (h : RL K H a (ns.map V.int)) (e : F [.v (scriptD ns)] = .ok (.bool true) outs) : spD K mg 1 F [.ref a] H (fun v _ => v = .bl true) fun _ _ _ => False := by
  refine ⟨rfl, [.v (scriptD ns)], H, ⟨Ex.refl _, rfl, fun i s o h1 h2 => ?_, fun i j b ⟨⟨s, h1, h2⟩, _⟩ => ?_⟩, ?_⟩
  · match i, h1, h2 with
    | 0, h1, h2 =>
      cases h1
      cases h2
      exact ⟨_, rfl, .lst h (DvAll.of_ints ns)⟩
  · match i, h1 with
    | 0, h1 => cases h1; cases h2
  · rw [e]
    intro v G' H' R' dv F'
    cases dv
    rfl
theorem walk_ofR {l : PySem.W.OpenLaw} {n k : Nat} {q : Program} {loose : List Str} {XP : (Str → Option Value) → Heap → Prop} {YP : World → Heap → Prop} {d : DefRec} {F : Df}
    (hn : l.most = some n) (hn2 : n ≤ sizeLine) (hdf : d.params.defaults = []) (hr : Room k callerA) (hnm : d.name = "law")
    (hF : ∀ ns : List Int, ns.length ≤ n → ∃ outs, F [.v (scriptD ns)] = .ok (.bool true) outs)
    (hC : ∀ (w : World) (mg : Str → Option Value) (h : Heap), YP w h → h.Ns mainGlobals mg →
      ∃ (K : PySem.W.Frag) (fd : FuncData), K.In h ∧ mg "law" = some (.ref (He.ga K "law")) ∧ (∀ (s : Shared) (u : Value), BindsTo s fd ⟨[u], []⟩ [("script", u)]) ∧
        ∀ base : Heap, K.In base → base.Ns mainGlobals mg → FnOk l.prog w K mg base (L2.CX l.prog w) k (He.ga K "law") fd ["script"] (spD K mg 1 F)) :
    PySem.W.WalkO q loose XP YP l.row.toRowW d [] (fun f vs => PySem.call f vs) := by
  refine Att.attach_call hn hdf fun w s0 s1 mg mb fa o pm cd doc a vs ns Gr Y ho hd hcd hmg hobj hints hlen hgen => ?_
  obtain ⟨K, fd, KX, hg, hb, hFn⟩ := hC w mg _ Y Gr.T.g
  rw [hnm, hg] at hmg
  cases hmg
  obtain ⟨outs, he⟩ := hF ns hlen
  refine law_call KX Gr.T.g Gr.T.b Gr.T.builtins Gr.T.nolimit hgen hobj hints (Nat.le_trans hlen hn2) hr hFn hb (fun H hO hS => script_sp ?_ he) fun H e s' hx => ?_
  · rcases hS with h | ⟨oo, its, m, h1, h2, h3, h4, h5, h6⟩
    · exact .inl h
    · have e1 := KX a oo h1
      rw [hobj] at e1
      cases e1
      exact .inr ⟨vs.toArray, _, h1, by cases h4; exact h5, by cases h4; exact h6⟩
  · obtain ⟨_, _, _, _, _, _, _, _, _, _, _, _, z⟩ := hx
    exact z
end DL
/- part DL11 -/
set_option Elab.async false
set_option linter.all false
set_option maxRecDepth 100000
set_option autoImplicit false
/-! DL11: small things for the printed walks; the head's facts. -/
namespace DL
open PySem L2
def rLendC (i : Nat) (da : DAr) : DAr := fun env => if lent i env then (da env).bind fun xs e2 => if lent i e2 then .ok (.s i :: xs) e2 else .stuck else .stuck
/-- how many turns a while is given at most -/
def FUEL : Nat := 1000000
/-- a tuple of texts, written at the top -/
def GloT (K : PySem.W.Frag) (mg : Str → Option Value) (x : Str) (ss : List Str) : Prop := mg x = some (.ref (He.ga K x)) ∧ ∀ H : Hp, SqT K H (He.ga K x) (ss.map V.str)
theorem ce_globT2 {X : Cx} {W : WX} {pos : Pos} {x : Str} {ss : List Str} (h : GloT X.K X.mg x ss) (hg : Gl X x := by rfl) (hdb : (x == ("__debug__" : Str)) = false := by decide) : CE X W (.Name x pos) (eC (.tuple (ss.map PyData.str))) := by
  refine pe_imp (pe_glob hg h.1 (v := .ref (He.ga X.K x)) rfl hdb) (c_ok fun G => .tup (xs := ss.map V.str) (h.2 G) ?_)
  have all : ∀ ss : List Str, DvAll X.K G (ss.map V.str) (ss.map PyData.str) := fun ss => by
    induction ss with
    | nil => exact .nil
    | cons s ss ih => exact .cons (.str s) ih
  exact all ss
/-! ### the head's facts with one more truth -/
def obsB (n : Nat) (fa : List He.Fa) (fn : List He.DefD) (ex : PySem.W.Frag → Bool) (g : Addr → Option Obj) : He.AlD × Bool := (He.obsD fa fn (He.frG g (He.asD g n)), ex (He.frG g (He.asD g n)))
def hookB (n : Nat) (fa : List He.Fa) (fn : List He.DefD) (ex : PySem.W.Frag → Bool) : PySem.W.Hook where
  α := He.AlD × Bool
  obs := fun s => obsB n fa fn ex s.heap.get?
  val := fun _ => (He.valD fn, true)
  says := fun _ h => ∃ K : PySem.W.Frag, K.In h ∧ He.SaysD fa fn K ∧ ex K = true
  of := fun _ _ e => ⟨_, He.frG_in, congrArg (fun z : He.AlD × Bool => z.1) e, congrArg (fun z : He.AlD × Bool => z.2) e⟩
  keeps := fun _ _ _ ⟨K, hK, c⟩ k => ⟨K, PySem.W.Frag.In.keeps hK k, c⟩
theorem obsB_eq {n : Nat} {fa : List He.Fa} {fn : List He.DefD} {ex : PySem.W.Frag → Bool} {g : Addr → Option Obj} {s : Shared} (h : ∀ a, g a = s.heap.get? a) : obsB n fa fn ex g = (hookB n fa fn ex).obs s := by
  have e : g = s.heap.get? := funext h
  rw [e] <;> rfl
/-- a def of the top as the head's facts name it -/
def defD (x : Str) (st : Stmt) : He.DefD := ⟨(x, none), x, x, defArgs st, defBody st, defScope st, [], []⟩
end DL
/- part LW -/
set_option Elab.async false
set_option linter.all false
set_option maxRecDepth 100000
set_option maxHeartbeats 4000000
namespace LW
open PySem L2 DL
def c_TWOS : List Str := ["cut", "part", "sew"]
def c_ONES : List Str := ["split", "merge", "join", "turn", "unturn", "fold", "puff", "draw", "grow", "cap", "open", "rip"]
def c_LONE : List Str := ["undo", "redo", "skin", "marks", "deeds", "counts", "news"]
def c_WALKS : List Str := ["patch", "knot", "rim"]
def b_is_whole : DS :=
    (sRet ((eAnd ((eIsi "int" (eVar 0))) ((eNot ((eIsi "bool" (eVar 0))))))))
def f_is_whole : Df := bodyF 1 b_is_whole
def b__law_take : DS :=
    (sSeq (sIf ((tTst (eBin dGt ((eIxN 0 (eC (.int 0)))) (eC (.int 0))))) (sSeq (sAsg ((eBin dMod ((eIxN 0 (eC (.int 0)))) (eVar 1))) (gN 2))
    (sSeq (sSetO 0 (eC (.int 0)) ((eBin dFdiv ((eIxN 0 (eC (.int 0)))) (eVar 1))))
    (sRet (eVar 2)))) sNx)
    (sSeq (sSetO 0 (eC (.int 1)) ((eBin dMod ((eBin dMul ((eIxN 0 (eC (.int 1)))) (eC (.int 48271)))) (eC (.int 2147483647)))))
    (sRet ((eBin dMod ((eBin dFdiv ((eBin dMod ((eBin dMul ((eIxN 0 (eC (.int 1)))) ((eIxN 0 (eC (.int 1)))))) (eC (.int 2147483629)))) (eC (.int 64)))) (eVar 1))))))
def f__law_take : Df := bodyF 3 b__law_take
def b__law_odd : DS :=
    (sSeq (sAsg ((eLst ((lLst (aCons (eC (.int (-1))) (aCons (eC (.int 0)) (aCons (eC (.int 1)) (aCons (eC (.int 2)) (aCons (eC (.int 400)) (aCons (eC (.int 401)) (aCons (eC (.bool true)) (aCons (eC (.bool false)) (aCons (eC .none) (aCons (eC (.str "")) (aCons (eC (.str "0")) (aCons ((eTup (aNil))) (aCons ((eTup ((aCons (eC (.int 0)) aNil)))) (aCons ((eTup ((aCons (eC .none) aNil)))) (aCons ((eTup ((aCons ((eTup ((aCons (eC (.int 0)) aNil)))) (aCons ((eTup ((aCons (eC .none) aNil)))) aNil))))) (aCons ((eTup ((aCons ((eTup ((aCons (eC (.int 0)) aNil)))) (aCons ((eTup ((aCons (eC (.int 0)) aNil)))) aNil))))) (aCons ((eLst ((lLst (aCons (eC (.int 0)) aNil))))) aNil))))))))))))))))))))) (gN 1))
    (sSeq (sAsg ((eLst ((eBinL dCat (eVar 1) ((eLst ((lLst (aCons ((eTup ((aCons ((eTup (aNil))) (aCons ((eTup (aNil))) aNil))))) (aCons ((eTup ((aCons ((eLst ((lLst (aCons (eC (.int 0)) aNil))))) (aCons ((eTup ((aCons (eC .none) aNil)))) aNil))))) (aCons ((eTup ((aCons ((eTup ((aCons (eC (.int 0)) aNil)))) (aCons ((eLst ((lLst (aCons (eC .none) aNil))))) aNil))))) (aCons ((eTup ((aCons ((eTup ((aCons (eC (.int 0)) (aCons (eC (.int 1)) aNil))))) (aCons ((eTup ((aCons (eC (.int 1)) (aCons (eC (.int 0)) aNil))))) aNil))))) (aCons ((eTup ((aCons ((eTup ((aCons (eC (.int 1)) (aCons (eC (.int 0)) aNil))))) (aCons ((eTup ((aCons (eC (.int 1)) (aCons (eC (.int 0)) aNil))))) aNil))))) (aCons ((eTup ((aCons ((eTup ((aCons (eC (.int 0)) (aCons (eC (.int 1)) aNil))))) (aCons ((eTup ((aCons (eC (.int 1)) aNil)))) aNil))))) aNil)))))))))))))) (gN 1))
    (sRet ((eIxN 1 ((eCallN 2 f__law_take (rLendC 0 (rCons ((eCB fLen (aCons (eVar 1) aNil))) rNil)))))))))
def f__law_odd : Df := bodyF 2 b__law_odd
def b__law_bag : DS :=
    (sSeq (sAsg (eC (.int 0)) (gN 2))
    (sSeq (sIf ((tTst (eBin dLt (eVar 1) ((eCB fLen (aCons (eVar 0) aNil)))))) (sAsg ((eBin dMod ((eIxN 0 (eVar 1))) ((eBin dMul ((eBin dPow (eC (.int 10)) (eC (.int 60)))) ((eBin dPow (eC (.int 10)) (eC (.int 60)))))))) (gN 2)) sNx)
    (sSeq (sIf ((tTst (eBin dLt (eVar 2) ((eBin dPow (eC (.int 10)) (eC (.int 18))))))) (sRetL (lLst (aCons (eC (.int 0)) (aCons ((eBin dAdd (eC (.int 1)) ((eBin dMod ((eBin dAdd ((eBin dMul (eVar 2) (eC (.int 7919)))) ((eBin dMul (eC (.int 104729)) (eVar 1))))) (eC (.int 2147483646)))))) aNil)))) sNx)
    (sRetL (lLst (aCons (eVar 2) (aCons ((eBin dAdd (eC (.int 1)) ((eBin dMod ((eBin dAdd (eVar 2) (eVar 1))) (eC (.int 2147483646)))))) aNil)))))))
def f__law_bag : Df := bodyF 3 b__law_bag
def b__law_skin : DS :=
    (sSeq (sAsg ((eBin dAdd (eC (.int 1)) ((eCallN 2 f__law_take (rLendC 0 (rCons (eVar 1) rNil)))))) (gN 2))
    (sSeq (sAsgL 3 (lLst aNil))
    (sSeq (sFor (iRng1 (aCons (eVar 2) aNil)) (gN 4) (sDrop ((eMO 3 mInsert (aCons ((eCallN 2 f__law_take (rLendC 0 (rCons ((eBin dAdd (eVar 4) (eC (.int 1)))) rNil)))) (aCons (eVar 4) aNil))))))
    (sSeq (sAsgL 5 (lRep (lLst (aCons (eC (.int 0)) aNil)) (eVar 2)))
    (sSeq (sAsg ((eBin dIx ((eLst ((lLst (aCons ((eBin dAdd (eC (.int 1)) ((eCallN 2 f__law_take (rLendC 0 (rCons (eC (.int 6)) rNil)))))) (aCons (eC (.int 3)) (aCons (eVar 2) aNil))))))) ((eCallN 2 f__law_take (rLendC 0 (rCons (eC (.int 3)) rNil)))))) (gN 6))
    (sSeq (sAsg ((eLst ((lListO 3)))) (gN 7))
    (sSeq (whileD ((tTst (eBin dNe (eVar 7) ((eLst ((lLst aNil))))))) (sSeq (sAsg ((eCB fMin (aCons ((eCB fLen (aCons (eVar 7) aNil))) (aCons ((eBin dIx ((eLst ((lLst (aCons (eVar 6) (aCons ((eBin dAdd (eC (.int 1)) ((eCallN 2 f__law_take (rLendC 0 (rCons (eVar 6) rNil)))))) aNil)))))) ((eCallN 2 f__law_take (rLendC 0 (rCons (eC (.int 2)) rNil)))))) aNil)))) (gN 8))
    (sSeq (sAsg ((eSl (eVar 7) .no (.of (eVar 8)))) (gN 9))
    (sSeq (sAsg ((eSl (eVar 7) (.of (eVar 8)) .no)) (gN 7))
    (sFor (iRng1 (aCons (eVar 8) aNil)) (gN 10) (sSetO 5 ((eIxN 9 ((eBin dSub (eVar 10) (eC (.int 1)))))) ((eIxN 9 (eVar 10)))))))) FUEL)
    (sSeq (sAsgL 11 (lRep (lLst (aCons (eC .none) aNil)) (eVar 2)))
    (sSeq (sAsg ((eBin dIx ((eLst ((lLst (aCons (eC (.int 2)) (aCons (eC (.int 5)) (aCons (eC (.int 99)) aNil))))))) ((eCallN 2 f__law_take (rLendC 0 (rCons (eC (.int 3)) rNil)))))) (gN 12))
    (sSeq (sAsgL 13 (lRange1 (eVar 2)))
    (sSeq (whileD ((tTst (eBin dGt ((eLenO 13)) (eC (.int 1))))) (sSeq (sAsg ((eMO 13 mPopAt (aCons ((eCallN 2 f__law_take (rLendC 0 (rCons ((eLenO 13)) rNil)))) aNil))) (gN 14))
    (sSeq (sAsg ((eMO 13 mPopAt (aCons ((eCallN 2 f__law_take (rLendC 0 (rCons ((eLenO 13)) rNil)))) aNil))) (gN 15))
    (sIf ((tTst (eBin dGt ((eCallN 2 f__law_take (rLendC 0 (rCons (eVar 12) rNil)))) (eC (.int 0))))) (sSeq (sSetO 11 (eVar 14) (eVar 15))
    (sSetO 11 (eVar 15) (eVar 14))) sNx))) FUEL)
    (sRet ((eTup ((aCons ((eTupO 5)) (aCons ((eTupO 11)) aNil)))))))))))))))))
def f__law_skin : Df := bodyF 16 b__law_skin
def b__law_broken : DS :=
    (sSeq (sAsg ((eCB fLen (aCons (eVar 0) aNil))) (gN 2))
    (sSeq (sFor (iRng1 (aCons (eVar 2) aNil)) (gN 3) (sSeq (sIf ((tOrD ((tNotD ((tTst (eChain dLe dLt (eC (.int 0)) ((eIxN 0 (eVar 3))) (eVar 2)))))) ((tTst (eBin dIn ((eIxN 0 (eVar 3))) ((eSl (eVar 0) .no (.of (eVar 3))))))))) (sRet (eVar 3)) sNx)
    (sSeq (sAsg ((eIxN 1 (eVar 3))) (gN 4))
    (sIf ((tAndD ((tTst (eBin dIsnt (eVar 4) (eC .none)))) ((tOrD ((tNotD ((tTst (eChain dLe dLt (eC (.int 0)) (eVar 4) (eVar 2)))))) ((tOrD ((tTst (eBin dEq (eVar 4) (eVar 3)))) ((tTst (eBin dNe ((eIxN 1 (eVar 4))) (eVar 3)))))))))) (sRet (eVar 3)) sNx))))
    (sRet (eC .none))))
def f__law_broken : Df := bodyF 5 b__law_broken
def b__law_is_skin : DS :=
    (sSeq (sIf ((tOrD ((tNotD ((tTst (eIsi "tuple" (eVar 0)))))) ((tOrD ((tTst (eBin dNe ((eCB fLen (aCons (eVar 0) aNil))) (eC (.int 2))))) ((tNotD ((tTst (eCB fAll (aCons ((eLst ((lComp (iSeq (eVar 0)) (gN 3) tYesD ((eIsi "tuple" (eVar 3))) [3])))) aNil)))))))))) (sRet (eC (.bool false))) sNx)
    (sSeq (sAsg ((eCB fLen (aCons ((eIxN 0 (eC (.int 0)))) aNil))) (gN 1))
    (sSeq (sIf ((tOrD ((tTst (eBin dLt (eVar 1) (eC (.int 1))))) ((tOrD ((tTst (eBin dGt (eVar 1) (eC (.int 400))))) ((tTst (eBin dNe ((eCB fLen (aCons ((eIxN 0 (eC (.int 1)))) aNil))) (eVar 1)))))))) (sRet (eC (.bool false))) sNx)
    (sSeq (sFor (iSeq ((eBin dAdd ((eIxN 0 (eC (.int 0)))) ((eCB fTup (aCons ((eLst ((lComp (iSeq ((eIxN 0 (eC (.int 1))))) (gN 4) (tTst (eBin dIsnt (eVar 4) (eC .none))) (eVar 4) [4])))) aNil)))))) (gN 2) (sIf ((tOrD ((tNotD ((tTst (eIsi "int" (eVar 2)))))) ((tTst (eIsi "bool" (eVar 2)))))) (sRet (eC (.bool false))) sNx))
    (sRet ((eBin dIs ((eCallN 2 f__law_broken (rCons ((eIxN 0 (eC (.int 0)))) (rCons ((eIxN 0 (eC (.int 1)))) rNil)))) (eC .none))))))))
def f__law_is_skin : Df := bodyF 5 b__law_is_skin
def b__law_truths : DS :=
    (sRet ((eCB fTup (aCons ((eLst ((lComp (iSeq (eVar 0)) (gN 1) tYesD ((eIf ((tTst (eBin dIn (eVar 1) ((eTup ((aCons (eC (.int 0)) (aCons (eC (.int 1)) aNil)))))))) ((eBin dEq (eVar 1) (eC (.int 1)))) (eVar 1))) [1])))) aNil))))
def f__law_truths : Df := bodyF 2 b__law_truths
def b_next_at_rim : DS :=
    (sSeq (sAsg ((eBin dIx ((eIxN 0 (eC (.int 0)))) (eVar 1))) (gN 2))
    (sSeq (whileD ((tTst (eBin dIsnt ((eBin dIx ((eIxN 0 (eC (.int 1)))) (eVar 2))) (eC .none)))) (sAsg ((eBin dIx ((eIxN 0 (eC (.int 0)))) ((eBin dIx ((eIxN 0 (eC (.int 1)))) (eVar 2))))) (gN 2)) FUEL)
    (sRet (eVar 2))))
def f_next_at_rim : Df := bodyF 3 b_next_at_rim
def b__law_right : DS :=
    (sSeq (sIf ((tTst (eBin dIs ((eBin dIx ((eIxN 0 (eC (.int 1)))) (eVar 1))) (eC .none)))) (sRet (eC .none)) sNx)
    (sRet ((eBin dIx ((eIxN 0 (eC (.int 0)))) ((eBin dIx ((eIxN 0 (eC (.int 1)))) (eVar 1)))))))
def f__law_right : Df := bodyF 2 b__law_right
def b__law_patch : DS :=
    (sSeq (sAsgL 2 (lLst (aCons (eVar 1) aNil)))
    (sSeq (whileD ((tTst (eBin dNe ((eBin dIx ((eIxN 0 (eC (.int 0)))) ((eIxN 2 (eC (.int (-1))))))) (eVar 1)))) (sDrop ((eMO 2 mAppend (aCons ((eBin dIx ((eIxN 0 (eC (.int 0)))) ((eIxN 2 (eC (.int (-1))))))) aNil)))) FUEL)
    (sRet ((eTupO 2)))))
def f__law_patch : Df := bodyF 3 b__law_patch
def b_seam_of : DS :=
    (sSeq (sAsg ((eBin dIx ((eIxN 0 (eC (.int 1)))) (eVar 1))) (gN 2))
    (sSeq (sIf ((tTst (eBin dIs (eVar 2) (eC .none)))) (sRet ((eTup ((aCons (eVar 1) aNil))))) sNx)
    (sRet ((eTup ((aCons ((eCB fMin (aCons (eVar 1) (aCons (eVar 2) aNil)))) (aCons ((eCB fMax (aCons (eVar 1) (aCons (eVar 2) aNil)))) aNil))))))))
def f_seam_of : Df := bodyF 3 b_seam_of
def b__law_beside : DS :=
    (sSeq (sAsg ((eCB fLen (aCons ((eIxN 0 (eC (.int 0)))) aNil))) (gN 2))
    (sSeq (sAsg ((eBin dAdd ((eIxN 0 (eC (.int 0)))) ((eCB fTup (aCons ((eLst ((lComp (iSeq ((eIxN 1 (eC (.int 0))))) (gN 5) tYesD ((eBin dAdd (eVar 5) (eVar 2))) [5])))) aNil))))) (gN 3))
    (sSeq (sAsg (eLst (lComp (iSeq ((eIxN 1 (eC (.int 1))))) (gN 6) tYesD ((eIf ((tTst (eBin dIs (eVar 6) (eC .none)))) (eC .none) ((eBin dAdd (eVar 6) (eVar 2))))) [6])) (gN 4))
    (sRet ((eTup ((aCons (eVar 3) (aCons ((eBin dAdd ((eIxN 0 (eC (.int 1)))) ((eCB fTup (aCons (eVar 4) aNil))))) aNil)))))))))
def f__law_beside : Df := bodyF 7 b__law_beside
def b_handles_of : DS :=
    (sRet ((eBin dFdiv ((eBin dSub ((eBin dSub ((eBin dAdd ((eBin dSub (eC (.int 2)) ((eIxN 0 (eC (.int 0)))))) ((eIxN 0 (eC (.int 1)))))) ((eIxN 0 (eC (.int 2)))))) ((eIxN 0 (eC (.int 3)))))) (eC (.int 2)))))
def f_handles_of : Df := bodyF 1 b_handles_of
def b__law_renumbered : DS :=
    (sSeq (sAsg ((eCB fLen (aCons ((eIxN 1 (eC (.int 0)))) aNil))) (gN 2))
    (sSeq (sAsgL 3 (lLst aNil))
    (sSeq (sFor (iRng1 (aCons (eVar 2) aNil)) (gN 4) (sDrop ((eMO 3 mInsert (aCons ((eCallN 2 f__law_take (rLendC 0 (rCons ((eBin dAdd (eVar 4) (eC (.int 1)))) rNil)))) (aCons (eVar 4) aNil))))))
    (sSeq (sAsgL 5 (lRep (lLst (aCons (eC (.int 0)) aNil)) (eVar 2)))
    (sSeq (sAsgL 6 (lRep (lLst (aCons (eC .none) aNil)) (eVar 2)))
    (sSeq (sFor (iRng1 (aCons (eVar 2) aNil)) (gN 4) (sSeq (sSetO 5 ((eIxN 3 (eVar 4))) ((eIxN 3 ((eBin dIx ((eIxN 1 (eC (.int 0)))) (eVar 4))))))
    (sIf ((tTst (eBin dIsnt ((eBin dIx ((eIxN 1 (eC (.int 1)))) (eVar 4))) (eC .none)))) (sSetO 6 ((eIxN 3 (eVar 4))) ((eIxN 3 ((eBin dIx ((eIxN 1 (eC (.int 1)))) (eVar 4)))))) sNx)))
    (sRet ((eTup ((aCons ((eTup ((aCons ((eTupO 5)) (aCons ((eTupO 6)) aNil))))) (aCons (eVar 3) aNil))))))))))))
def f__law_renumbered : Df := bodyF 7 b__law_renumbered
def b_steps_of : DS :=
    (sSeq (sAsgL 1 (lLst aNil))
    (sSeq (sAsgL 2 (lLst aNil))
    (sSeq (sFor (iSeq (eVar 0)) (gN 3) (sSeq (sAsg ((eLenO 1)) (gN 4))
    (sFor (iRng1 (aCons ((eCB fLen (aCons (eVar 3) aNil))) aNil)) (gN 5) (sSeq (sAsg ((eBin dMod ((eBin dAdd (eVar 5) (eC (.int 1)))) ((eCB fLen (aCons (eVar 3) aNil))))) (gN 6))
    (sSeq (sDrop ((eMO 1 mAppend (aCons ((eTup ((aCons ((eIxN 3 (eVar 5))) (aCons ((eIxN 3 (eVar 6))) aNil))))) aNil))))
    (sDrop ((eMO 2 mAppend (aCons ((eBin dAdd (eVar 4) (eVar 6))) aNil)))))))))
    (sRet ((eTup ((aCons (eVar 1) (aCons (eVar 2) aNil)))))))))
def f_steps_of : Df := bodyF 7 b_steps_of
def b__law_left_out : DS :=
    (sSeq (sAsg (eLst (lComp (iSeq (eVar 0)) (gN 3) tYesD ((eLst ((lComp (iSeq (eVar 3)) (gN 4) (tTst (eBin dNotIn (eVar 4) (eVar 1))) (eVar 4) [4])))) [3])) (gN 2))
    (sRetL (lComp (iSeq (eVar 2)) (gN 3) (tTst (eBin dNe (eVar 3) ((eLst ((lLst aNil)))))) (eVar 3) [3])))
def f__law_left_out : Df := bodyF 5 b__law_left_out
def b_with_patches : DS :=
    (sSeq (sAsgL 0 (lListO 0))
    (sSeq (sFor (iSeq (eVar 1)) (gN 2) (sFor (iRng1 (aCons ((eCB fLen (aCons (eVar 2) aNil))) aNil)) (gN 3) (sSetO 0 ((eIxN 2 ((eBin dSub (eVar 3) (eC (.int 1)))))) ((eIxN 2 (eVar 3))))))
    (sRet ((eTupO 0)))))
def f_with_patches : Df := bodyF 4 b_with_patches
def b__law_words : DS :=
    (sSeq (sAsg ((eLst ((lLst (aCons (eC (.str "split")) (aCons (eC (.str "merge")) (aCons (eC (.str "cut")) (aCons (eC (.str "join")) (aCons (eC (.str "turn")) (aCons (eC (.str "unturn")) (aCons (eC (.str "fold")) (aCons (eC (.str "puff")) (aCons (eC (.str "draw")) (aCons (eC (.str "part")) (aCons (eC (.str "grow")) (aCons (eC (.str "cap")) (aCons (eC (.str "open")) aNil))))))))))))))))) (gN 0))
    (sRet ((eLst ((eBinL dCat (eVar 0) ((eLst ((lLst (aCons (eC (.str "sew")) (aCons (eC (.str "rip")) aNil))))))))))))
def f__law_words : Df := bodyF 1 b__law_words
def b_is_deed : DS :=
    (sSeq (sIf ((tOrD ((tNotD ((tTst (eIsi "tuple" (eVar 0)))))) ((tOrD ((tTst (eBin dLt ((eCB fLen (aCons (eVar 0) aNil))) (eC (.int 2))))) ((tNotD ((tTst (eIsi "str" ((eIxN 0 (eC (.int 0))))))))))))) (sRet (eC (.bool false))) sNx)
    (sSeq (sIf ((tNotD ((tTst (eCB fAll (aCons ((eLst ((lComp (iSeq ((eSl (eVar 0) (.of (eC (.int 1))) .no))) (gN 1) tYesD ((eCallN 1 f_is_whole (rCons (eVar 1) rNil))) [1])))) aNil)))))) (sRet (eC (.bool false))) sNx)
    (sRet ((eOr ((eAnd ((eBin dIn ((eIxN 0 (eC (.int 0)))) (eC (.tuple (c_ONES.map PyData.str))))) ((eBin dEq ((eCB fLen (aCons (eVar 0) aNil))) (eC (.int 2)))))) ((eAnd ((eBin dIn ((eIxN 0 (eC (.int 0)))) (eC (.tuple (c_TWOS.map PyData.str))))) ((eBin dEq ((eCB fLen (aCons (eVar 0) aNil))) (eC (.int 3)))))))))))
def f_is_deed : Df := bodyF 2 b_is_deed
def b__law_is_deed : DS :=
    (sSeq (sIf ((tOrD ((tNotD ((tTst (eIsi "tuple" (eVar 0)))))) ((tOrD ((tTst (eBin dEq (eVar 0) ((eTup (aNil)))))) ((tNotD ((tTst (eIsi "str" ((eIxN 0 (eC (.int 0))))))))))))) (sRet (eC (.bool false))) sNx)
    (sSeq (sAsg ((eGet2 ((eDct ((lDisp [(eC (.str "cut"), eC (.int 3)), (eC (.str "part"), eC (.int 3)), (eC (.str "sew"), eC (.int 3))])))) ((eIxN 0 (eC (.int 0)))) (eC (.int 2)))) (gN 1))
    (sSeq (sIf ((tOrD ((tTst (eBin dNotIn ((eIxN 0 (eC (.int 0)))) ((eCall0 f__law_words))))) ((tTst (eBin dNe ((eCB fLen (aCons (eVar 0) aNil))) (eVar 1)))))) (sRet (eC (.bool false))) sNx)
    (sRet ((eBin dEq ((eLst ((lComp (iSeq ((eSl (eVar 0) (.of (eC (.int 1))) .no))) (gN 2) (tOrD ((tNotD ((tTst (eIsi "int" (eVar 2)))))) ((tTst (eIsi "bool" (eVar 2))))) (eVar 2) [2])))) ((eLst ((lLst aNil))))))))))
def f__law_is_deed : Df := bodyF 3 b__law_is_deed
def b__law_wide : DS :=
    (sSeq (sAsg ((eBin dAdd (eC (.int 396)) ((eCallN 2 f__law_take (rLendC 0 (rCons (eC (.int 5)) rNil)))))) (gN 1))
    (sSeq (sAsg ((eBin dIx ((eLst ((lLst (aCons (eC (.int 1)) (aCons (eC (.int 2)) (aCons (eC (.int 3)) (aCons (eC (.int 4)) (aCons (eVar 1) aNil))))))))) ((eCallN 2 f__law_take (rLendC 0 (rCons (eC (.int 5)) rNil)))))) (gN 2))
    (sSeq (sAsgL 3 (lLst aNil))
    (sSeq (sFor (iRng1 (aCons (eVar 1) aNil)) (gN 4) (sSeq (sAsg ((eBin dMul ((eBin dFdiv (eVar 4) (eVar 2))) (eVar 2))) (gN 5))
    (sDrop ((eMO 3 mAppend (aCons ((eBin dAdd (eVar 5) ((eBin dMod ((eBin dAdd ((eBin dSub (eVar 4) (eVar 5))) (eC (.int 1)))) ((eCB fMin (aCons (eVar 2) (aCons ((eBin dSub (eVar 1) (eVar 5))) aNil)))))))) aNil))))))
    (sSeq (sAsgL 6 (lRep (lLst (aCons (eC .none) aNil)) (eVar 1)))
    (sSeq (sAsg ((eCallN 2 f__law_take (rLendC 0 (rCons (eC (.int 2)) rNil)))) (gN 7))
    (sSeq (sFor (iRng1 (aCons ((eBin dFdiv ((eBin dSub (eVar 1) (eVar 7))) (eC (.int 2)))) aNil)) (gN 8) (sIf ((tTst (eBin dGt ((eCallN 2 f__law_take (rLendC 0 (rCons (eC (.int 9)) rNil)))) (eC (.int 0))))) (sSeq (sSetO 6 ((eBin dAdd ((eBin dMul (eC (.int 2)) (eVar 8))) (eVar 7))) ((eBin dAdd ((eBin dAdd ((eBin dMul (eC (.int 2)) (eVar 8))) (eVar 7))) (eC (.int 1)))))
    (sSetO 6 ((eBin dAdd ((eBin dAdd ((eBin dMul (eC (.int 2)) (eVar 8))) (eVar 7))) (eC (.int 1)))) ((eBin dAdd ((eBin dMul (eC (.int 2)) (eVar 8))) (eVar 7))))) sNx))
    (sRet ((eTup ((aCons ((eTupO 3)) (aCons ((eTupO 6)) aNil)))))))))))))
def f__law_wide : Df := bodyF 9 b__law_wide
def b_number_behind : DS :=
    (sRet ((eBin dSub (eVar 1) ((eCB fLen (aCons ((eLst ((lComp (iSeq (eVar 0)) (gN 2) (tTst (eBin dLt (eVar 2) (eVar 1))) (eVar 2) [2])))) aNil))))))
def f_number_behind : Df := bodyF 3 b_number_behind
def b_back_of_taking : DS :=
    (sSeq (sAsg ((eIxN 1 (eC (.int 0)))) (gN 2))
    (sSeq (sAsg ((eIxN 1 (eC (.int 1)))) (gN 3))
    (sSeq (sAsg ((eBin dIx ((eIxN 0 (eC (.int 1)))) (eVar 3))) (gN 4))
    (sSeq (sAsg ((eBin dIx ((eIxN 0 (eC (.int 0)))) (eVar 3))) (gN 5))
    (sSeq (sIf ((tTst (eBin dEq (eVar 2) (eC (.str "merge"))))) (sRet ((eTup ((aCons (eC (.str "split")) (aCons (eVar 3) aNil)))))) sNx)
    (sSeq (sIf ((tTst (eBin dEq (eVar 2) (eC (.str "open"))))) (sRet ((eTup ((aCons (eC (.str "cap")) (aCons (eVar 4) aNil)))))) sNx)
    (sSeq (sIf ((tTst (eBin dEq (eVar 2) (eC (.str "fold"))))) (sRet ((eTup ((aCons (eC (.str "puff")) (aCons ((eIf ((tTst (eBin dIs (eVar 4) (eC .none)))) ((eBin dIx ((eIxN 0 (eC (.int 1)))) (eVar 5))) (eVar 4))) aNil)))))) sNx)
    (sSeq (sIf ((tTst (eBin dIs (eVar 4) (eC .none)))) (sRet ((eTup ((aCons (eC (.str "grow")) (aCons (eVar 5) aNil)))))) sNx)
    (sSeq (sAsg ((eBin dIx ((eIxN 0 (eC (.int 0)))) (eVar 4))) (gN 6))
    (sSeq (sIf ((tTst (eBin dEq (eVar 2) (eC (.str "join"))))) (sSeq (sIf ((tTst (eBin dEq (eVar 5) (eVar 3)))) (sRet ((eTup ((aCons (eC (.str "cut")) (aCons (eVar 6) (aCons (eVar 6) aNil))))))) sNx)
    (sRet ((eTup ((aCons (eC (.str "cut")) (aCons (eVar 5) (aCons ((eIf ((tTst (eBin dEq (eVar 6) (eVar 4)))) (eVar 5) (eVar 6))) aNil)))))))) sNx)
    (sSeq (sIf ((tTst (eBin dEq (eVar 5) (eVar 4)))) (sRet ((eTup ((aCons (eC (.str "part")) (aCons (eVar 6) (aCons (eVar 6) aNil))))))) sNx)
    (sRet ((eTup ((aCons (eC (.str "part")) (aCons (eVar 5) (aCons ((eIf ((tTst (eBin dEq (eVar 6) (eVar 3)))) (eVar 5) (eVar 6))) aNil))))))))))))))))))
def f_back_of_taking : Df := bodyF 7 b_back_of_taking
def b_back_of_leaving : DS :=
    (sSeq (sAsg ((eCB fLen (aCons ((eIxN 0 (eC (.int 0)))) aNil))) (gN 2))
    (sSeq (sAsg ((eIxN 1 (eC (.int 0)))) (gN 3))
    (sSeq (sIf ((tTst (eBin dEq (eVar 3) (eC (.str "rip"))))) (sRet ((eTup ((aCons (eC (.str "sew")) (aCons ((eIxN 1 (eC (.int 1)))) (aCons ((eBin dIx ((eIxN 0 (eC (.int 1)))) ((eIxN 1 (eC (.int 1)))))) aNil))))))) sNx)
    (sSeq (sAsg ((eDct ((lDisp [(eC (.str "split"), eC (.str "merge")), (eC (.str "turn"), eC (.str "unturn")), (eC (.str "unturn"), eC (.str "turn")), (eC (.str "sew"), eC (.str "rip"))])))) (gN 4))
    (sSeq (sIf ((tTst (eBin dIn (eVar 3) (eVar 4)))) (sRet ((eTup ((aCons ((eIxN 4 (eVar 3))) (aCons ((eIxN 1 (eC (.int 1)))) aNil)))))) sNx)
    (sSeq (sAsg ((eDct ((lDisp [(eC (.str "cut"), eC (.str "join")), (eC (.str "part"), eC (.str "draw")), (eC (.str "grow"), eC (.str "draw")), (eC (.str "puff"), eC (.str "fold")), (eC (.str "cap"), eC (.str "open"))])))) (gN 4))
    (sRet ((eTup ((aCons ((eIxN 4 (eVar 3))) (aCons (eVar 2) aNil))))))))))))
def f_back_of_leaving : Df := bodyF 5 b_back_of_leaving
def b__law_whole : DS :=
    (sSeq (sAsg ((eBin dAdd (eC (.int 2)) ((eBin dMul (eC (.int 2)) ((eCallN 2 f__law_take (rLendC 0 (rCons (eC (.int 10)) rNil)))))))) (gN 1))
    (sSeq (sAsgL 2 (lRange1 (eVar 1)))
    (sSeq (sAsgL 3 (lRep (lLst (aCons (eC .none) aNil)) (eVar 1)))
    (sSeq (whileD ((tTst (eBin dNe (eVar 2) ((eLst ((lLst aNil))))))) (sSeq (sAsg ((eMO 2 mPopAt (aCons ((eCallN 2 f__law_take (rLendC 0 (rCons ((eLenO 2)) rNil)))) aNil))) (gN 4))
    (sSeq (sAsg ((eMO 2 mPopAt (aCons ((eCallN 2 f__law_take (rLendC 0 (rCons ((eLenO 2)) rNil)))) aNil))) (gN 5))
    (sSeq (sSetO 3 (eVar 4) (eVar 5))
    (sSetO 3 (eVar 5) (eVar 4))))) FUEL)
    (sRet ((eTup ((aCons ((eCB fTup (aCons ((eLst ((lComp (iRng1 (aCons (eVar 1) aNil)) (gN 6) tYesD ((eBin dMod ((eBin dAdd (eVar 6) (eC (.int 1)))) (eVar 1))) [6])))) aNil))) (aCons ((eTupO 3)) aNil))))))))))
def f__law_whole : Df := bodyF 7 b__law_whole
def b__law_shrunk_rows : DS :=
    (sSeq (sAsgL 3 (lLst aNil))
    (sSeq (sFor (iSeq (eVar 0)) (gN 4) (sIf ((tNotD ((tAndD ((tTst (eBin dIn (eVar 1) (eVar 4)))) ((tTst (eBin dIn (eVar 2) (eVar 4)))))))) (sDrop ((eMO 3 mAppend (aCons ((eCB fTup (aCons ((eLst ((lComp (iSeq (eVar 4)) (gN 5) tYesD ((eIf ((tTst (eBin dEq (eVar 5) (eVar 2)))) (eVar 1) (eVar 5))) [5])))) aNil))) aNil)))) sNx))
    (sRet (eVar 3))))
def f__law_shrunk_rows : Df := bodyF 6 b__law_shrunk_rows
def b__law_known : DS :=
    (sSeq (sAsg ((eLst ((lLst (aCons ((eTup ((aCons (eC (.int 0)) (aCons (eC (.int 1)) (aCons (eC (.int 2)) aNil)))))) (aCons ((eTup ((aCons (eC (.int 0)) (aCons (eC (.int 2)) (aCons (eC (.int 3)) aNil)))))) (aCons ((eTup ((aCons (eC (.int 0)) (aCons (eC (.int 3)) (aCons (eC (.int 1)) aNil)))))) (aCons ((eTup ((aCons (eC (.int 1)) (aCons (eC (.int 3)) (aCons (eC (.int 2)) aNil)))))) aNil)))))))) (gN 0))
    (sSeq (sAsg ((eLst ((lLst (aCons ((eTup ((aCons (eC (.int 0)) (aCons (eC (.int 3)) (aCons (eC (.int 2)) (aCons (eC (.int 1)) aNil))))))) (aCons ((eTup ((aCons (eC (.int 4)) (aCons (eC (.int 5)) (aCons (eC (.int 6)) (aCons (eC (.int 7)) aNil))))))) (aCons ((eTup ((aCons (eC (.int 0)) (aCons (eC (.int 1)) (aCons (eC (.int 5)) (aCons (eC (.int 4)) aNil))))))) (aCons ((eTup ((aCons (eC (.int 1)) (aCons (eC (.int 2)) (aCons (eC (.int 6)) (aCons (eC (.int 5)) aNil))))))) (aCons ((eTup ((aCons (eC (.int 2)) (aCons (eC (.int 3)) (aCons (eC (.int 7)) (aCons (eC (.int 6)) aNil))))))) (aCons ((eTup ((aCons (eC (.int 3)) (aCons (eC (.int 0)) (aCons (eC (.int 4)) (aCons (eC (.int 7)) aNil))))))) aNil)))))))))) (gN 1))
    (sSeq (sAsgL 2 (lLst (aCons ((eTup ((aCons (eC (.int 0)) (aCons (eC (.int 1)) (aCons (eC (.int 2)) (aCons (eC (.int 3)) (aCons (eC (.int 4)) aNil)))))))) aNil)))
    (sSeq (sFor (iRng1 (aCons (eC (.int 5)) aNil)) (gN 3) (sDrop ((eMO 2 mAppend (aCons ((eTup ((aCons ((eBin dMod ((eBin dAdd (eVar 3) (eC (.int 1)))) (eC (.int 5)))) (aCons (eVar 3) (aCons ((eBin dAdd (eC (.int 5)) (eVar 3))) (aCons ((eBin dAdd (eC (.int 10)) (eVar 3))) (aCons ((eBin dAdd (eC (.int 5)) ((eBin dMod ((eBin dAdd (eVar 3) (eC (.int 1)))) (eC (.int 5)))))) aNil)))))))) aNil)))))
    (sSeq (sFor (iRng1 (aCons (eC (.int 5)) aNil)) (gN 3) (sDrop ((eMO 2 mAppend (aCons ((eTup ((aCons ((eBin dAdd (eC (.int 10)) (eVar 3))) (aCons ((eBin dAdd (eC (.int 5)) (eVar 3))) (aCons ((eBin dAdd (eC (.int 10)) ((eBin dMod ((eBin dAdd (eVar 3) (eC (.int 4)))) (eC (.int 5)))))) (aCons ((eBin dAdd (eC (.int 15)) ((eBin dMod ((eBin dAdd (eVar 3) (eC (.int 4)))) (eC (.int 5)))))) (aCons ((eBin dAdd (eC (.int 15)) (eVar 3))) aNil)))))))) aNil)))))
    (sSeq (sDrop ((eMO 2 mAppend (aCons ((eTup ((aCons (eC (.int 19)) (aCons (eC (.int 18)) (aCons (eC (.int 17)) (aCons (eC (.int 16)) (aCons (eC (.int 15)) aNil)))))))) aNil))))
    (sRet ((eLst ((lLst (aCons ((eTup ((aCons (eVar 0) (aCons (eC (.int 12)) aNil))))) (aCons ((eTup ((aCons (eVar 1) (aCons (eC (.int 24)) aNil))))) (aCons ((eTup ((aCons (eVar 2) (aCons (eC (.int 60)) aNil))))) aNil))))))))))))))
def f__law_known : Df := bodyF 4 b__law_known
def b__law_closed_net : DS :=
    (sSeq (sAsgL 1 (lLst aNil))
    (sSeq (sFor (iRng1 (aCons ((eBin dMul (eVar 0) (eVar 0))) aNil)) (gN 2) (sSeq (sAsg ((eBin dMod (eVar 2) (eVar 0))) (gN 3))
    (sSeq (sAsg ((eBin dFdiv (eVar 2) (eVar 0))) (gN 4))
    (sSeq (sAsg ((eBin dMod ((eBin dAdd (eVar 3) (eC (.int 1)))) (eVar 0))) (gN 5))
    (sSeq (sAsg ((eBin dMod ((eBin dAdd (eVar 4) (eC (.int 1)))) (eVar 0))) (gN 6))
    (sDrop ((eMO 1 mAppend (aCons ((eTup ((aCons ((eBin dAdd ((eBin dMul (eVar 4) (eVar 0))) (eVar 3))) (aCons ((eBin dAdd ((eBin dMul (eVar 4) (eVar 0))) (eVar 5))) (aCons ((eBin dAdd ((eBin dMul (eVar 6) (eVar 0))) (eVar 5))) (aCons ((eBin dAdd ((eBin dMul (eVar 6) (eVar 0))) (eVar 3))) aNil))))))) aNil)))))))))
    (sRet (eVar 1))))
def f__law_closed_net : Df := bodyF 7 b__law_closed_net
def b__law_mated : DS :=
    (sSeq (sAsgL 2 (lRange1 ((eBin dMul ((eBin dFdiv ((eCB fLen (aCons ((eIxN 1 (eC (.int 0)))) aNil))) (eC (.int 2)))) (eC (.int 2))))))
    (sSeq (sAsgL 3 (lRep (lLst (aCons (eC .none) aNil)) ((eCB fLen (aCons ((eIxN 1 (eC (.int 0)))) aNil)))))
    (sSeq (whileD ((tTst (eBin dNe (eVar 2) ((eLst ((lLst aNil))))))) (sSeq (sAsg ((eMO 2 mPopAt (aCons ((eCallN 2 f__law_take (rLendC 0 (rCons ((eLenO 2)) rNil)))) aNil))) (gN 4))
    (sSeq (sAsg ((eMO 2 mPopAt (aCons ((eCallN 2 f__law_take (rLendC 0 (rCons ((eLenO 2)) rNil)))) aNil))) (gN 5))
    (sSeq (sSetO 3 (eVar 4) (eVar 5))
    (sSetO 3 (eVar 5) (eVar 4))))) FUEL)
    (sRet ((eTup ((aCons ((eIxN 1 (eC (.int 0)))) (aCons ((eTupO 3)) aNil)))))))))
def f__law_mated : Df := bodyF 6 b__law_mated
def b_is_mark : DS :=
    (sSeq (sIf ((tTst (eBin dIs (eVar 0) (eC .none)))) (sRet (eC (.bool true))) sNx)
    (sSeq (sIf ((tOrD ((tNotD ((tTst (eIsi "str" (eVar 0)))))) ((tOrD ((tTst (eBin dLt ((eCB fLen (aCons (eVar 0) aNil))) (eC (.int 1))))) ((tTst (eBin dGt ((eCB fLen (aCons (eVar 0) aNil))) (eC (.int 8))))))))) (sRet (eC (.bool false))) sNx)
    (sRet ((eCB fAll (aCons ((eLst ((lComp (iSeq (eVar 0)) (gN 1) tYesD ((eBin dIn (eVar 1) (eC (.str "abcdefghijklmnopqrstuvwxyz")))) [1])))) aNil))))))
def f_is_mark : Df := bodyF 2 b_is_mark
def b__law_no_marks : DS :=
    (sSeq (sAsg ((eCallN 2 f__law_take (rLendC 0 (rCons ((eCB fLen (aCons (eVar 1) aNil))) rNil)))) (gN 2))
    (sSeq (sAsg ((eBin dIx ((eLst ((lLst (aCons (eC (.str "")) (aCons ((eBin dMul (eC (.str "a")) (eC (.int 9)))) (aCons (eC (.str "A")) (aCons (eC (.str "a b")) (aCons (eC (.str "ab1")) (aCons (eC (.int 7)) (aCons (eC (.bool true)) (aCons ((eTup ((aCons (eC (.str "a")) aNil)))) (aCons ((eLst ((lLst (aCons (eC (.str "a")) aNil))))) (aCons (eC (.str "a\n")) aNil)))))))))))))) ((eCallN 2 f__law_take (rLendC 0 (rCons (eC (.int 10)) rNil)))))) (gN 3))
    (sSeq (sAsg ((eLst ((lLst (aCons ((eSl (eVar 1) (.of (eC (.int 1))) .no)) (aCons ((eBin dAdd (eVar 1) ((eTup ((aCons (eC .none) aNil)))))) (aCons ((eLst ((eCL fList (aCons (eVar 1) aNil))))) (aCons (eC .none) (aCons (eC (.str "a")) (aCons ((eBin dAdd ((eBin dAdd ((eSl (eVar 1) .no (.of (eVar 2)))) ((eTup ((aCons (eVar 3) aNil)))))) ((eSl (eVar 1) (.of ((eBin dAdd (eVar 2) (eC (.int 1))))) .no)))) aNil)))))))))) (gN 4))
    (sRet ((eIxN 4 ((eCB fMin (aCons (eC (.int 5)) (aCons ((eCallN 2 f__law_take (rLendC 0 (rCons (eC (.int 9)) rNil)))) aNil))))))))))
def f__law_no_marks : Df := bodyF 5 b__law_no_marks
def b__law_name : DS :=
    (sSeq (sAsg (eC (.str "abcdefghijklmnopqrst")) (gN 1))
    (sRet ((eBin dAdd ((eBin dAdd (eC (.str "m")) ((eIxN 1 ((eBin dFdiv (eVar 0) (eC (.int 20)))))))) ((eIxN 1 ((eBin dMod (eVar 0) (eC (.int 20))))))))))
def f__law_name : Df := bodyF 2 b__law_name
def b__law_is_mark : DS :=
    (sSeq (sIf ((tTst (eBin dIs (eVar 0) (eC .none)))) (sRet (eC (.bool true))) sNx)
    (sSeq (sIf ((tOrD ((tNotD ((tTst (eIsi "str" (eVar 0)))))) ((tOrD ((tTst (eBin dLt ((eCB fLen (aCons (eVar 0) aNil))) (eC (.int 1))))) ((tTst (eBin dGt ((eCB fLen (aCons (eVar 0) aNil))) (eC (.int 8))))))))) (sRet (eC (.bool false))) sNx)
    (sRet ((eBin dEq ((eLst ((lComp (iSeq (eVar 0)) (gN 1) (tTst (eBin dNotIn (eVar 1) (eC (.str "abcdefghijklmnopqrstuvwxyz")))) (eVar 1) [1])))) ((eLst ((lLst aNil)))))))))
def f__law_is_mark : Df := bodyF 2 b__law_is_mark
def b__wall : DS :=
    (whileD ((tTru (eC (.bool true)))) sNx FUEL)
def f__wall : Df := bodyF 1 b__wall
def b__law_turned : DS :=
    (sSeq (sAsg ((eBin dIx ((eIxN 0 (eC (.int 1)))) (eVar 1))) (gN 2))
    (sSeq (sAsg ((eCallN 2 f__law_patch (rCons (eVar 0) (rCons (eVar 1) rNil)))) (gN 3))
    (sSeq (sIf ((tOrD ((tTst (eBin dIs (eVar 2) (eC .none)))) ((tOrD ((tTst (eBin dIn (eVar 2) (eVar 3)))) ((tOrD ((tTst (eBin dNe ((eCB fLen (aCons (eVar 3) aNil))) (eC (.int 3))))) ((tTst (eBin dNe ((eCB fLen (aCons ((eCallN 2 f__law_patch (rCons (eVar 0) (rCons (eVar 2) rNil)))) aNil))) (eC (.int 3))))))))))) (sRet (eC .none)) sNx)
    (sSeq (sAsg ((eCallN 2 f__law_patch (rCons (eVar 0) (rCons (eVar 2) rNil)))) (gN 4))
    (sSeq (sAsgL 5 (eCL fList (aCons ((eIxN 0 (eC (.int 0)))) aNil)))
    (sSeq (sFor (iSeq ((eLst ((lLst (aCons ((eTup ((aCons (eVar 1) (aCons ((eIxN 3 (eC (.int 2)))) (aCons ((eIxN 4 (eC (.int 1)))) aNil)))))) (aCons ((eTup ((aCons (eVar 2) (aCons ((eIxN 4 (eC (.int 2)))) (aCons ((eIxN 3 (eC (.int 1)))) aNil)))))) aNil))))))) (gN 6) (sFor (iRng1 (aCons (eC (.int 3)) aNil)) (gN 7) (sSetO 5 ((eIxN 6 ((eBin dSub (eVar 7) (eC (.int 1)))))) ((eIxN 6 (eVar 7))))))
    (sRet ((eTup ((aCons ((eTupO 5)) (aCons ((eIxN 0 (eC (.int 1)))) aNil))))))))))))
def f__law_turned : Df := bodyF 8 b__law_turned
def b__law_gone : DS :=
    (sSeq (sFor (iSeq (eVar 1)) (gN 2) (sSeq (sAsg ((eCallN 2 f__law_turned (rCons (eVar 0) (rCons (eVar 2) rNil)))) (gN 0))
    (sIf ((tTst (eBin dIs (eVar 0) (eC .none)))) (sRet (eC .none)) sNx)))
    (sRet (eVar 0)))
def f__law_gone : Df := bodyF 3 b__law_gone
def b__law_refusal : DS :=
    (sSeq (sIf ((tNotD ((tTst (eChain dLe dLt (eC (.int 0)) (eVar 1) ((eCB fLen (aCons ((eIxN 0 (eC (.int 0)))) aNil)))))))) (sRet (eC (.str "NoHalf+"))) sNx)
    (sSeq (sAsg ((eBin dIx ((eIxN 0 (eC (.int 1)))) (eVar 1))) (gN 2))
    (sSeq (sIf ((tTst (eBin dIs (eVar 2) (eC .none)))) (sRet (eC (.str "Harm+rim"))) sNx)
    (sSeq (sIf ((tTst (eBin dIn (eVar 2) ((eCallN 2 f__law_patch (rCons (eVar 0) (rCons (eVar 1) rNil))))))) (sRet (eC (.str "Harm+one"))) sNx)
    (sRet (eC (.str "Harm+three")))))))
def f__law_refusal : Df := bodyF 3 b__law_refusal
def b_number_of : DS :=
    (sSeq (sIf ((tOrD ((tTst (eBin dLt ((eCB fLen (aCons (eVar 0) aNil))) (eC (.int 1))))) ((tOrD ((tTst (eBin dGt ((eCB fLen (aCons (eVar 0) aNil))) (eC (.int 9))))) ((tAndD ((tTst (eBin dEq ((eIxN 0 (eC (.int 0)))) (eC (.str "0"))))) ((tTst (eBin dNe (eVar 0) (eC (.str "0"))))))))))) (sRet (eC .none)) sNx)
    (sSeq (sIf ((tNotD ((tTst (eCB fAll (aCons ((eLst ((lComp (iSeq (eVar 0)) (gN 1) tYesD ((eBin dIn (eVar 1) (eC (.str "0123456789")))) [1])))) aNil)))))) (sRet (eC .none)) sNx)
    (sRet ((eCB fInt (aCons (eVar 0) aNil))))))
def f_number_of : Df := bodyF 2 b_number_of
end LW
/- part K16P -/
set_option Elab.async false
set_option linter.all false
set_option maxRecDepth 100000
set_option maxHeartbeats 4000000
namespace K16
open PySem L2 DL LW
def b__law_bent : DS :=
    (sSeq (sAsg ((eCallN 2 f__law_take (rLendC 0 (rCons ((eCB fLen (aCons (eVar 1) aNil))) rNil)))) (gN 2))
    (sSeq (sAsg ((eCallN 2 f__law_take (rLendC 0 (rCons (eC (.int 7)) rNil)))) (gN 3))
    (sSeq (sIf ((tTst (eBin dEq (eVar 3) (eC (.int 0))))) (sRet ((eBin dAdd ((eSl (eVar 1) .no (.of (eVar 2)))) ((eSl (eVar 1) (.of ((eBin dAdd (eVar 2) (eC (.int 1))))) .no))))) sNx)
    (sSeq (sIf ((tTst (eBin dEq (eVar 3) (eC (.int 1))))) (sRet ((eBin dAdd ((eBin dAdd ((eSl (eVar 1) .no (.of (eVar 2)))) ((eTup ((aCons ((eIxN 1 (eVar 2))) aNil)))))) ((eSl (eVar 1) (.of (eVar 2)) .no))))) sNx)
    (sSeq (sIf ((tTst (eBin dEq (eVar 3) (eC (.int 2))))) (sRet ((eLst ((eCL fList (aCons (eVar 1) aNil)))))) sNx)
    (sSeq (sIf ((tTst (eBin dEq (eVar 3) (eC (.int 3))))) (sSeq (sAsg ((eLst ((lLst (aCons (eC (.str "")) (aCons (eC (.str "Cut")) (aCons (eC (.str "cuts")) (aCons (eC (.str "cu")) (aCons (eC (.str "mark")) (aCons (eC (.str "undo")) (aCons (eC (.str "splitt")) (aCons (eC (.str "merged")) (aCons (eC (.str "turned")) aNil))))))))))))) (gN 4))
    (sRet ((eBin dAdd ((eTup ((aCons ((eIxN 4 ((eCallN 2 f__law_take (rLendC 0 (rCons (eC (.int 9)) rNil)))))) aNil)))) ((eSl (eVar 1) (.of (eC (.int 1))) .no)))))) sNx)
    (sSeq (sIf ((tTst (eBin dEq (eVar 3) (eC (.int 4))))) (sRet ((eBin dAdd ((eTup ((aCons ((eBin dIx ((eCall0 f__law_words)) ((eCallN 2 f__law_take (rLendC 0 (rCons (eC (.int 15)) rNil)))))) aNil)))) ((eSl (eVar 1) (.of (eC (.int 1))) .no))))) sNx)
    (sRet ((eBin dAdd ((eBin dAdd ((eSl (eVar 1) .no (.of (eVar 2)))) ((eTup ((aCons ((eCallN 1 f__law_odd (rLendC 0 rNil))) aNil)))))) ((eSl (eVar 1) (.of ((eBin dAdd (eVar 2) (eC (.int 1))))) .no))))))))))))
def f__law_bent : Df := bodyF 5 b__law_bent
def b_law : DS :=
    (sSeq (sFor (iRng1 (aCons ((eBin dAdd (eC (.int 1)) ((eCB fMin (aCons ((eCB fLen (aCons (eVar 0) aNil))) (aCons (eC (.int 40)) aNil)))))) aNil)) (gN 1) (sSeq (sAsgL 2 (lCallN 2 f__law_bag (rCons (eVar 0) (rCons (eVar 1) rNil))))
    (sFor (iSeq ((eCall0 f__law_words))) (gN 3) (sSeq (sAsg ((eCB fTup (aCons ((eLst ((lComp (iRng1 (aCons ((eBin dAdd (eC (.int 1)) ((eCB fInt (aCons ((eBin dIn (eVar 3) ((eLst ((lLst (aCons (eC (.str "cut")) (aCons (eC (.str "part")) (aCons (eC (.str "sew")) aNil))))))))) aNil))))) aNil)) (gN 8) tYesD ((eBin dSub ((eCallN 2 f__law_take (rLendC 2 (rCons (eC (.int 500)) rNil)))) (eC (.int 40)))) [8])))) aNil))) (gN 4))
    (sSeq (sAsg ((eBin dAdd ((eTup ((aCons (eVar 3) aNil)))) (eVar 4))) (gN 5))
    (sSeq (sIf ((tTst (eBin dIsnt ((eCallN 1 f_is_deed (rCons (eVar 5) rNil))) (eC (.bool true))))) (sRet (eC (.bool false))) sNx)
    (sFor (iSeq ((eTup ((aCons ((eCallN 2 f__law_bent (rLendC 2 (rCons (eVar 5) rNil)))) (aCons ((eCallN 1 f__law_odd (rLendC 2 rNil))) aNil)))))) (gN 6) (sSeq (sAsg ((eCallN 1 f_is_deed (rCons (eVar 6) rNil))) (gN 7))
    (sIf ((tOrD ((tNotD ((tTst (eIsi "bool" (eVar 7)))))) ((tTst (eBin dNe (eVar 7) ((eCallN 1 f__law_is_deed (rCons (eVar 6) rNil)))))))) (sRet (eC (.bool false))) sNx)))))))))
    (sRet (eC (.bool true))))
def f_law : Df := bodyF 9 b_law
end K16
/- part K16W -/
set_option Elab.async false
set_option linter.all false
set_option maxRecDepth 100000
set_option maxHeartbeats 4000000
namespace K16
open PySem L2 DL LW
/-! ### the text -/
def topS (i : Nat) : Stmt := PySem.Challenge.pw_halfseams_k16_what_is_a_deed.main.body.getD i (.Pass ⟨0, 0, 0, 0⟩)
abbrev s_is_whole : Stmt := topS 1
abbrev N_is_whole : List Str := ["thing"]
abbrev P_is_whole : List Str := ["thing"]
abbrev s_is_deed : Stmt := topS 5
abbrev N_is_deed : List Str := ["thing", "number"]
abbrev P_is_deed : List Str := ["thing"]
abbrev s__law_take : Stmt := topS 9
abbrev N__law_take : List Str := ["bag", "many", "found"]
abbrev P__law_take : List Str := ["bag", "many"]
abbrev s__law_odd : Stmt := topS 7
abbrev N__law_odd : List Str := ["bag", "some"]
abbrev P__law_odd : List Str := ["bag"]
abbrev s__law_bag : Stmt := topS 8
abbrev N__law_bag : List Str := ["script", "k", "cell"]
abbrev P__law_bag : List Str := ["script", "k"]
abbrev s__law_words : Stmt := topS 10
abbrev N__law_words : List Str := ["words"]
abbrev P__law_words : List Str := []
abbrev s__law_is_deed : Stmt := topS 11
abbrev N__law_is_deed : List Str := ["thing", "many", "one"]
abbrev P__law_is_deed : List Str := ["thing"]
abbrev s__law_bent : Stmt := topS 12
abbrev N__law_bent : List Str := ["bag", "deed", "at", "way", "words"]
abbrev P__law_bent : List Str := ["bag", "deed"]
abbrev s_law : Stmt := topS 13
abbrev N_law : List Str := ["script", "k", "bag", "word", "numbers", "deed", "thing", "found", "j"]
abbrev P_law : List Str := ["script"]
structure Txt (K : PySem.W.Frag) (mg : Str → Option Value) : Prop where
  d_is_whole : ∃ fd, FnT K "is_whole" s_is_whole fd
  g_is_whole : mg "is_whole" = some (.ref (He.ga K "is_whole"))
  d_is_deed : ∃ fd, FnT K "is_deed" s_is_deed fd
  g_is_deed : mg "is_deed" = some (.ref (He.ga K "is_deed"))
  d__law_take : ∃ fd, FnT K "_law_take" s__law_take fd
  g__law_take : mg "_law_take" = some (.ref (He.ga K "_law_take"))
  d__law_odd : ∃ fd, FnT K "_law_odd" s__law_odd fd
  g__law_odd : mg "_law_odd" = some (.ref (He.ga K "_law_odd"))
  d__law_bag : ∃ fd, FnT K "_law_bag" s__law_bag fd
  g__law_bag : mg "_law_bag" = some (.ref (He.ga K "_law_bag"))
  d__law_words : ∃ fd, FnT K "_law_words" s__law_words fd
  g__law_words : mg "_law_words" = some (.ref (He.ga K "_law_words"))
  d__law_is_deed : ∃ fd, FnT K "_law_is_deed" s__law_is_deed fd
  g__law_is_deed : mg "_law_is_deed" = some (.ref (He.ga K "_law_is_deed"))
  d__law_bent : ∃ fd, FnT K "_law_bent" s__law_bent fd
  g__law_bent : mg "_law_bent" = some (.ref (He.ga K "_law_bent"))
  d_law : ∃ fd, FnT K "law" s_law fd
  g_law : mg "law" = some (.ref (He.ga K "law"))
  n_all : mg "all" = none
  n_bool : mg "bool" = none
  n_int : mg "int" = none
  n_isinstance : mg "isinstance" = none
  n_len : mg "len" = none
  n_list : mg "list" = none
  n_min : mg "min" = none
  n_range : mg "range" = none
  n_str : mg "str" = none
  n_tuple : mg "tuple" = none
  c_ONES : GloT K mg "ONES" c_ONES
  c_TWOS : GloT K mg "TWOS" c_TWOS
section
variable {P : Program} {w : World} {K : PySem.W.Frag} {mg : Str → Option Value} {base : Heap}
theorem sc_is_whole : FnScope N_is_whole P_is_whole (defScope s_is_whole) := ⟨rfl, rfl, rfl, by decide +kernel, rfl, by decide +kernel, by decide +kernel⟩
theorem ok_is_whole (T : Txt K mg)  : Cal P w K mg base 1 "is_whole" 1 f_is_whole := by
  refine cal_of (k := 0) T.d_is_whole T.g_is_whole sc_is_whole (by decide) (fun _ _ _ _ _ _ us hl => match us, hl with | [_], _ => rfl) fun cdv A outer s H E hr => ?_
  have nd := sc_is_whole.nd
  have tk := fun σ => passAt (takes_of (X := cxOf (L2.CX P w) P w K mg base N_is_whole "is_whole" (defScope s_is_whole) (He.ga K "is_whole") cdv A outer s H E) (E := E) rfl rfl rfl rfl) σ
  have hp : PassesOwn (model P w) _ _ (cxOf (L2.CX P w) P w K mg base N_is_whole "is_whole" (defScope s_is_whole) (He.ga K "is_whole") cdv A outer s H E).xe := passes_of (X := cxOf (L2.CX P w) P w K mg base N_is_whole "is_whole" (defScope s_is_whole) (He.ga K "is_whole") cdv A outer s H E) rfl
  exact (css_one (cs_ret (ce_and (ce_isi "int" (by decide +kernel) T.n_int T.n_isinstance (ce_var 0)) (ce_one (ce_not (ce_isi "bool" (by decide +kernel) T.n_bool T.n_isinstance (ce_var 0)))))))
theorem sc_is_deed : FnScope N_is_deed P_is_deed (defScope s_is_deed) := ⟨rfl, rfl, rfl, by decide +kernel, rfl, by decide +kernel, by decide +kernel⟩
theorem ok_is_deed (T : Txt K mg) (c_is_whole : Cal P w K mg base 1 "is_whole" 1 f_is_whole) : Cal P w K mg base 2 "is_deed" 1 f_is_deed := by
  refine cal_of (k := 1) T.d_is_deed T.g_is_deed sc_is_deed (by decide) (fun _ _ _ _ _ _ us hl => match us, hl with | [_], _ => rfl) fun cdv A outer s H E hr => ?_
  have nd := sc_is_deed.nd
  have tk := fun σ => passAt (takes_of (X := cxOf (L2.CX P w) P w K mg base N_is_deed "is_deed" (defScope s_is_deed) (He.ga K "is_deed") cdv A outer s H E) (E := E) rfl rfl rfl rfl) σ
  have hp : PassesOwn (model P w) _ _ (cxOf (L2.CX P w) P w K mg base N_is_deed "is_deed" (defScope s_is_deed) (He.ga K "is_deed") cdv A outer s H E).xe := passes_of (X := cxOf (L2.CX P w) P w K mg base N_is_deed "is_deed" (defScope s_is_deed) (He.ga K "is_deed") cdv A outer s H E) rfl
  exact (css_cons (cs_if (ct_w (cw_or (ct_not (ct_val (ce_isi "tuple" (by decide +kernel) T.n_tuple T.n_isinstance (ce_var 0)))) (cw_or (ct_cmp op_lt od_lt (ce_cb cd_len cr_lenA (by rfl) T.n_len PySem.boot_len (ca_cons (ce_var 0) ca_nil)) ce_int (nomark _)) (cw_or1 (ct_not (ct_val (ce_isi "str" (by decide +kernel) T.n_str T.n_isinstance (ce_ixN 0 ce_int (fun _ _ => rfl))))))))) (css_one (cs_ret ce_bool)) css_nil)
    (css_cons (cs_if (ct_not (ct_val (ce_cb cd_all (cr_all rfl) (by rfl) T.n_all (by decide +kernel) (ca_cons (ce_lst (cl_comp rfl nd (own := [("number", 1)]) (ci_seq (ce_sl (ce_var 0) (co_some ce_int) co_none)) (blkOk_by (own := [("number", 1)]) (N := N_is_deed) (sc := defScope s_is_deed) (by decide +kernel)) (fun _ _ _ _ _ => (cg_name (i := 1) nd)) (fun _ _ _ _ _ => cts_nil) (fun _ _ _ _ _ => (ce_callC c_is_whole hr (by decide) passF (cr_cons (ce_var 1) cr_nil))))) ca_nil)))) (css_one (cs_ret ce_bool)) css_nil)
    (css_one (cs_ret (ce_or (ce_and (ce_cmp op_in_seq od_in (ce_ixN 0 ce_int (fun _ _ => rfl)) (ce_globT2 T.c_ONES) (by rfl)) (ce_one (ce_cmp (op_eqD hr.units) od_eq (ce_cb cd_len cr_lenA (by rfl) T.n_len PySem.boot_len (ca_cons (ce_var 0) ca_nil)) ce_int (nomark _)))) (ce_one (ce_and (ce_cmp op_in_seq od_in (ce_ixN 0 ce_int (fun _ _ => rfl)) (ce_globT2 T.c_TWOS) (by rfl)) (ce_one (ce_cmp (op_eqD hr.units) od_eq (ce_cb cd_len cr_lenA (by rfl) T.n_len PySem.boot_len (ca_cons (ce_var 0) ca_nil)) ce_int (nomark _))))))))))
theorem sc__law_take : FnScope N__law_take P__law_take (defScope s__law_take) := ⟨rfl, rfl, rfl, by decide +kernel, rfl, by decide +kernel, by decide +kernel⟩
theorem ok__law_take (T : Txt K mg)  : Cal P w K mg base 1 "_law_take" 2 f__law_take := by
  refine cal_of (k := 0) T.d__law_take T.g__law_take sc__law_take (by decide) (fun _ _ _ _ _ _ us hl => match us, hl with | [_, _], _ => rfl) fun cdv A outer s H E hr => ?_
  have nd := sc__law_take.nd
  have tk := fun σ => passAt (takes_of (X := cxOf (L2.CX P w) P w K mg base N__law_take "_law_take" (defScope s__law_take) (He.ga K "_law_take") cdv A outer s H E) (E := E) rfl rfl rfl rfl) σ
  have hp : PassesOwn (model P w) _ _ (cxOf (L2.CX P w) P w K mg base N__law_take "_law_take" (defScope s__law_take) (He.ga K "_law_take") cdv A outer s H E).xe := passes_of (X := cxOf (L2.CX P w) P w K mg base N__law_take "_law_take" (defScope s__law_take) (He.ga K "_law_take") cdv A outer s H E) rfl
  exact (css_cons (cs_if (ct_cmp op_gt od_gt (ce_ixN 0 ce_int (fun _ _ => rfl)) ce_int (nomark _)) (css_cons (cs_set (i := 2) nd (ce_bin op_mod od_mod (ce_ixN 0 ce_int (fun _ _ => rfl)) (ce_var 1)))
    (css_cons (cs_setO 0 ce_int (ce_bin op_fdivW od_fdiv (ce_ixN 0 ce_int (fun _ _ => rfl)) (ce_var 1)))
    (css_one (cs_ret (ce_var 2))))) css_nil)
    (css_cons (cs_setO 0 ce_int (ce_bin op_mod od_mod (ce_bin op_mulA od_mul (ce_ixN 0 ce_int (fun _ _ => rfl)) ce_int) ce_int))
    (css_one (cs_ret (ce_bin op_mod od_mod (ce_bin op_fdivW od_fdiv (ce_bin op_mod od_mod (ce_bin op_mulA od_mul (ce_ixN 0 ce_int (fun _ _ => rfl)) (ce_ixN 0 ce_int (fun _ _ => rfl))) ce_int) ce_int) (ce_var 1))))))
theorem sc__law_odd : FnScope N__law_odd P__law_odd (defScope s__law_odd) := ⟨rfl, rfl, rfl, by decide +kernel, rfl, by decide +kernel, by decide +kernel⟩
theorem ok__law_odd (T : Txt K mg) (c__law_take : Cal P w K mg base 1 "_law_take" 2 f__law_take) : Cal P w K mg base 2 "_law_odd" 1 f__law_odd := by
  refine cal_of (k := 1) T.d__law_odd T.g__law_odd sc__law_odd (by decide) (fun _ _ _ _ _ _ us hl => match us, hl with | [_], _ => rfl) fun cdv A outer s H E hr => ?_
  have nd := sc__law_odd.nd
  have tk := fun σ => passAt (takes_of (X := cxOf (L2.CX P w) P w K mg base N__law_odd "_law_odd" (defScope s__law_odd) (He.ga K "_law_odd") cdv A outer s H E) (E := E) rfl rfl rfl rfl) σ
  have hp : PassesOwn (model P w) _ _ (cxOf (L2.CX P w) P w K mg base N__law_odd "_law_odd" (defScope s__law_odd) (He.ga K "_law_odd") cdv A outer s H E).xe := passes_of (X := cxOf (L2.CX P w) P w K mg base N__law_odd "_law_odd" (defScope s__law_odd) (He.ga K "_law_odd") cdv A outer s H E) rfl
  exact (css_cons (cs_set (i := 1) nd (ce_lst (cl_lst (ca_cons ce_neg (ca_cons ce_int (ca_cons ce_int (ca_cons ce_int (ca_cons ce_int (ca_cons ce_int (ca_cons ce_bool (ca_cons ce_bool (ca_cons ce_none (ca_cons ce_str (ca_cons ce_str (ca_cons (ce_tup ca_nil) (ca_cons (ce_tup (ca_cons ce_int ca_nil)) (ca_cons (ce_tup (ca_cons ce_none ca_nil)) (ca_cons (ce_tup (ca_cons (ce_tup (ca_cons ce_int ca_nil)) (ca_cons (ce_tup (ca_cons ce_none ca_nil)) ca_nil))) (ca_cons (ce_tup (ca_cons (ce_tup (ca_cons ce_int ca_nil)) (ca_cons (ce_tup (ca_cons ce_int ca_nil)) ca_nil))) (ca_cons (ce_lst (cl_lst (ca_cons ce_int ca_nil))) ca_nil))))))))))))))))))))
    (css_cons (cs_set (i := 1) nd (ce_lst (cl_bin op_catR ol_cat (ce_var 1) (ce_lst (cl_lst (ca_cons (ce_tup (ca_cons (ce_tup ca_nil) (ca_cons (ce_tup ca_nil) ca_nil))) (ca_cons (ce_tup (ca_cons (ce_lst (cl_lst (ca_cons ce_int ca_nil))) (ca_cons (ce_tup (ca_cons ce_none ca_nil)) ca_nil))) (ca_cons (ce_tup (ca_cons (ce_tup (ca_cons ce_int ca_nil)) (ca_cons (ce_lst (cl_lst (ca_cons ce_none ca_nil))) ca_nil))) (ca_cons (ce_tup (ca_cons (ce_tup (ca_cons ce_int (ca_cons ce_int ca_nil))) (ca_cons (ce_tup (ca_cons ce_int (ca_cons ce_int ca_nil))) ca_nil))) (ca_cons (ce_tup (ca_cons (ce_tup (ca_cons ce_int (ca_cons ce_int ca_nil))) (ca_cons (ce_tup (ca_cons ce_int (ca_cons ce_int ca_nil))) ca_nil))) (ca_cons (ce_tup (ca_cons (ce_tup (ca_cons ce_int (ca_cons ce_int ca_nil))) (ca_cons (ce_tup (ca_cons ce_int ca_nil)) ca_nil))) ca_nil)))))))))))
    (css_one (cs_ret (ce_ixN 1 (ce_callC c__law_take hr (by decide) tk (cr_lend 0 (cr_cons (ce_cb cd_len cr_lenA (by rfl) T.n_len PySem.boot_len (ca_cons (ce_var 1) ca_nil)) cr_nil))) (fun _ _ => rfl))))))
theorem sc__law_bag : FnScope N__law_bag P__law_bag (defScope s__law_bag) := ⟨rfl, rfl, rfl, by decide +kernel, rfl, by decide +kernel, by decide +kernel⟩
theorem ok__law_bag (T : Txt K mg)  : Cal P w K mg base 1 "_law_bag" 2 f__law_bag := by
  refine cal_of (k := 0) T.d__law_bag T.g__law_bag sc__law_bag (by decide) (fun _ _ _ _ _ _ us hl => match us, hl with | [_, _], _ => rfl) fun cdv A outer s H E hr => ?_
  have nd := sc__law_bag.nd
  have tk := fun σ => passAt (takes_of (X := cxOf (L2.CX P w) P w K mg base N__law_bag "_law_bag" (defScope s__law_bag) (He.ga K "_law_bag") cdv A outer s H E) (E := E) rfl rfl rfl rfl) σ
  have hp : PassesOwn (model P w) _ _ (cxOf (L2.CX P w) P w K mg base N__law_bag "_law_bag" (defScope s__law_bag) (He.ga K "_law_bag") cdv A outer s H E).xe := passes_of (X := cxOf (L2.CX P w) P w K mg base N__law_bag "_law_bag" (defScope s__law_bag) (He.ga K "_law_bag") cdv A outer s H E) rfl
  exact (css_cons (cs_set (i := 2) nd ce_int)
    (css_cons (cs_if (ct_cmp op_lt od_lt (ce_var 1) (ce_cb cd_len cr_lenA (by rfl) T.n_len PySem.boot_len (ca_cons (ce_var 0) ca_nil)) (nomark _)) (css_one (cs_set (i := 2) nd (ce_bin op_mod od_mod (ce_ixN 0 (ce_var 1) (fun _ _ => rfl)) (ce_bin op_mulA od_mul (ce_bin op_pow od_pow ce_int ce_int) (ce_bin op_pow od_pow ce_int ce_int))))) css_nil)
    (css_cons (cs_if (ct_cmp op_lt od_lt (ce_var 2) (ce_bin op_pow od_pow ce_int ce_int) (nomark _)) (css_one (cs_retL (cl_lst (ca_cons ce_int (ca_cons (ce_bin op_addA od_add ce_int (ce_bin op_mod od_mod (ce_bin op_addA od_add (ce_bin op_mulA od_mul (ce_var 2) ce_int) (ce_bin op_mulA od_mul ce_int (ce_var 1))) ce_int)) ca_nil))))) css_nil)
    (css_one (cs_retL (cl_lst (ca_cons (ce_var 2) (ca_cons (ce_bin op_addA od_add ce_int (ce_bin op_mod od_mod (ce_bin op_addA od_add (ce_var 2) (ce_var 1)) ce_int)) ca_nil))))))))
theorem sc__law_words : FnScope N__law_words P__law_words (defScope s__law_words) := ⟨rfl, rfl, rfl, by decide +kernel, rfl, by decide +kernel, by decide +kernel⟩
theorem ok__law_words (T : Txt K mg)  : Cal P w K mg base 1 "_law_words" 0 f__law_words := by
  refine cal_of (k := 0) T.d__law_words T.g__law_words sc__law_words (by decide) (fun _ _ _ _ _ _ us hl => match us, hl with | [], _ => rfl) fun cdv A outer s H E hr => ?_
  have nd := sc__law_words.nd
  have tk := fun σ => passAt (takes_of (X := cxOf (L2.CX P w) P w K mg base N__law_words "_law_words" (defScope s__law_words) (He.ga K "_law_words") cdv A outer s H E) (E := E) rfl rfl rfl rfl) σ
  have hp : PassesOwn (model P w) _ _ (cxOf (L2.CX P w) P w K mg base N__law_words "_law_words" (defScope s__law_words) (He.ga K "_law_words") cdv A outer s H E).xe := passes_of (X := cxOf (L2.CX P w) P w K mg base N__law_words "_law_words" (defScope s__law_words) (He.ga K "_law_words") cdv A outer s H E) rfl
  exact (css_cons (cs_set (i := 0) nd (ce_lst (cl_lst (ca_cons ce_str (ca_cons ce_str (ca_cons ce_str (ca_cons ce_str (ca_cons ce_str (ca_cons ce_str (ca_cons ce_str (ca_cons ce_str (ca_cons ce_str (ca_cons ce_str (ca_cons ce_str (ca_cons ce_str (ca_cons ce_str ca_nil))))))))))))))))
    (css_one (cs_ret (ce_lst (cl_bin op_catR ol_cat (ce_var 0) (ce_lst (cl_lst (ca_cons ce_str (ca_cons ce_str ca_nil)))))))))
theorem sc__law_is_deed : FnScope N__law_is_deed P__law_is_deed (defScope s__law_is_deed) := ⟨rfl, rfl, rfl, by decide +kernel, rfl, by decide +kernel, by decide +kernel⟩
theorem ok__law_is_deed (T : Txt K mg) (c__law_words : Cal P w K mg base 1 "_law_words" 0 f__law_words) : Cal P w K mg base 2 "_law_is_deed" 1 f__law_is_deed := by
  refine cal_of (k := 1) T.d__law_is_deed T.g__law_is_deed sc__law_is_deed (by decide) (fun _ _ _ _ _ _ us hl => match us, hl with | [_], _ => rfl) fun cdv A outer s H E hr => ?_
  have nd := sc__law_is_deed.nd
  have tk := fun σ => passAt (takes_of (X := cxOf (L2.CX P w) P w K mg base N__law_is_deed "_law_is_deed" (defScope s__law_is_deed) (He.ga K "_law_is_deed") cdv A outer s H E) (E := E) rfl rfl rfl rfl) σ
  have hp : PassesOwn (model P w) _ _ (cxOf (L2.CX P w) P w K mg base N__law_is_deed "_law_is_deed" (defScope s__law_is_deed) (He.ga K "_law_is_deed") cdv A outer s H E).xe := passes_of (X := cxOf (L2.CX P w) P w K mg base N__law_is_deed "_law_is_deed" (defScope s__law_is_deed) (He.ga K "_law_is_deed") cdv A outer s H E) rfl
  exact (css_cons (cs_if (ct_w (cw_or (ct_not (ct_val (ce_isi "tuple" (by decide +kernel) T.n_tuple T.n_isinstance (ce_var 0)))) (cw_or (ct_cmp (op_eqD hr.units) od_eq (ce_var 0) (ce_tup ca_nil) (nomark _)) (cw_or1 (ct_not (ct_val (ce_isi "str" (by decide +kernel) T.n_str T.n_isinstance (ce_ixN 0 ce_int (fun _ _ => rfl))))))))) (css_one (cs_ret ce_bool)) css_nil)
    (css_cons (cs_set (i := 1) nd (ce_get2 (hu_of hr) (ce_dct (cm_disp (cps_cons ce_str ce_int (cps_cons ce_str ce_int (cps_cons ce_str ce_int cps_nil))))) (ce_ixN 0 ce_int (fun _ _ => rfl)) ce_int))
    (css_cons (cs_if (ct_w (cw_or (ct_cmp op_notIn_seq od_notIn (ce_ixN 0 ce_int (fun _ _ => rfl)) (ce_call0C c__law_words hr (by decide)) (by rfl)) (cw_or1 (ct_cmp (op_neD hr.units) od_ne (ce_cb cd_len cr_lenA (by rfl) T.n_len PySem.boot_len (ca_cons (ce_var 0) ca_nil)) (ce_var 1) (nomark _))))) (css_one (cs_ret ce_bool)) css_nil)
    (css_one (cs_ret (ce_cmp (op_eqD hr.units) od_eq (ce_lst (cl_comp rfl nd (own := [("one", 2)]) (ci_seq (ce_sl (ce_var 0) (co_some ce_int) co_none)) (blkOk_by (own := [("one", 2)]) (N := N__law_is_deed) (sc := defScope s__law_is_deed) (by decide +kernel)) (fun _ _ _ _ _ => (cg_name (i := 2) nd)) (fun _ _ _ _ _ => (cts_one (ct_w (cw_or (ct_not (ct_val (ce_isi "int" (by decide +kernel) T.n_int T.n_isinstance (ce_var 2)))) (cw_or1 (ct_val (ce_isi "bool" (by decide +kernel) T.n_bool T.n_isinstance (ce_var 2)))))))) (fun _ _ _ _ _ => (ce_var 2)))) (ce_lst (cl_lst ca_nil)) (nomark _)))))))
theorem sc__law_bent : FnScope N__law_bent P__law_bent (defScope s__law_bent) := ⟨rfl, rfl, rfl, by decide +kernel, rfl, by decide +kernel, by decide +kernel⟩
theorem ok__law_bent (T : Txt K mg) (c__law_take : Cal P w K mg base 1 "_law_take" 2 f__law_take) (c__law_odd : Cal P w K mg base 2 "_law_odd" 1 f__law_odd) (c__law_words : Cal P w K mg base 1 "_law_words" 0 f__law_words) : Cal P w K mg base 3 "_law_bent" 2 f__law_bent := by
  refine cal_of (k := 2) T.d__law_bent T.g__law_bent sc__law_bent (by decide) (fun _ _ _ _ _ _ us hl => match us, hl with | [_, _], _ => rfl) fun cdv A outer s H E hr => ?_
  have nd := sc__law_bent.nd
  have tk := fun σ => passAt (takes_of (X := cxOf (L2.CX P w) P w K mg base N__law_bent "_law_bent" (defScope s__law_bent) (He.ga K "_law_bent") cdv A outer s H E) (E := E) rfl rfl rfl rfl) σ
  have hp : PassesOwn (model P w) _ _ (cxOf (L2.CX P w) P w K mg base N__law_bent "_law_bent" (defScope s__law_bent) (He.ga K "_law_bent") cdv A outer s H E).xe := passes_of (X := cxOf (L2.CX P w) P w K mg base N__law_bent "_law_bent" (defScope s__law_bent) (He.ga K "_law_bent") cdv A outer s H E) rfl
  exact (css_cons (cs_set (i := 2) nd (ce_callC c__law_take hr (by decide) tk (cr_lend 0 (cr_cons (ce_cb cd_len cr_lenA (by rfl) T.n_len PySem.boot_len (ca_cons (ce_var 1) ca_nil)) cr_nil))))
    (css_cons (cs_set (i := 3) nd (ce_callC c__law_take hr (by decide) tk (cr_lend 0 (cr_cons ce_int cr_nil))))
    (css_cons (cs_if (ct_cmp (op_eqD hr.units) od_eq (ce_var 3) ce_int (nomark _)) (css_one (cs_ret (ce_bin op_addA od_add (ce_sl (ce_var 1) co_none (co_some (ce_var 2))) (ce_sl (ce_var 1) (co_some (ce_bin op_addA od_add (ce_var 2) ce_int)) co_none)))) css_nil)
    (css_cons (cs_if (ct_cmp (op_eqD hr.units) od_eq (ce_var 3) ce_int (nomark _)) (css_one (cs_ret (ce_bin op_addA od_add (ce_bin op_addA od_add (ce_sl (ce_var 1) co_none (co_some (ce_var 2))) (ce_tup (ca_cons (ce_ixN 1 (ce_var 2) (fun _ _ => rfl)) ca_nil))) (ce_sl (ce_var 1) (co_some (ce_var 2)) co_none)))) css_nil)
    (css_cons (cs_if (ct_cmp (op_eqD hr.units) od_eq (ce_var 3) ce_int (nomark _)) (css_one (cs_ret (ce_lst (cl_ct cd_list call_list_of (by rfl) T.n_list (by decide +kernel) (ca_cons (ce_var 1) ca_nil))))) css_nil)
    (css_cons (cs_if (ct_cmp (op_eqD hr.units) od_eq (ce_var 3) ce_int (nomark _)) (css_cons (cs_set (i := 4) nd (ce_lst (cl_lst (ca_cons ce_str (ca_cons ce_str (ca_cons ce_str (ca_cons ce_str (ca_cons ce_str (ca_cons ce_str (ca_cons ce_str (ca_cons ce_str (ca_cons ce_str ca_nil))))))))))))
    (css_one (cs_ret (ce_bin op_addA od_add (ce_tup (ca_cons (ce_ixN 4 (ce_callC c__law_take hr (by decide) tk (cr_lend 0 (cr_cons ce_int cr_nil))) (fun _ _ => rfl)) ca_nil)) (ce_sl (ce_var 1) (co_some ce_int) co_none))))) css_nil)
    (css_cons (cs_if (ct_cmp (op_eqD hr.units) od_eq (ce_var 3) ce_int (nomark _)) (css_one (cs_ret (ce_bin op_addA od_add (ce_tup (ca_cons (ce_ix ix_seq od_ix (ce_call0C c__law_words hr (by decide)) (ce_callC c__law_take hr (by decide) tk (cr_lend 0 (cr_cons ce_int cr_nil))) (fun _ _ => rfl)) ca_nil)) (ce_sl (ce_var 1) (co_some ce_int) co_none)))) css_nil)
    (css_one (cs_ret (ce_bin op_addA od_add (ce_bin op_addA od_add (ce_sl (ce_var 1) co_none (co_some (ce_var 2))) (ce_tup (ca_cons (ce_callC c__law_odd hr (by decide) tk (cr_lend 0 cr_nil)) ca_nil))) (ce_sl (ce_var 1) (co_some (ce_bin op_addA od_add (ce_var 2) ce_int)) co_none)))))))))))
theorem sc_law : FnScope N_law P_law (defScope s_law) := ⟨rfl, rfl, rfl, by decide +kernel, rfl, by decide +kernel, by decide +kernel⟩
theorem ok_law (T : Txt K mg) (c__law_bag : Cal P w K mg base 1 "_law_bag" 2 f__law_bag) (c__law_words : Cal P w K mg base 1 "_law_words" 0 f__law_words) (c_is_deed : Cal P w K mg base 2 "is_deed" 1 f_is_deed) (c__law_bent : Cal P w K mg base 3 "_law_bent" 2 f__law_bent) (c__law_odd : Cal P w K mg base 2 "_law_odd" 1 f__law_odd) (c__law_take : Cal P w K mg base 1 "_law_take" 2 f__law_take) (c__law_is_deed : Cal P w K mg base 2 "_law_is_deed" 1 f__law_is_deed) {fd : FuncData} (F : FnT K "law" s_law fd) : FnOk P w K mg base (L2.CX P w) 4 (He.ga K "law") fd P_law (spD K mg 1 f_law) := by
  refine fn_bodyD (k := 3) F sc_law (by decide) fun cdv A outer s H E hr => ?_
  have nd := sc_law.nd
  have tk := fun σ => passAt (takes_of (X := cxOf (L2.CX P w) P w K mg base N_law "law" (defScope s_law) (He.ga K "law") cdv A outer s H E) (E := E) rfl rfl rfl rfl) σ
  have hp : PassesOwn (model P w) _ _ (cxOf (L2.CX P w) P w K mg base N_law "law" (defScope s_law) (He.ga K "law") cdv A outer s H E).xe := passes_of (X := cxOf (L2.CX P w) P w K mg base N_law "law" (defScope s_law) (He.ga K "law") cdv A outer s H E) rfl
  exact (css_cons (cs_for hp rfl (ci_range1 T.n_range (ca_cons (ce_bin op_addA od_add ce_int (ce_cb cd_min (call_min2 rfl) (by rfl) T.n_min (by decide +kernel) (ca_cons (ce_cb cd_len cr_lenA (by rfl) T.n_len PySem.boot_len (ca_cons (ce_var 0) ca_nil)) (ca_cons ce_int ca_nil)))) ca_nil)) (cg_name (i := 1) nd) (css_cons (cs_setL (i := 2) nd (cl_callC c__law_bag hr (by decide) tk (cr_cons (ce_var 0) (cr_cons (ce_var 1) cr_nil))))
    (css_one (cs_for hp rfl (ci_seq (ce_call0C c__law_words hr (by decide))) (cg_name (i := 3) nd) (css_cons (cs_set (i := 4) nd (ce_ct cd_tup call_tuple_of (by rfl) T.n_tuple (by decide +kernel) (ca_cons (ce_lst (cl_comp rfl nd (own := [("j", 8)]) (ci_range1 T.n_range (ca_cons (ce_bin op_addA od_add ce_int (ce_ct cd_int call_int1 (by rfl) T.n_int (by decide +kernel) (ca_cons (ce_cmp op_in_seq od_in (ce_var 3) (ce_lst (cl_lst (ca_cons ce_str (ca_cons ce_str (ca_cons ce_str ca_nil))))) (by rfl)) ca_nil))) ca_nil)) (blkOk_by (own := [("j", 8)]) (N := N_law) (sc := defScope s_law) (by decide +kernel)) (fun _ _ _ _ _ => (cg_name (i := 8) nd)) (fun _ _ _ _ _ => cts_nil) (fun _ _ _ _ _ => (ce_bin op_sub od_sub (ce_callC c__law_take hr (by decide) passF (cr_lend 2 (cr_cons ce_int cr_nil))) ce_int)))) ca_nil)))
    (css_cons (cs_set (i := 5) nd (ce_bin op_addA od_add (ce_tup (ca_cons (ce_var 3) ca_nil)) (ce_var 4)))
    (css_cons (cs_if (ct_cmp op_isntA od_isnt (ce_callC c_is_deed hr (by decide) tk (cr_cons (ce_var 5) cr_nil)) ce_bool (nomark _)) (css_one (cs_ret ce_bool)) css_nil)
    (css_one (cs_for hp rfl (ci_seq (ce_tup (ca_cons (ce_callC c__law_bent hr (by decide) tk (cr_lend 2 (cr_cons (ce_var 5) cr_nil))) (ca_cons (ce_callC c__law_odd hr (by decide) tk (cr_lend 2 cr_nil)) ca_nil)))) (cg_name (i := 6) nd) (css_cons (cs_set (i := 7) nd (ce_callC c_is_deed hr (by decide) tk (cr_cons (ce_var 6) cr_nil)))
    (css_one (cs_if (ct_w (cw_or (ct_not (ct_val (ce_isi "bool" (by decide +kernel) T.n_bool T.n_isinstance (ce_var 7)))) (cw_or1 (ct_cmp (op_neD hr.units) od_ne (ce_var 7) (ce_callC c__law_is_deed hr (by decide) tk (cr_cons (ce_var 6) cr_nil)) (nomark _))))) (css_one (cs_ret ce_bool)) css_nil))))))))))))
    (css_one (cs_ret ce_bool)))
end
end K16
/- part LP -/
set_option Elab.async false
set_option linter.all false
set_option maxRecDepth 100000
set_option maxHeartbeats 4000000
/-! LP: plain lemmas about the functions on data. -/
namespace LW
open PySem L2 DL
/-! ### loops -/
theorem forD_all {g : DG} {body : DS} (P : Nat → DEnv → Prop) : ∀ (ds : List D) (n : Nat) (env : DEnv), (∀ i d e, ds[i]? = some d → P (n + i) e → ∃ e1 e2, g d e = some e1 ∧ (body e1 = .nx e2 ∨ body e1 = .ct e2) ∧ P (n + i + 1) e2) → P n env → ∃ e, forD g body ds env = .nx e ∧ P (n + ds.length) e
  | [], n, env, _, h0 => ⟨env, rfl, h0⟩
  | d :: ds, n, env, h, h0 => by
    obtain ⟨e1, e2, a, b, c⟩ := h 0 d env rfl h0
    obtain ⟨e, a', b'⟩ := forD_all P ds (n + 1) e2 (fun i d' e' hi hp => by
      have := h (i + 1) d' e' (by simpa using hi) (by rw [show n + (i + 1) = n + 1 + i by omega]; exact hp)
      rw [show n + 1 + i + 1 = n + (i + 1) + 1 by omega]
      exact this) c
    refine ⟨e, ?_, by rw [List.length_cons, show n + (ds.length + 1) = n + 1 + ds.length by omega]; exact b'⟩
    unfold forD
    rw [a]
    rcases b with b | b <;> · simp only [b, Fl.turn]; exact a'
/-- a loop that leaves its slots of one form -/
theorem forD_inv {g : DG} {body : DS} (P : DEnv → Prop) (ds : List D) (env : DEnv) (h : ∀ d e, d ∈ ds → P e → ∃ e1 e2, g d e = some e1 ∧ (body e1 = .nx e2 ∨ body e1 = .ct e2) ∧ P e2) (h0 : P env) : ∃ e, forD g body ds env = .nx e ∧ P e :=
  forD_all (fun _ => P) ds 0 env (fun _ d e hi hp => h d e (List.mem_of_getElem? hi) hp) h0
/-! ### isinstance -/
def isIntD : D → Bool
  | .int _ => true
  | .bool _ => true
  | _ => false
def isBoolD : D → Bool
  | .bool _ => true
  | _ => false
def isStrD : D → Bool
  | .str _ => true
  | _ => false
def isTupD : D → Bool
  | .tuple _ => true
  | _ => false
theorem isi_of {T : String} {d : D} {b : Bool} (h : kitB (tyD d) T = some b) : isiD T d = some (.bool b) := by
  unfold isiD
  rw [h]
  rfl
theorem isi_int (d : D) : isiD "int" d = some (.bool (isIntD d)) := by
  cases d with
  | none => exact isi_of (show kitB "NoneType" "int" = some false by decide +kernel)
  | bool _ => exact isi_of (show kitB "bool" "int" = some true by decide +kernel)
  | int _ => exact isi_of (show kitB "int" "int" = some true by decide +kernel)
  | str _ => exact isi_of (show kitB "str" "int" = some false by decide +kernel)
  | list _ => exact isi_of (show kitB "list" "int" = some false by decide +kernel)
  | tuple _ => exact isi_of (show kitB "tuple" "int" = some false by decide +kernel)
  | dict _ => exact isi_of (show kitB "dict" "int" = some false by decide +kernel)
theorem isi_bool (d : D) : isiD "bool" d = some (.bool (isBoolD d)) := by
  cases d with
  | none => exact isi_of (show kitB "NoneType" "bool" = some false by decide +kernel)
  | bool _ => exact isi_of (show kitB "bool" "bool" = some true by decide +kernel)
  | int _ => exact isi_of (show kitB "int" "bool" = some false by decide +kernel)
  | str _ => exact isi_of (show kitB "str" "bool" = some false by decide +kernel)
  | list _ => exact isi_of (show kitB "list" "bool" = some false by decide +kernel)
  | tuple _ => exact isi_of (show kitB "tuple" "bool" = some false by decide +kernel)
  | dict _ => exact isi_of (show kitB "dict" "bool" = some false by decide +kernel)
theorem isi_str (d : D) : isiD "str" d = some (.bool (isStrD d)) := by
  cases d with
  | none => exact isi_of (show kitB "NoneType" "str" = some false by decide +kernel)
  | bool _ => exact isi_of (show kitB "bool" "str" = some false by decide +kernel)
  | int _ => exact isi_of (show kitB "int" "str" = some false by decide +kernel)
  | str _ => exact isi_of (show kitB "str" "str" = some true by decide +kernel)
  | list _ => exact isi_of (show kitB "list" "str" = some false by decide +kernel)
  | tuple _ => exact isi_of (show kitB "tuple" "str" = some false by decide +kernel)
  | dict _ => exact isi_of (show kitB "dict" "str" = some false by decide +kernel)
theorem isi_tup (d : D) : isiD "tuple" d = some (.bool (isTupD d)) := by
  cases d with
  | none => exact isi_of (show kitB "NoneType" "tuple" = some false by decide +kernel)
  | bool _ => exact isi_of (show kitB "bool" "tuple" = some false by decide +kernel)
  | int _ => exact isi_of (show kitB "int" "tuple" = some false by decide +kernel)
  | str _ => exact isi_of (show kitB "str" "tuple" = some false by decide +kernel)
  | list _ => exact isi_of (show kitB "list" "tuple" = some false by decide +kernel)
  | tuple _ => exact isi_of (show kitB "tuple" "tuple" = some true by decide +kernel)
  | dict _ => exact isi_of (show kitB "dict" "tuple" = some false by decide +kernel)
/-! ### draws -/
def bagL (s : Int × Int) : List D := [.int s.1, .int s.2]
theorem divOk_of {m : Int} (h : 0 < m) (h2 : m < 2 ^ 64) : divOk m = true := by
  unfold divOk
  have h3 : m.natAbs < 2 ^ 64 := by omega
  have h4 : m.natAbs < 2 ^ 4000 := Nat.lt_of_lt_of_le h3 (Nat.pow_le_pow_right (by decide) (by decide))
  rw [decide_eq_true h, decide_eq_true h4]
  rfl
theorem mulOk_r {i j : Int} (h1 : -(2 ^ 64) < j) (h2 : j < 2 ^ 64) : mulOk i j = true := by
  unfold mulOk
  rw [decide_eq_true h1, decide_eq_true h2]
  simp
theorem mulOk_l {i j : Int} (h1 : -(2 ^ 64) < i) (h2 : i < 2 ^ 64) : mulOk i j = true := by
  unfold mulOk
  rw [decide_eq_true h1, decide_eq_true h2]
  simp
/-- a draw: some number below many, whatever the bag holds -/
theorem take_ok (s : Int × Int) (m : Int) (hm : 0 < m) (hm2 : m < 2 ^ 64) : ∃ r s', 0 ≤ r ∧ r < m ∧ f__law_take [.p (bagL s), .v (.int m)] = .ok (.int r) [.p (bagL s'), .no] := by
  have h64 := divOk_of hm hm2
  obtain ⟨x, y⟩ := s
  by_cases hx : 0 < x
  · refine ⟨x % m, (x / m, y), Int.emod_nonneg _ (by omega), Int.emod_lt_of_pos _ hm, ?_⟩
    simp [f__law_take, bodyF, b__law_take, bagL, sSeq, sIf, sAsg, sRet, sSetO, tTst, eBin, eIxN, eC, eVar, known, ixAt, dIx, dGt, dMod, dFdiv, put, Rs.bind, Rs.fl, Fl.seq, gN, setV, getL, putL, atI, ixN, hx, hm, h64, outsOf, outOf]
  · have c1 : mulOk y 48271 = true := mulOk_r (by decide) (by decide)
    have c2 : (0 : Int) < 2147483647 := by decide
    have b1 : 0 ≤ y * 48271 % 2147483647 := Int.emod_nonneg _ (by decide)
    have b2 : y * 48271 % 2147483647 < 2147483647 := Int.emod_lt_of_pos _ (by decide)
    have c3 : mulOk (y * 48271 % 2147483647) (y * 48271 % 2147483647) = true := mulOk_l (by omega) (by omega)
    have c4 : divOk 2147483629 = true := divOk_of (by decide) (by decide)
    have c5 : divOk 64 = true := divOk_of (by decide) (by decide)
    have c0 : decide (0 < x) = false := decide_eq_false hx
    refine ⟨(y * 48271 % 2147483647) * (y * 48271 % 2147483647) % 2147483629 / 64 % m, (x, y * 48271 % 2147483647), Int.emod_nonneg _ (by omega), Int.emod_lt_of_pos _ hm, ?_⟩
    generalize hz : y * 48271 % 2147483647 = z at c3
    simp [f__law_take, bodyF, b__law_take, bagL, sSeq, sIf, sAsg, sRet, sSetO, tTst, eBin, eIxN, eC, eVar, known, ixAt, dIx, dGt, dMod, dFdiv, dMul, put, Rs.bind, Rs.fl, Fl.seq, gN, setV, getL, putL, atI, ixN, c0, c1, c2, c3, c4, c5, hz, hm, h64, outsOf, outOf, sNx]
def T18 : Int := 10 ^ 18
def T120 : Int := 10 ^ 60 * 10 ^ 60
theorem T120_pos : 0 < T120 := by decide +kernel
theorem powOk60 : powOk 10 60 = true := by decide +kernel
theorem powOk18 : powOk 10 18 = true := by decide +kernel
theorem mulOk60 : mulOk ((10 : Int) ^ (60 : Int).toNat) ((10 : Int) ^ (60 : Int).toNat) = true := by decide +kernel
theorem ev18 (env : DEnv) : eBin dPow (eC (.int 10)) (eC (.int 18)) env = .ok (.int T18) env := by
  show put (if powOk 10 18 = true then some (PyData.int ((10 : Int) ^ (18 : Int).toNat)) else none) env = _
  rw [if_pos powOk18]
  rfl
theorem ev60 (env : DEnv) : eBin dPow (eC (.int 10)) (eC (.int 60)) env = .ok (.int ((10 : Int) ^ (60 : Int).toNat)) env := by
  show put (if powOk 10 60 = true then some (PyData.int ((10 : Int) ^ (60 : Int).toNat)) else none) env = _
  rw [if_pos powOk60]
  rfl
theorem ev120 (env : DEnv) : eBin dMul (eBin dPow (eC (.int 10)) (eC (.int 60))) (eBin dPow (eC (.int 10)) (eC (.int 60))) env = .ok (.int T120) env := by
  show ((eBin dPow (eC (.int 10)) (eC (.int 60)) env).bind fun x e1 => (eBin dPow (eC (.int 10)) (eC (.int 60)) e1).bind fun y e2 => put (dMul x y) e2) = _
  rw [ev60, bind_ok, ev60, bind_ok]
  show put (if mulOk ((10 : Int) ^ (60 : Int).toNat) ((10 : Int) ^ (60 : Int).toNat) = true then some (PyData.int ((10 : Int) ^ (60 : Int).toNat * (10 : Int) ^ (60 : Int).toNat)) else none) env = _
  rw [if_pos mulOk60]
  rfl
theorem atI_ints (ns : List Int) {k : Int} (h0 : 0 ≤ k) (h1 : k < (ns.length : Int)) : ∃ v, atI (ns.map PyData.int) k = some (.int v) := by
  obtain ⟨n, rfl⟩ := Int.eq_ofNat_of_zero_le h0
  have hl : n < ns.length := by omega
  exact ⟨ns[n], atI_nat (by simp [hl])⟩
/-- the bag of a cell -/
theorem bag_ok (ns : List Int) (k : Int) (hk : 0 ≤ k) : ∃ s, f__law_bag [.v (scriptD ns), .v (.int k)] = .okl (bagL s) [.no, .no] := by
  have m1 : ∀ c : Int, mulOk c 7919 = true := fun c => mulOk_r (by decide) (by decide)
  have m2 : mulOk 104729 k = true := mulOk_l (by decide) (by decide)
  have m3 : (0 : Int) < 2147483646 := by decide
  by_cases c : k < (ns.length : Int)
  · obtain ⟨v, hv⟩ := atI_ints ns hk c
    by_cases hc : v % T120 < T18
    · refine ⟨(0, 1 + (v % T120 * 7919 + 104729 * k) % 2147483646), ?_⟩
      simp [↓ev18, ↓ev120, f__law_bag, bodyF, b__law_bag, scriptD, sSeq, sIf, sAsg, sRetL, tTst, eBin, eIxN, eC, eVar, known, ixAt, dIx, dLt, dMod, dAdd, dMul, put, Rs.bind, Rs.fl, Fl.seq, gN, setV, eCB, aCons, aNil, fLen, lLst, sNx, c, hv, hc, T120_pos, m1, m2, m3, outsOf, outOf, bagL]
    · refine ⟨(v % T120, 1 + (v % T120 + k) % 2147483646), ?_⟩
      simp [↓ev18, ↓ev120, f__law_bag, bodyF, b__law_bag, scriptD, sSeq, sIf, sAsg, sRetL, tTst, eBin, eIxN, eC, eVar, known, ixAt, dIx, dLt, dMod, dAdd, dMul, put, Rs.bind, Rs.fl, Fl.seq, gN, setV, eCB, aCons, aNil, fLen, lLst, sNx, c, hv, hc, T120_pos, m1, m2, m3, outsOf, outOf, bagL]
  · by_cases hc : 0 < T18
    · refine ⟨(0, 1 + (0 * 7919 + 104729 * k) % 2147483646), ?_⟩
      simp [↓ev18, ↓ev120, f__law_bag, bodyF, b__law_bag, scriptD, sSeq, sIf, sAsg, sRetL, tTst, eBin, eIxN, eC, eVar, known, ixAt, dIx, dLt, dMod, dAdd, dMul, put, Rs.bind, Rs.fl, Fl.seq, gN, setV, eCB, aCons, aNil, fLen, lLst, sNx, c, hc, T120_pos, m1, m2, m3, outsOf, outOf, bagL]
    · exact absurd (by decide +kernel : (0 : Int) < T18) hc
end LW
/- part LE -/
set_option Elab.async false
set_option linter.all false
/-! LE: how each form answers (printed by mkev.py). -/
namespace DL
open PySem L2
theorem eVar_ap (i : Nat) (env : DEnv) : eVar i env = (match env[i]? with
  | some (.v d) => .ok d env
  | some (.l xs) => .ok (.list xs) (env.set i (.v (.list xs)))
  | some (.m xs) => .ok (.dict xs) (env.set i (.v (.dict xs)))
  | _ => .stuck) := rfl
theorem eC_ap (d : D) (env : DEnv) : eC d env = (.ok d env) := rfl
theorem eBin_ap (f : D → D → Option D) (da db : DE) (env : DEnv) : eBin f da db env = ((da env).bind fun x e1 => (db e1).bind fun y e2 => put (f x y) e2) := rfl
theorem eUn_ap (f : D → Option D) (da : DE) (env : DEnv) : eUn f da env = ((da env).bind fun x e1 => put (f x) e1) := rfl
theorem eCB_ap (f : List D → Option D) (da : DA) (env : DEnv) : eCB f da env = ((da env).bind fun xs e1 => put (f xs) e1) := rfl
theorem eCL_ap (f : List D → Option (List D)) (da : DA) (env : DEnv) : eCL f da env = ((da env).bind fun xs e1 => put (f xs) e1) := rfl
theorem aNil_ap  (env : DEnv) : aNil env = (.ok [] env) := rfl
theorem aCons_ap (de : DE) (da : DA) (env : DEnv) : aCons de da env = ((de env).bind fun x e1 => (da e1).bind fun xs e2 => .ok (x :: xs) e2) := rfl
theorem eTup_ap (da : DA) (env : DEnv) : eTup da env = ((da env).bind fun xs e1 => if xs.length ≤ 100000 then .ok (.tuple xs) e1 else .stuck) := rfl
theorem lLst_ap (da : DA) (env : DEnv) : lLst da env = ((da env).bind fun xs e1 => if xs.length ≤ 100000 then .ok xs e1 else .stuck) := rfl
theorem eLst_ap (da : DA) (env : DEnv) : eLst da env = ((da env).bind fun xs e1 => .ok (.list xs) e1) := rfl
theorem tTst_ap (de : DE) (env : DEnv) : tTst de env = ((de env).bind fun d e1 => match d with
  | .bool b => .ok b e1
  | _ => .stuck) := rfl
theorem tTru_ap (de : DE) (env : DEnv) : tTru de env = ((de env).bind fun d e1 => put (truth d) e1) := rfl
theorem tAndD_ap (t u : DT) (env : DEnv) : tAndD t u env = ((t env).bind fun b e1 => if b then u e1 else .ok false e1) := rfl
theorem tOrD_ap (t u : DT) (env : DEnv) : tOrD t u env = ((t env).bind fun b e1 => if b then .ok true e1 else u e1) := rfl
theorem tNotD_ap (t : DT) (env : DEnv) : tNotD t env = ((t env).bind fun b e1 => .ok (!b) e1) := rfl
theorem eIf_ap (t : DT) (da db : DE) (env : DEnv) : eIf t da db env = ((t env).bind fun b e1 => if b then da e1 else db e1) := rfl
theorem eNot_ap (da : DE) (env : DEnv) : eNot da env = ((da env).bind fun x e1 => match x with
  | .bool b => .ok (.bool (!b)) e1
  | _ => .stuck) := rfl
theorem eBinL_ap (f : D → D → Option (List D)) (da db : DE) (env : DEnv) : eBinL f da db env = ((da env).bind fun x e1 => (db e1).bind fun y e2 => put (f x y) e2) := rfl
theorem gN_ap (i : Nat) (d : D) (env : DEnv) : gN i d env = (setV i (.v d) env) := rfl
theorem gT_ap (gs : List DG) (d : D) (env : DEnv) : gT gs d env = (match d with
  | .tuple ds => gsN gs ds env
  | .list ds => gsN gs ds env
  | _ => none) := rfl
theorem sNx_ap  (env : DEnv) : sNx env = (.nx env) := rfl
theorem sSeq_ap (s t : DS) (env : DEnv) : sSeq s t env = ((s env).seq t) := rfl
theorem sAsg_ap (de : DE) (g : DG) (env : DEnv) : sAsg de g env = ((de env).fl fun d e1 => match g d e1 with
  | some e2 => .nx e2
  | none => .stuck) := rfl
theorem sAsgL_ap (i : Nat) (dl : DA) (env : DEnv) : sAsgL i dl env = ((dl env).fl fun xs e1 => match setV i (.l xs) e1 with
  | some e2 => .nx e2
  | none => .stuck) := rfl
theorem sDrop_ap (de : DE) (env : DEnv) : sDrop de env = ((de env).fl fun _ e1 => .nx e1) := rfl
theorem sRet_ap (de : DE) (env : DEnv) : sRet de env = ((de env).fl fun d e1 => .rt d e1) := rfl
theorem sRetL_ap (dl : DA) (env : DEnv) : sRetL dl env = ((dl env).fl fun d e1 => .rl d e1) := rfl
theorem sRetN_ap  (env : DEnv) : sRetN env = (.rt .none env) := rfl
theorem sIf_ap (t : DT) (s u : DS) (env : DEnv) : sIf t s u env = ((t env).fl fun b e1 => if b then s e1 else u e1) := rfl
theorem sBk_ap  (env : DEnv) : sBk env = (.bk env) := rfl
theorem sCt_ap  (env : DEnv) : sCt env = (.ct env) := rfl
theorem sFor_ap (di : DA) (g : DG) (body : DS) (env : DEnv) : sFor di g body env = ((di env).fl fun ds e1 => forD g body ds e1) := rfl
theorem iSeq_ap (de : DE) (env : DEnv) : iSeq de env = ((de env).bind fun d e1 => match d with
  | .list xs => .ok xs e1
  | .tuple xs => .ok xs e1
  | _ => .stuck) := rfl
theorem iRng1_ap (da : DA) (env : DEnv) : iRng1 da env = ((da env).bind fun ds e1 => match int1 ds with
  | some j => if -(2 ^ 62) ≤ j ∧ j < 2 ^ 62 then .ok (rngD 0 j) e1 else .stuck
  | none => .stuck) := rfl
theorem iRng2_ap (da : DA) (env : DEnv) : iRng2 da env = ((da env).bind fun ds e1 => match int2 ds with
  | some (i, j) => if -(2 ^ 62) ≤ i ∧ i < 2 ^ 62 ∧ -(2 ^ 62) ≤ j ∧ j < 2 ^ 62 then .ok (rngD i j) e1 else .stuck
  | none => .stuck) := rfl
theorem tYesD_ap  (env : DEnv) : tYesD env = (.ok true env) := rfl
theorem lComp_ap (di : DA) (g : DG) (t : DT) (e : DE) (vs : List Nat) (env : DEnv) : lComp di g t e vs env = ((di env).bind fun ds e1 =>
  if ds.length ≤ 100000 ∧ noOwn e1 vs = true then match compD g t e vs ds (wipeD e1 vs) with
    | .ok ys e2 => .ok ys (mergeD e1 e2 vs)
    | _ => .stuck
  else .stuck) := rfl
theorem rNil_ap  (env : DEnv) : rNil env = (.ok [] env) := rfl
theorem rCons_ap (de : DE) (da : DAr) (env : DEnv) : rCons de da env = ((de env).bind fun x e1 => (da e1).bind fun xs e2 => .ok (.d x :: xs) e2) := rfl
theorem rLend_ap (i : Nat) (da : DAr) (env : DEnv) : rLend i da env = (if lent i env then (da env).bind fun xs e2 => .ok (.s i :: xs) e2 else .stuck) := rfl
theorem eCall_ap (F : Df) (da : DAr) (env : DEnv) : eCall F da env = ((da env).bind fun as e1 => (callD F as e1).rs) := rfl
theorem lCall_ap (F : Df) (da : DAr) (env : DEnv) : lCall F da env = ((da env).bind fun as e1 => (callD F as e1).rl) := rfl
theorem eCallN_ap (np : Nat) (F : Df) (da : DAr) (env : DEnv) : eCallN np F da env = ((da env).bind fun as e1 => if as.length = np then (callD F as e1).rs else .stuck) := rfl
theorem lCallN_ap (np : Nat) (F : Df) (da : DAr) (env : DEnv) : lCallN np F da env = ((da env).bind fun as e1 => if as.length = np then (callD F as e1).rl else .stuck) := rfl
theorem eIxN_ap (i : Nat) (db : DE) (env : DEnv) : eIxN i db env = (if known i env then (db env).bind fun k e1 => ixAt i k e1 else .stuck) := rfl
theorem sSetO_ap (i : Nat) (dk dv : DE) (env : DEnv) : sSetO i dk dv env = ((dv env).fl fun v e1 => if known i e1 then (dk e1).fl fun k e2 => match getL i e2, k with
  | some xs, .int n => match ixN xs.length n with
    | some j => .nx (putL i (xs.set j v) e2)
    | none => .stuck
  | _, _ => .stuck else .stuck) := rfl
theorem eMO_ap (i : Nat) (f : List D → List D → Option (D × List D)) (da : DA) (env : DEnv) : eMO i f da env = (if (getL i env).isSome then (da env).bind fun args e1 => match getL i e1 with
  | some xs => match f xs args with
    | some (z, ys) => .ok z (putL i ys e1)
    | none => .stuck
  | none => .stuck else .stuck) := rfl
theorem eLenO_ap (i : Nat) (env : DEnv) : eLenO i env = (match getL i env with
  | some xs => .ok (.int xs.length) env
  | none => .stuck) := rfl
theorem eTupO_ap (i : Nat) (env : DEnv) : eTupO i env = (match getL i env with
  | some xs => .ok (.tuple xs) env
  | none => .stuck) := rfl
theorem lListO_ap (i : Nat) (env : DEnv) : lListO i env = (match getL i env with
  | some xs => .ok xs env
  | none => .stuck) := rfl
theorem eSl_ap (de : DE) (lo hi : Pt) (env : DEnv) : eSl de lo hi env = ((de env).bind fun d e1 => (lo.run e1).bind fun l e2 => (hi.run e2).bind fun u e3 => put (dSl d l u) e3) := rfl
theorem eIsi_ap (T : String) (de : DE) (env : DEnv) : eIsi T de env = ((de env).bind fun d e1 => put (isiD T d) e1) := rfl
theorem eChain_ap (f g : D → D → Option D) (da db dc : DE) (env : DEnv) : eChain f g da db dc env = ((da env).bind fun x e1 => (db e1).bind fun y e2 => match f x y with
  | some (.bool true) => (dc e2).bind fun z e3 => put (g y z) e3
  | some (.bool false) => .ok (.bool false) e2
  | _ => .stuck) := rfl
theorem lRep_ap (dl : DA) (dk : DE) (env : DEnv) : lRep dl dk env = ((dl env).bind fun xs e1 => (dk e1).bind fun k e2 => match k with
  | .int n => if -(2 ^ 63) ≤ n ∧ n < 2 ^ 63 ∧ xs.length * n.toNat ≤ 100000 then .ok (repD xs n) e2 else .stuck
  | _ => .stuck) := rfl
theorem lRange1_ap (de : DE) (env : DEnv) : lRange1 de env = ((de env).bind fun d e1 => match d with
  | .int n => if -1000 ≤ n ∧ n ≤ 100000 then .ok (rngD 0 n) e1 else .stuck
  | _ => .stuck) := rfl
theorem eBinPL_ap (f : D → D → Option D) (i : Nat) (db : DE) (env : DEnv) : eBinPL f i db env = (if (getL i env).isSome then (db env).bind fun y e1 => match getL i e1 with
  | some xs => match f (.list xs) y with
    | some z => if flatD z then .ok z e1 else .stuck
    | none => .stuck
  | none => .stuck else .stuck) := rfl
theorem eDct_ap (dm : DM) (env : DEnv) : eDct dm env = ((dm env).bind fun ds e1 => .ok (.dict ds) e1) := rfl
theorem lDict0_ap  (env : DEnv) : lDict0 env = (.ok [] env) := rfl
theorem eGet2_ap (dd dk dx : DE) (env : DEnv) : eGet2 dd dk dx env = ((dd env).bind fun d e1 => match d with
  | .dict ds => (dk e1).bind fun k e2 => (dx e2).bind fun x e3 => put (dGet2 (.dict ds) k x) e3
  | _ => .stuck) := rfl
theorem eCall0_ap (F : Df) (env : DEnv) : eCall0 F env = (match F [] with
  | .ok d _ => .ok d env
  | .okl xs _ => .ok (.list xs) env
  | _ => .stuck) := rfl
theorem rLendC_ap (i : Nat) (da : DAr) (env : DEnv) : rLendC i da env = (if lent i env then (da env).bind fun xs e2 => if lent i e2 then .ok (.s i :: xs) e2 else .stuck else .stuck) := rfl
def np : Sl → Bool
  | .p _ => false
  | _ => true
theorem np_no : np .no = true := rfl
theorem np_v (d : D) : np (.v d) = true := rfl
theorem np_l (d : List D) : np (.l d) = true := rfl
theorem np_m (d : List (D × D)) : np (.m d) = true := rfl
theorem np_p (d : List D) : np (.p d) = false := rfl
def npAt (i : Nat) (env : DEnv) : Bool := match env[i]? with
  | some s => np s
  | none => false
theorem setV_ap (i : Nat) (s : Sl) (env : DEnv) : setV i s env = if npAt i env then some (env.set i s) else none := by
  unfold setV npAt
  cases env[i]? with
  | none => rfl
  | some a => cases a <;> rfl
def boolK (x : D) (a b : Rs D) : Rs D := match x with
  | .bool true => a
  | .bool false => b
  | _ => .stuck
theorem boolK_ap (b : Bool) (s t : Rs D) : boolK (.bool b) s t = if b then s else t := by cases b <;> rfl
theorem eAnd_ap (da db : DE) (env : DEnv) : eAnd da db env = (da env).bind fun x e1 => boolK x (db e1) (.ok (.bool false) e1) := by
  unfold eAnd
  congr 1
theorem eOr_ap (da db : DE) (env : DEnv) : eOr da db env = (da env).bind fun x e1 => boolK x (.ok (.bool true) e1) (db e1) := by
  unfold eOr
  congr 1
theorem seq_nx (e : DEnv) (t : DS) : (Fl.nx e).seq t = t e := rfl
theorem seq_rt (d : D) (e : DEnv) (t : DS) : (Fl.rt d e).seq t = .rt d e := rfl
theorem seq_rl (d : List D) (e : DEnv) (t : DS) : (Fl.rl d e).seq t = .rl d e := rfl
theorem seq_ex (d : Xc) (e : DEnv) (t : DS) : (Fl.ex d e).seq t = .ex d e := rfl
theorem seq_bk (e : DEnv) (t : DS) : (Fl.bk e).seq t = .bk e := rfl
theorem seq_ct (e : DEnv) (t : DS) : (Fl.ct e).seq t = .ct e := rfl
theorem turn_nx (e : DEnv) (t : DS) : (Fl.nx e).turn t = t e := rfl
theorem turn_ct (e : DEnv) (t : DS) : (Fl.ct e).turn t = t e := rfl
theorem turn_bk (e : DEnv) (t : DS) : (Fl.bk e).turn t = .nx e := rfl
theorem turn_rt (d : D) (e : DEnv) (t : DS) : (Fl.rt d e).turn t = .rt d e := rfl
theorem turn_rl (d : List D) (e : DEnv) (t : DS) : (Fl.rl d e).turn t = .rl d e := rfl
theorem turn_ex (d : Xc) (e : DEnv) (t : DS) : (Fl.ex d e).turn t = .ex d e := rfl
theorem forD_nil (g : DG) (b : DS) (env : DEnv) : forD g b [] env = .nx env := rfl
theorem forD_cons (g : DG) (b : DS) (d : D) (ds : List D) (env : DEnv) : forD g b (d :: ds) env = match g d env with
    | none => .stuck
    | some e1 => (b e1).turn (forD g b ds) := rfl
theorem compD_nil (g : DG) (t : DT) (e : DE) (vs : List Nat) (env : DEnv) : compD g t e vs [] env = .ok [] env := rfl
def Fo.thru (as : List Ar) (env : DEnv) : Fo → Fo
  | .ok d outs => .ok d (backD as outs env)
  | .okl xs outs => .okl xs (backD as outs env)
  | .ex x outs => .ex x (backD as outs env)
  | .stuck => .stuck
theorem callD_ap (F : Df) (as : List Ar) (env : DEnv) : callD F as env = if (slotsOf as).Nodup then (F (as.map (toSl env))).thru as env else .stuck := by
  unfold callD
  split
  · cases F (as.map (toSl env)) <;> rfl
  · rfl
theorem rs_ok (d : D) (e : DEnv) : (Fo.ok d e).rs = .ok d e := rfl
theorem rs_okl (d : List D) (e : DEnv) : (Fo.okl d e).rs = .ok (.list d) e := rfl
theorem rs_ex (d : Xc) (e : DEnv) : (Fo.ex d e).rs = .ex d e := rfl
theorem rl_okl (d : List D) (e : DEnv) : (Fo.okl d e).rl = .ok d e := rfl
theorem rl_ex (d : Xc) (e : DEnv) : (Fo.ex d e).rl = .ex d e := rfl
theorem thru_ok (as : List Ar) (env : DEnv) (d : D) (o : DEnv) : (Fo.ok d o).thru as env = .ok d (backD as o env) := rfl
theorem thru_okl (as : List Ar) (env : DEnv) (d : List D) (o : DEnv) : (Fo.okl d o).thru as env = .okl d (backD as o env) := rfl
theorem thru_ex (as : List Ar) (env : DEnv) (d : Xc) (o : DEnv) : (Fo.ex d o).thru as env = .ex d (backD as o env) := rfl
def Fl.out (args : DEnv) : Fl → Fo
  | .nx e => .ok .none (outsOf args e)
  | .rt d e => .ok d (outsOf args e)
  | .rl xs e => .okl xs (outsOf args e)
  | .ex x e => .ex x (outsOf args e)
  | _ => .stuck
theorem bodyF_ap (n : Nat) (ds : DS) (args : DEnv) : bodyF n ds args = (ds (args ++ List.replicate (n - args.length) Sl.no)).out args := by
  unfold bodyF
  cases ds (args ++ List.replicate (n - args.length) Sl.no) <;> rfl
theorem out_nx (args e : DEnv) : (Fl.nx e).out args = .ok .none (outsOf args e) := rfl
theorem out_rt (args e : DEnv) (d : D) : (Fl.rt d e).out args = .ok d (outsOf args e) := rfl
theorem out_rl (args e : DEnv) (d : List D) : (Fl.rl d e).out args = .okl d (outsOf args e) := rfl
theorem out_stuck (args : DEnv) : (Fl.stuck).out args = .stuck := rfl
theorem seq_stuck (t : DS) : (Fl.stuck).seq t = .stuck := rfl
theorem out_ex (args e : DEnv) (d : Xc) : (Fl.ex d e).out args = .ex d (outsOf args e) := rfl
theorem atI_lit (xs : List D) (n : Nat) : atI xs (no_index (OfNat.ofNat n : Int)) = xs[n]? := by
  show atI xs (n : Int) = _
  cases q : xs[n]? with
  | some x => exact atI_nat q
  | none =>
    have : ¬ n < xs.length := by
      intro h
      rw [List.getElem?_eq_getElem h] at q
      cases q
    unfold atI ixN
    simp
    omega
theorem dIx_tup (xs : List D) (k : Int) : dIx (.tuple xs) (.int k) = atI xs k := rfl
theorem dIx_lst (xs : List D) (k : Int) : dIx (.list xs) (.int k) = atI xs k := rfl
theorem fLen_tup (xs : List D) : fLen [.tuple xs] = some (.int xs.length) := rfl
theorem fLen_lst (xs : List D) : fLen [.list xs] = some (.int xs.length) := rfl
end DL
/- part LQ -/
set_option Elab.async false
set_option linter.all false
set_option maxRecDepth 100000
set_option maxHeartbeats 4000000
/-! LQ: comprehensions, shapes, ranges. -/
namespace LW
open PySem L2 DL
theorem comp_filter {g : DG} {t : DT} {e : DE} {vs : List Nat} {env : DEnv} {p : D → Bool} {h : D → D} : ∀ (ds : List D), (∀ d, d ∈ ds → ∃ e1 e2, g d env = some e1 ∧ t e1 = .ok (p d) e2 ∧ (p d = true → ∃ e3, e e2 = .ok (h d) e3 ∧ wipeD e3 vs = env) ∧ (p d = false → wipeD e2 vs = env)) → compD g t e vs ds env = .ok ((ds.filter p).map h) env
  | [], _ => rfl
  | d :: ds, H => by
    obtain ⟨e1, e2, a, b, c1, c2⟩ := H d (List.mem_cons_self ..)
    have ih := comp_filter ds fun d' h' => H d' (List.mem_cons_of_mem _ h')
    unfold compD
    simp only [a, b, Rs.bind]
    cases q : p d with
    | true =>
      obtain ⟨e3, x, y⟩ := c1 q
      simp [x, y, ih, q]
    | false => simp [c2 q, ih, q]
theorem comp_map {g : DG} {e : DE} {vs : List Nat} {env : DEnv} {h : D → D} (ds : List D) (H : ∀ d, d ∈ ds → ∃ e1 e3, g d env = some e1 ∧ e e1 = .ok (h d) e3 ∧ wipeD e3 vs = env) : compD g tYesD e vs ds env = .ok (ds.map h) env := by
  have := comp_filter (g := g) (t := tYesD) (e := e) (vs := vs) (env := env) (p := fun _ => true) (h := h) ds fun d hd => by
    obtain ⟨e1, e3, a, b, c⟩ := H d hd
    exact ⟨e1, e1, a, rfl, fun _ => ⟨e3, b, c⟩, fun x => by cases x⟩
  rw [List.filter_eq_self.2 (by simp)] at this
  exact this
/-- a comprehension whose parts are drawn -/
theorem comp_inv {g : DG} {e : DE} {vs : List Nat} (P : DEnv → Prop) (Q : D → Prop) : ∀ (ds : List D) (env : DEnv), (∀ d en, d ∈ ds → P en → ∃ e1 y e3, g d en = some e1 ∧ e e1 = .ok y e3 ∧ Q y ∧ P (wipeD e3 vs)) → P env → ∃ ys en, compD g tYesD e vs ds env = .ok ys en ∧ ys.length = ds.length ∧ (∀ y, y ∈ ys → Q y) ∧ P en
  | [], env, _, hp => ⟨[], env, rfl, rfl, (fun _ h => absurd h (List.not_mem_nil)), hp⟩
  | d :: ds, env, H, hp => by
    obtain ⟨e1, y, e3, a, b, c, p1⟩ := H d env (List.mem_cons_self ..) hp
    obtain ⟨ys, en, a2, b2, c2, p2⟩ := comp_inv P Q ds _ (fun d' en' h' => H d' en' (List.mem_cons_of_mem _ h')) p1
    refine ⟨y :: ys, en, ?_, by simp [b2], fun z hz => ?_, p2⟩
    · unfold compD
      simp [a, b, Rs.bind, tYesD, a2]
    · rcases List.mem_cons.1 hz with rfl | hz
      · exact c
      · exact c2 z hz
/-! ### shapes -/
def shD (k : Nat) (d : D) : Prop := d.canLay0 = true ∧ d.depth ≤ k
def shA (k : Nat) (xs : List D) : Prop := ∀ x, x ∈ xs → shD k x
theorem shA_lay {k : Nat} : ∀ {xs : List D}, shA k xs → PyData.canLayAll0 xs = true ∧ PyData.depthAll xs ≤ k
  | [], _ => ⟨rfl, Nat.zero_le _⟩
  | x :: xs, h => by
    have a := h x (List.mem_cons_self ..)
    have b := shA_lay (xs := xs) fun y hy => h y (List.mem_cons_of_mem _ hy)
    simp only [PyData.canLayAll0, PyData.depthAll, Bool.and_eq_true]
    exact ⟨⟨a.1, b.1⟩, Nat.max_le.2 ⟨a.2, b.2⟩⟩
theorem shD_tup {k : Nat} {xs : List D} (h : shA k xs) : shD (k + 1) (.tuple xs) := by
  obtain ⟨a, b⟩ := shA_lay h
  exact ⟨by simpa [PyData.canLay0] using a, by simp [PyData.depth]; exact b⟩
theorem shD_lst {k : Nat} {xs : List D} (h : shA k xs) : shD (k + 1) (.list xs) := by
  obtain ⟨a, b⟩ := shA_lay h
  exact ⟨by simpa [PyData.canLay0] using a, by simp [PyData.depth]; exact b⟩
theorem shD_int (k : Nat) (i : Int) : shD k (.int i) := ⟨rfl, by simp [PyData.depth]⟩
theorem shD_bool (k : Nat) (i : Bool) : shD k (.bool i) := ⟨rfl, by simp [PyData.depth]⟩
theorem shD_none (k : Nat) : shD k .none := ⟨rfl, by simp [PyData.depth]⟩
theorem shD_up {k m : Nat} (hk : k ≤ m) {d : D} (h : shD k d) : shD m d := ⟨h.1, Nat.le_trans h.2 hk⟩
theorem shaped_of {k : Nat} (hk : k ≤ 64) {d : D} (h : shD k d) : SeqAt.shaped d = true := by
  unfold SeqAt.shaped
  simp [h.1]
  exact Nat.le_trans h.2 hk
theorem dEq_of {k : Nat} (hk : k ≤ 64) {a b : D} (ha : shD k a) (hb : shD k b) : dEq a b = some (.bool (PyData.eqv a b)) := by
  unfold dEq
  rw [if_pos ⟨shaped_of hk ha, shaped_of hk hb⟩]
theorem dNe_of {k : Nat} (hk : k ≤ 64) {a b : D} (ha : shD k a) (hb : shD k b) : dNe a b = some (.bool (!PyData.eqv a b)) := by
  unfold dNe
  rw [if_pos ⟨shaped_of hk ha, shaped_of hk hb⟩]
@[simp] theorem dEq_int (i j : Int) : dEq (.int i) (.int j) = some (.bool (decide (i = j))) := by
  rw [dEq_of (k := 0) (by decide) (shD_int ..) (shD_int ..)]
  simp [PyData.eqv]
  rfl
@[simp] theorem dNe_int (i j : Int) : dNe (.int i) (.int j) = some (.bool (!decide (i = j))) := by
  rw [dNe_of (k := 0) (by decide) (shD_int ..) (shD_int ..)]
  simp [PyData.eqv]
  rfl
@[simp] theorem dNe_bool (i j : Bool) : dNe (.bool i) (.bool j) = some (.bool (i != j)) := by
  rw [dNe_of (k := 0) (by decide) (shD_bool ..) (shD_bool ..)]
  simp only [PyData.eqv, bne]
theorem eqvAll_nil (xs : List D) : PyData.eqvAll xs [] = xs.isEmpty := by
  cases xs <;> simp [PyData.eqvAll]
/-! ### ranges -/
theorem mem_rng {lo hi : Int} {d : D} (h : d ∈ rngD lo hi) : ∃ k : Int, d = .int k ∧ lo ≤ k ∧ k < hi := by
  unfold rngD at h
  obtain ⟨n, hn, rfl⟩ := List.mem_map.1 h
  have := List.mem_range.1 hn
  exact ⟨lo + n, rfl, by omega, by omega⟩
theorem len_rng (lo hi : Int) : (rngD lo hi).length = (hi - lo).toNat := by simp [rngD]
end LW
/- part LD -/
set_option Elab.async false
set_option linter.all false
set_option maxRecDepth 100000
set_option maxHeartbeats 4000000
namespace LW
open PySem L2 DL
def isW : D → Bool
  | .int _ => true
  | _ => false
theorem is_whole_ok (d : D) : f_is_whole [.v d] = .ok (.bool (isW d)) [.no] := by
  cases d <;> simp [eVar_ap, eC_ap, eBin_ap, eUn_ap, eCB_ap, eCL_ap, aNil_ap, aCons_ap, eTup_ap, lLst_ap, eLst_ap, tTst_ap, tTru_ap, tAndD_ap, tOrD_ap, tNotD_ap, eIf_ap, eNot_ap, eBinL_ap, gN_ap, gT_ap, sNx_ap, sSeq_ap, sAsg_ap, sAsgL_ap, sDrop_ap, sRet_ap, sRetL_ap, sRetN_ap, sIf_ap, sBk_ap, sCt_ap, sFor_ap, iSeq_ap, iRng1_ap, iRng2_ap, tYesD_ap, lComp_ap, rNil_ap, rCons_ap, rLend_ap, eCall_ap, lCall_ap, eCallN_ap, lCallN_ap, eIxN_ap, sSetO_ap, eMO_ap, eLenO_ap, eTupO_ap, lListO_ap, eSl_ap, eIsi_ap, eChain_ap, lRep_ap, lRange1_ap, eBinPL_ap, eDct_ap, lDict0_ap, eGet2_ap, eCall0_ap, rLendC_ap, np_no, np_v, np_l, np_m, np_p, setV_ap, boolK_ap, eAnd_ap, eOr_ap, seq_nx, seq_rt, seq_rl, seq_ex, seq_bk, seq_ct, turn_nx, turn_ct, turn_bk, turn_rt, turn_rl, turn_ex, forD_nil, forD_cons, compD_nil, callD_ap, rs_ok, rs_okl, rs_ex, rl_okl, rl_ex, thru_ok, thru_okl, thru_ex, bodyF_ap, out_nx, out_rt, out_rl, out_stuck, seq_stuck, out_ex, atI_lit, dIx_tup, dIx_lst, fLen_tup, fLen_lst, bind_stuck, fl_stuck, put_some, bind_ok, bind_ex, fl_ok, fl_ex, truth, known, ixAt, getL, putL, npAt, outsOf, outOf, lent, toSl, lookS, conv, backD, slotsOf, Pt.run, dAdd, dSub, dLt, dLe, dGt, dGe, dIs, dIsnt, isNone, dSl, fInt, fTup, fList, int1, int2, flatD, seqOf, gsN, noOwn, wipeD, mergeD, mAppend, mInsert, mPop, mPopAt, dCat, Sl.own, fMin, fMax, f_is_whole, b_is_whole, isi_int, isi_bool, isIntD, isBoolD, isW]
def deedW : List Str := ["split", "merge", "cut", "join", "turn", "unturn", "fold", "puff", "draw", "part", "grow", "cap", "open", "sew", "rip"]
def deedWs : List D := deedW.map PyData.str
theorem words_ok : f__law_words [] = .ok (.list deedWs) [] := by
  simp [eVar_ap, eC_ap, eBin_ap, eUn_ap, eCB_ap, eCL_ap, aNil_ap, aCons_ap, eTup_ap, lLst_ap, eLst_ap, tTst_ap, tTru_ap, tAndD_ap, tOrD_ap, tNotD_ap, eIf_ap, eNot_ap, eBinL_ap, gN_ap, gT_ap, sNx_ap, sSeq_ap, sAsg_ap, sAsgL_ap, sDrop_ap, sRet_ap, sRetL_ap, sRetN_ap, sIf_ap, sBk_ap, sCt_ap, sFor_ap, iSeq_ap, iRng1_ap, iRng2_ap, tYesD_ap, lComp_ap, rNil_ap, rCons_ap, rLend_ap, eCall_ap, lCall_ap, eCallN_ap, lCallN_ap, eIxN_ap, sSetO_ap, eMO_ap, eLenO_ap, eTupO_ap, lListO_ap, eSl_ap, eIsi_ap, eChain_ap, lRep_ap, lRange1_ap, eBinPL_ap, eDct_ap, lDict0_ap, eGet2_ap, eCall0_ap, rLendC_ap, np_no, np_v, np_l, np_m, np_p, setV_ap, boolK_ap, eAnd_ap, eOr_ap, seq_nx, seq_rt, seq_rl, seq_ex, seq_bk, seq_ct, turn_nx, turn_ct, turn_bk, turn_rt, turn_rl, turn_ex, forD_nil, forD_cons, compD_nil, callD_ap, rs_ok, rs_okl, rs_ex, rl_okl, rl_ex, thru_ok, thru_okl, thru_ex, bodyF_ap, out_nx, out_rt, out_rl, out_stuck, seq_stuck, out_ex, atI_lit, dIx_tup, dIx_lst, fLen_tup, fLen_lst, bind_stuck, fl_stuck, put_some, bind_ok, bind_ex, fl_ok, fl_ex, truth, known, ixAt, getL, putL, npAt, outsOf, outOf, lent, toSl, lookS, conv, backD, slotsOf, Pt.run, dAdd, dSub, dLt, dLe, dGt, dGe, dIs, dIsnt, isNone, dSl, fInt, fTup, fList, int1, int2, flatD, seqOf, gsN, noOwn, wipeD, mergeD, mAppend, mInsert, mPop, mPopAt, dCat, Sl.own, fMin, fMax, f__law_words, b__law_words, deedWs, deedW]
def inOnes (w : Str) : Bool := (c_ONES.map PyData.str).any fun z => PyData.eqv z (.str w)
def inTwos (w : Str) : Bool := (c_TWOS.map PyData.str).any fun z => PyData.eqv z (.str w)
theorem in_ones (w : Str) : dIn (.str w) (.tuple (c_ONES.map PyData.str)) = some (.bool (inOnes w)) := rfl
theorem in_twos (w : Str) : dIn (.str w) (.tuple (c_TWOS.map PyData.str)) = some (.bool (inTwos w)) := rfl
def isDeed : D → Bool
  | .tuple (.str w :: r) => r.all isW && (inOnes w && decide (r.length = 1) || inTwos w && decide (r.length = 2))
  | _ => false
theorem bools_map (f : D → Bool) : ∀ xs : List D, bools (xs.map fun d => PyData.bool (f d)) = some (xs.map f)
  | [] => rfl
  | x :: xs => by simp [bools, bools_map f xs]
theorem comp_whole (x : D) (xs : List D) : compD (gN 1) tYesD (eCallN 1 f_is_whole (rCons (eVar 1) rNil)) [1] xs [.v x, .no] = .ok (xs.map fun d => .bool (isW d)) [.v x, .no] :=
  comp_map xs fun d _ => ⟨[.v x, .v d], [.v x, .v d], rfl, by simp [eVar_ap, eC_ap, eBin_ap, eUn_ap, eCB_ap, eCL_ap, aNil_ap, aCons_ap, eTup_ap, lLst_ap, eLst_ap, tTst_ap, tTru_ap, tAndD_ap, tOrD_ap, tNotD_ap, eIf_ap, eNot_ap, eBinL_ap, gN_ap, gT_ap, sNx_ap, sSeq_ap, sAsg_ap, sAsgL_ap, sDrop_ap, sRet_ap, sRetL_ap, sRetN_ap, sIf_ap, sBk_ap, sCt_ap, sFor_ap, iSeq_ap, iRng1_ap, iRng2_ap, tYesD_ap, lComp_ap, rNil_ap, rCons_ap, rLend_ap, eCall_ap, lCall_ap, eCallN_ap, lCallN_ap, eIxN_ap, sSetO_ap, eMO_ap, eLenO_ap, eTupO_ap, lListO_ap, eSl_ap, eIsi_ap, eChain_ap, lRep_ap, lRange1_ap, eBinPL_ap, eDct_ap, lDict0_ap, eGet2_ap, eCall0_ap, rLendC_ap, np_no, np_v, np_l, np_m, np_p, setV_ap, boolK_ap, eAnd_ap, eOr_ap, seq_nx, seq_rt, seq_rl, seq_ex, seq_bk, seq_ct, turn_nx, turn_ct, turn_bk, turn_rt, turn_rl, turn_ex, forD_nil, forD_cons, compD_nil, callD_ap, rs_ok, rs_okl, rs_ex, rl_okl, rl_ex, thru_ok, thru_okl, thru_ex, bodyF_ap, out_nx, out_rt, out_rl, out_stuck, seq_stuck, out_ex, atI_lit, dIx_tup, dIx_lst, fLen_tup, fLen_lst, bind_stuck, fl_stuck, put_some, bind_ok, bind_ex, fl_ok, fl_ex, truth, known, ixAt, getL, putL, npAt, outsOf, outOf, lent, toSl, lookS, conv, backD, slotsOf, Pt.run, dAdd, dSub, dLt, dLe, dGt, dGe, dIs, dIsnt, isNone, dSl, fInt, fTup, fList, int1, int2, flatD, seqOf, gsN, noOwn, wipeD, mergeD, mAppend, mInsert, mPop, mPopAt, dCat, Sl.own, fMin, fMax, is_whole_ok], rfl⟩
theorem cut1 (x : D) (xs : List D) : cutD (x :: xs) (some 1) none = xs := by
  simp [cutD, HT.sIx]
theorem all_whole (xs : List D) : fAll [.list (xs.map fun d => .bool (isW d))] = some (.bool (xs.all isW)) := by
  simp [fAll, bools_map]
theorem is_deed_ok (d : D) (hl : ∀ xs, d = .tuple xs → xs.length ≤ 1000) : f_is_deed [.v d] = .ok (.bool (isDeed d)) [.no] := by
  cases d with
  | tuple xs =>
    have hx := hl xs rfl
    cases xs with
    | nil => simp [eVar_ap, eC_ap, eBin_ap, eUn_ap, eCB_ap, eCL_ap, aNil_ap, aCons_ap, eTup_ap, lLst_ap, eLst_ap, tTst_ap, tTru_ap, tAndD_ap, tOrD_ap, tNotD_ap, eIf_ap, eNot_ap, eBinL_ap, gN_ap, gT_ap, sNx_ap, sSeq_ap, sAsg_ap, sAsgL_ap, sDrop_ap, sRet_ap, sRetL_ap, sRetN_ap, sIf_ap, sBk_ap, sCt_ap, sFor_ap, iSeq_ap, iRng1_ap, iRng2_ap, tYesD_ap, lComp_ap, rNil_ap, rCons_ap, rLend_ap, eCall_ap, lCall_ap, eCallN_ap, lCallN_ap, eIxN_ap, sSetO_ap, eMO_ap, eLenO_ap, eTupO_ap, lListO_ap, eSl_ap, eIsi_ap, eChain_ap, lRep_ap, lRange1_ap, eBinPL_ap, eDct_ap, lDict0_ap, eGet2_ap, eCall0_ap, rLendC_ap, np_no, np_v, np_l, np_m, np_p, setV_ap, boolK_ap, eAnd_ap, eOr_ap, seq_nx, seq_rt, seq_rl, seq_ex, seq_bk, seq_ct, turn_nx, turn_ct, turn_bk, turn_rt, turn_rl, turn_ex, forD_nil, forD_cons, compD_nil, callD_ap, rs_ok, rs_okl, rs_ex, rl_okl, rl_ex, thru_ok, thru_okl, thru_ex, bodyF_ap, out_nx, out_rt, out_rl, out_stuck, seq_stuck, out_ex, atI_lit, dIx_tup, dIx_lst, fLen_tup, fLen_lst, bind_stuck, fl_stuck, put_some, bind_ok, bind_ex, fl_ok, fl_ex, truth, known, ixAt, getL, putL, npAt, outsOf, outOf, lent, toSl, lookS, conv, backD, slotsOf, Pt.run, dAdd, dSub, dLt, dLe, dGt, dGe, dIs, dIsnt, isNone, dSl, fInt, fTup, fList, int1, int2, flatD, seqOf, gsN, noOwn, wipeD, mergeD, mAppend, mInsert, mPop, mPopAt, dCat, Sl.own, fMin, fMax, f_is_deed, b_is_deed, isi_tup, isi_str, isTupD, isDeed]
    | cons x r =>
      cases r with
      | nil => cases x <;> simp [eVar_ap, eC_ap, eBin_ap, eUn_ap, eCB_ap, eCL_ap, aNil_ap, aCons_ap, eTup_ap, lLst_ap, eLst_ap, tTst_ap, tTru_ap, tAndD_ap, tOrD_ap, tNotD_ap, eIf_ap, eNot_ap, eBinL_ap, gN_ap, gT_ap, sNx_ap, sSeq_ap, sAsg_ap, sAsgL_ap, sDrop_ap, sRet_ap, sRetL_ap, sRetN_ap, sIf_ap, sBk_ap, sCt_ap, sFor_ap, iSeq_ap, iRng1_ap, iRng2_ap, tYesD_ap, lComp_ap, rNil_ap, rCons_ap, rLend_ap, eCall_ap, lCall_ap, eCallN_ap, lCallN_ap, eIxN_ap, sSetO_ap, eMO_ap, eLenO_ap, eTupO_ap, lListO_ap, eSl_ap, eIsi_ap, eChain_ap, lRep_ap, lRange1_ap, eBinPL_ap, eDct_ap, lDict0_ap, eGet2_ap, eCall0_ap, rLendC_ap, np_no, np_v, np_l, np_m, np_p, setV_ap, boolK_ap, eAnd_ap, eOr_ap, seq_nx, seq_rt, seq_rl, seq_ex, seq_bk, seq_ct, turn_nx, turn_ct, turn_bk, turn_rt, turn_rl, turn_ex, forD_nil, forD_cons, compD_nil, callD_ap, rs_ok, rs_okl, rs_ex, rl_okl, rl_ex, thru_ok, thru_okl, thru_ex, bodyF_ap, out_nx, out_rt, out_rl, out_stuck, seq_stuck, out_ex, atI_lit, dIx_tup, dIx_lst, fLen_tup, fLen_lst, bind_stuck, fl_stuck, put_some, bind_ok, bind_ex, fl_ok, fl_ex, truth, known, ixAt, getL, putL, npAt, outsOf, outOf, lent, toSl, lookS, conv, backD, slotsOf, Pt.run, dAdd, dSub, dLt, dLe, dGt, dGe, dIs, dIsnt, isNone, dSl, fInt, fTup, fList, int1, int2, flatD, seqOf, gsN, noOwn, wipeD, mergeD, mAppend, mInsert, mPop, mPopAt, dCat, Sl.own, fMin, fMax, f_is_deed, b_is_deed, isi_tup, isi_str, isTupD, isDeed]
      | cons y r =>
        have h1 : ¬ ((r.length : Int) + 1 + 1 < 2) := by omega
        cases x with
        | str w =>
          have h2 : (y :: r).length ≤ 100000 := by simp at hx ⊢; omega
          have h3 : ((PyData.str w :: y :: r).length : Int) = ((y :: r).length : Int) + 1 := by simp
          have h1 : ¬ (((y :: r).length : Int) + 1 < 2) := by simp; omega
          have e2 : decide (((y :: r).length : Int) + 1 = 2) = decide ((y :: r).length = 1) := by congr 1; apply propext; omega
          have e3 : decide (((y :: r).length : Int) + 1 = 3) = decide ((y :: r).length = 2) := by congr 1; apply propext; omega
          unfold isDeed
          generalize hq : y :: r = q at *
          generalize hA : q.all isW = A
          generalize hO : inOnes w = O
          generalize hT : inTwos w = T
          cases A <;> cases O <;> cases T <;> simp [eVar_ap, eC_ap, eBin_ap, eUn_ap, eCB_ap, eCL_ap, aNil_ap, aCons_ap, eTup_ap, lLst_ap, eLst_ap, tTst_ap, tTru_ap, tAndD_ap, tOrD_ap, tNotD_ap, eIf_ap, eNot_ap, eBinL_ap, gN_ap, gT_ap, sNx_ap, sSeq_ap, sAsg_ap, sAsgL_ap, sDrop_ap, sRet_ap, sRetL_ap, sRetN_ap, sIf_ap, sBk_ap, sCt_ap, sFor_ap, iSeq_ap, iRng1_ap, iRng2_ap, tYesD_ap, lComp_ap, rNil_ap, rCons_ap, rLend_ap, eCall_ap, lCall_ap, eCallN_ap, lCallN_ap, eIxN_ap, sSetO_ap, eMO_ap, eLenO_ap, eTupO_ap, lListO_ap, eSl_ap, eIsi_ap, eChain_ap, lRep_ap, lRange1_ap, eBinPL_ap, eDct_ap, lDict0_ap, eGet2_ap, eCall0_ap, rLendC_ap, np_no, np_v, np_l, np_m, np_p, setV_ap, boolK_ap, eAnd_ap, eOr_ap, seq_nx, seq_rt, seq_rl, seq_ex, seq_bk, seq_ct, turn_nx, turn_ct, turn_bk, turn_rt, turn_rl, turn_ex, forD_nil, forD_cons, compD_nil, callD_ap, rs_ok, rs_okl, rs_ex, rl_okl, rl_ex, thru_ok, thru_okl, thru_ex, bodyF_ap, out_nx, out_rt, out_rl, out_stuck, seq_stuck, out_ex, atI_lit, dIx_tup, dIx_lst, fLen_tup, fLen_lst, bind_stuck, fl_stuck, put_some, bind_ok, bind_ex, fl_ok, fl_ex, truth, known, ixAt, getL, putL, npAt, outsOf, outOf, lent, toSl, lookS, conv, backD, slotsOf, Pt.run, dAdd, dSub, dLt, dLe, dGt, dGe, dIs, dIsnt, isNone, dSl, fInt, fTup, fList, int1, int2, flatD, seqOf, gsN, noOwn, wipeD, mergeD, mAppend, mInsert, mPop, mPopAt, dCat, Sl.own, fMin, fMax, f_is_deed, b_is_deed, isi_tup, isi_str, isTupD, isStrD, h1, cut1, comp_whole, h2, all_whole, in_ones, in_twos, hA, hO, hT, e2, e3]
          all_goals by_cases c1 : q.length = 1 <;> by_cases c2 : q.length = 2 <;> simp [eVar_ap, eC_ap, eBin_ap, eUn_ap, eCB_ap, eCL_ap, aNil_ap, aCons_ap, eTup_ap, lLst_ap, eLst_ap, tTst_ap, tTru_ap, tAndD_ap, tOrD_ap, tNotD_ap, eIf_ap, eNot_ap, eBinL_ap, gN_ap, gT_ap, sNx_ap, sSeq_ap, sAsg_ap, sAsgL_ap, sDrop_ap, sRet_ap, sRetL_ap, sRetN_ap, sIf_ap, sBk_ap, sCt_ap, sFor_ap, iSeq_ap, iRng1_ap, iRng2_ap, tYesD_ap, lComp_ap, rNil_ap, rCons_ap, rLend_ap, eCall_ap, lCall_ap, eCallN_ap, lCallN_ap, eIxN_ap, sSetO_ap, eMO_ap, eLenO_ap, eTupO_ap, lListO_ap, eSl_ap, eIsi_ap, eChain_ap, lRep_ap, lRange1_ap, eBinPL_ap, eDct_ap, lDict0_ap, eGet2_ap, eCall0_ap, rLendC_ap, np_no, np_v, np_l, np_m, np_p, setV_ap, boolK_ap, eAnd_ap, eOr_ap, seq_nx, seq_rt, seq_rl, seq_ex, seq_bk, seq_ct, turn_nx, turn_ct, turn_bk, turn_rt, turn_rl, turn_ex, forD_nil, forD_cons, compD_nil, callD_ap, rs_ok, rs_okl, rs_ex, rl_okl, rl_ex, thru_ok, thru_okl, thru_ex, bodyF_ap, out_nx, out_rt, out_rl, out_stuck, seq_stuck, out_ex, atI_lit, dIx_tup, dIx_lst, fLen_tup, fLen_lst, bind_stuck, fl_stuck, put_some, bind_ok, bind_ex, fl_ok, fl_ex, truth, known, ixAt, getL, putL, npAt, outsOf, outOf, lent, toSl, lookS, conv, backD, slotsOf, Pt.run, dAdd, dSub, dLt, dLe, dGt, dGe, dIs, dIsnt, isNone, dSl, fInt, fTup, fList, int1, int2, flatD, seqOf, gsN, noOwn, wipeD, mergeD, mAppend, mInsert, mPop, mPopAt, dCat, Sl.own, fMin, fMax, c1, c2]
        | _ => simp [eVar_ap, eC_ap, eBin_ap, eUn_ap, eCB_ap, eCL_ap, aNil_ap, aCons_ap, eTup_ap, lLst_ap, eLst_ap, tTst_ap, tTru_ap, tAndD_ap, tOrD_ap, tNotD_ap, eIf_ap, eNot_ap, eBinL_ap, gN_ap, gT_ap, sNx_ap, sSeq_ap, sAsg_ap, sAsgL_ap, sDrop_ap, sRet_ap, sRetL_ap, sRetN_ap, sIf_ap, sBk_ap, sCt_ap, sFor_ap, iSeq_ap, iRng1_ap, iRng2_ap, tYesD_ap, lComp_ap, rNil_ap, rCons_ap, rLend_ap, eCall_ap, lCall_ap, eCallN_ap, lCallN_ap, eIxN_ap, sSetO_ap, eMO_ap, eLenO_ap, eTupO_ap, lListO_ap, eSl_ap, eIsi_ap, eChain_ap, lRep_ap, lRange1_ap, eBinPL_ap, eDct_ap, lDict0_ap, eGet2_ap, eCall0_ap, rLendC_ap, np_no, np_v, np_l, np_m, np_p, setV_ap, boolK_ap, eAnd_ap, eOr_ap, seq_nx, seq_rt, seq_rl, seq_ex, seq_bk, seq_ct, turn_nx, turn_ct, turn_bk, turn_rt, turn_rl, turn_ex, forD_nil, forD_cons, compD_nil, callD_ap, rs_ok, rs_okl, rs_ex, rl_okl, rl_ex, thru_ok, thru_okl, thru_ex, bodyF_ap, out_nx, out_rt, out_rl, out_stuck, seq_stuck, out_ex, atI_lit, dIx_tup, dIx_lst, fLen_tup, fLen_lst, bind_stuck, fl_stuck, put_some, bind_ok, bind_ex, fl_ok, fl_ex, truth, known, ixAt, getL, putL, npAt, outsOf, outOf, lent, toSl, lookS, conv, backD, slotsOf, Pt.run, dAdd, dSub, dLt, dLe, dGt, dGe, dIs, dIsnt, isNone, dSl, fInt, fTup, fList, int1, int2, flatD, seqOf, gsN, noOwn, wipeD, mergeD, mAppend, mInsert, mPop, mPopAt, dCat, Sl.own, fMin, fMax, f_is_deed, b_is_deed, isi_tup, isi_str, isTupD, isStrD, isDeed, h1]
  | _ => simp [eVar_ap, eC_ap, eBin_ap, eUn_ap, eCB_ap, eCL_ap, aNil_ap, aCons_ap, eTup_ap, lLst_ap, eLst_ap, tTst_ap, tTru_ap, tAndD_ap, tOrD_ap, tNotD_ap, eIf_ap, eNot_ap, eBinL_ap, gN_ap, gT_ap, sNx_ap, sSeq_ap, sAsg_ap, sAsgL_ap, sDrop_ap, sRet_ap, sRetL_ap, sRetN_ap, sIf_ap, sBk_ap, sCt_ap, sFor_ap, iSeq_ap, iRng1_ap, iRng2_ap, tYesD_ap, lComp_ap, rNil_ap, rCons_ap, rLend_ap, eCall_ap, lCall_ap, eCallN_ap, lCallN_ap, eIxN_ap, sSetO_ap, eMO_ap, eLenO_ap, eTupO_ap, lListO_ap, eSl_ap, eIsi_ap, eChain_ap, lRep_ap, lRange1_ap, eBinPL_ap, eDct_ap, lDict0_ap, eGet2_ap, eCall0_ap, rLendC_ap, np_no, np_v, np_l, np_m, np_p, setV_ap, boolK_ap, eAnd_ap, eOr_ap, seq_nx, seq_rt, seq_rl, seq_ex, seq_bk, seq_ct, turn_nx, turn_ct, turn_bk, turn_rt, turn_rl, turn_ex, forD_nil, forD_cons, compD_nil, callD_ap, rs_ok, rs_okl, rs_ex, rl_okl, rl_ex, thru_ok, thru_okl, thru_ex, bodyF_ap, out_nx, out_rt, out_rl, out_stuck, seq_stuck, out_ex, atI_lit, dIx_tup, dIx_lst, fLen_tup, fLen_lst, bind_stuck, fl_stuck, put_some, bind_ok, bind_ex, fl_ok, fl_ex, truth, known, ixAt, getL, putL, npAt, outsOf, outOf, lent, toSl, lookS, conv, backD, slotsOf, Pt.run, dAdd, dSub, dLt, dLe, dGt, dGe, dIs, dIsnt, isNone, dSl, fInt, fTup, fList, int1, int2, flatD, seqOf, gsN, noOwn, wipeD, mergeD, mAppend, mInsert, mPop, mPopAt, dCat, Sl.own, fMin, fMax, f_is_deed, b_is_deed, isi_tup, isTupD, isDeed]
theorem shA_of {k : Nat} {xs : List D} (h : ∀ x, x ∈ xs → shD k x) : shA k xs := h
theorem eq_nil_tup (xs : List D) (h : shA 60 xs) : dEq (.tuple xs) (.tuple []) = some (.bool xs.isEmpty) := by
  rw [dEq_of (k := 61) (by decide) (shD_tup h) (shD_tup (fun _ h => absurd h (List.not_mem_nil)))]
  simp [PyData.eqv, eqvAll_nil]
theorem eq_nil_lst (xs : List D) (h : shA 60 xs) : dEq (.list xs) (.list []) = some (.bool xs.isEmpty) := by
  rw [dEq_of (k := 61) (by decide) (shD_lst h) (shD_lst (fun _ h => absurd h (List.not_mem_nil)))]
  simp [PyData.eqv, eqvAll_nil]
def deedKvs : List (D × D) := [(.str "cut", .int 3), (.str "part", .int 3), (.str "sew", .int 3)]
theorem deed_dict (env : DEnv) : lDisp [(eC (.str "cut"), eC (.int 3)), (eC (.str "part"), eC (.int 3)), (eC (.str "sew"), eC (.int 3))] env = .ok deedKvs env := by
  rfl
theorem twos_iff (w : Str) : inTwos w = true ↔ ("cut" : Str) = w ∨ ("part" : Str) = w ∨ ("sew" : Str) = w := by
  simp [inTwos, c_TWOS, PyData.eqv]
theorem get_deed (w : Str) : dGet2 (.dict deedKvs) (.str w) (.int 2) = some (.int (if inTwos w then 3 else 2)) := by
  by_cases h : inTwos w = true
  · rw [if_pos h]
    rcases (twos_iff w).1 h with rfl | rfl | rfl <;> rfl
  · rw [if_neg h]
    rw [twos_iff] at h
    simp only [not_or] at h
    obtain ⟨h1, h2, h3⟩ := h
    simp [dGet2, DL.keyOf, valD, deedKvs, kEq, h1, h2, h3]
theorem notin_words (w : Str) : dNotIn (.str w) (.list deedWs) = some (.bool (!(inOnes w || inTwos w))) := by
  simp only [dNotIn, seqOf, flatD, deedWs, deedW, inOnes, inTwos, c_ONES, c_TWOS, PyData.eqv, List.map_cons, List.map_nil, List.any_cons, List.any_nil, List.all_cons, List.all_nil, Bool.or_false, Bool.and_true, if_true]
  congr 3
  ac_rfl
theorem comp_bad (a b : Sl) (xs : List D) : compD (gN 2) (tOrD (tNotD (tTst (eIsi "int" (eVar 2)))) (tTst (eIsi "bool" (eVar 2)))) (eVar 2) [2] xs [a, b, .no] = .ok (xs.filter fun d => !isW d) [a, b, .no] := by
  have := comp_filter (g := gN 2) (t := tOrD (tNotD (tTst (eIsi "int" (eVar 2)))) (tTst (eIsi "bool" (eVar 2)))) (e := eVar 2) (vs := [2]) (env := [a, b, .no]) (p := fun d => !isW d) (h := id) xs fun d _ => ⟨[a, b, .v d], [a, b, .v d], rfl, by cases d <;> simp [eVar_ap, eC_ap, eBin_ap, eUn_ap, eCB_ap, eCL_ap, aNil_ap, aCons_ap, eTup_ap, lLst_ap, eLst_ap, tTst_ap, tTru_ap, tAndD_ap, tOrD_ap, tNotD_ap, eIf_ap, eNot_ap, eBinL_ap, gN_ap, gT_ap, sNx_ap, sSeq_ap, sAsg_ap, sAsgL_ap, sDrop_ap, sRet_ap, sRetL_ap, sRetN_ap, sIf_ap, sBk_ap, sCt_ap, sFor_ap, iSeq_ap, iRng1_ap, iRng2_ap, tYesD_ap, lComp_ap, rNil_ap, rCons_ap, rLend_ap, eCall_ap, lCall_ap, eCallN_ap, lCallN_ap, eIxN_ap, sSetO_ap, eMO_ap, eLenO_ap, eTupO_ap, lListO_ap, eSl_ap, eIsi_ap, eChain_ap, lRep_ap, lRange1_ap, eBinPL_ap, eDct_ap, lDict0_ap, eGet2_ap, eCall0_ap, rLendC_ap, np_no, np_v, np_l, np_m, np_p, setV_ap, boolK_ap, eAnd_ap, eOr_ap, seq_nx, seq_rt, seq_rl, seq_ex, seq_bk, seq_ct, turn_nx, turn_ct, turn_bk, turn_rt, turn_rl, turn_ex, forD_nil, forD_cons, compD_nil, callD_ap, rs_ok, rs_okl, rs_ex, rl_okl, rl_ex, thru_ok, thru_okl, thru_ex, bodyF_ap, out_nx, out_rt, out_rl, out_stuck, seq_stuck, out_ex, atI_lit, dIx_tup, dIx_lst, fLen_tup, fLen_lst, bind_stuck, fl_stuck, put_some, bind_ok, bind_ex, fl_ok, fl_ex, truth, known, ixAt, getL, putL, npAt, outsOf, outOf, lent, toSl, lookS, conv, backD, slotsOf, Pt.run, dAdd, dSub, dLt, dLe, dGt, dGe, dIs, dIsnt, isNone, dSl, fInt, fTup, fList, int1, int2, flatD, seqOf, gsN, noOwn, wipeD, mergeD, mAppend, mInsert, mPop, mPopAt, dCat, Sl.own, fMin, fMax, isi_int, isi_bool, isIntD, isBoolD, isW], fun _ => ⟨[a, b, .v d], rfl, rfl⟩, fun _ => rfl⟩
  simpa using this
theorem ones_twos (w : Str) (h : inTwos w = true) : inOnes w = false := by
  rcases (twos_iff w).1 h with rfl | rfl | rfl <;> decide +kernel
theorem filt_all (xs : List D) : (xs.filter fun d => !isW d).isEmpty = xs.all isW := by
  induction xs with
  | nil => rfl
  | cons x xs ih => cases h : isW x <;> simp [h, ih]
theorem law_is_deed_ok (d : D) (hs : shD 50 d) (hl : ∀ xs, d = .tuple xs → xs.length ≤ 1000 ∧ shA 60 xs) : f__law_is_deed [.v d] = .ok (.bool (isDeed d)) [.no] := by
  cases d with
  | tuple xs =>
    obtain ⟨hx, ha⟩ := hl xs rfl
    cases xs with
    | nil => simp [eVar_ap, eC_ap, eBin_ap, eUn_ap, eCB_ap, eCL_ap, aNil_ap, aCons_ap, eTup_ap, lLst_ap, eLst_ap, tTst_ap, tTru_ap, tAndD_ap, tOrD_ap, tNotD_ap, eIf_ap, eNot_ap, eBinL_ap, gN_ap, gT_ap, sNx_ap, sSeq_ap, sAsg_ap, sAsgL_ap, sDrop_ap, sRet_ap, sRetL_ap, sRetN_ap, sIf_ap, sBk_ap, sCt_ap, sFor_ap, iSeq_ap, iRng1_ap, iRng2_ap, tYesD_ap, lComp_ap, rNil_ap, rCons_ap, rLend_ap, eCall_ap, lCall_ap, eCallN_ap, lCallN_ap, eIxN_ap, sSetO_ap, eMO_ap, eLenO_ap, eTupO_ap, lListO_ap, eSl_ap, eIsi_ap, eChain_ap, lRep_ap, lRange1_ap, eBinPL_ap, eDct_ap, lDict0_ap, eGet2_ap, eCall0_ap, rLendC_ap, np_no, np_v, np_l, np_m, np_p, setV_ap, boolK_ap, eAnd_ap, eOr_ap, seq_nx, seq_rt, seq_rl, seq_ex, seq_bk, seq_ct, turn_nx, turn_ct, turn_bk, turn_rt, turn_rl, turn_ex, forD_nil, forD_cons, compD_nil, callD_ap, rs_ok, rs_okl, rs_ex, rl_okl, rl_ex, thru_ok, thru_okl, thru_ex, bodyF_ap, out_nx, out_rt, out_rl, out_stuck, seq_stuck, out_ex, atI_lit, dIx_tup, dIx_lst, fLen_tup, fLen_lst, bind_stuck, fl_stuck, put_some, bind_ok, bind_ex, fl_ok, fl_ex, truth, known, ixAt, getL, putL, npAt, outsOf, outOf, lent, toSl, lookS, conv, backD, slotsOf, Pt.run, dAdd, dSub, dLt, dLe, dGt, dGe, dIs, dIsnt, isNone, dSl, fInt, fTup, fList, int1, int2, flatD, seqOf, gsN, noOwn, wipeD, mergeD, mAppend, mInsert, mPop, mPopAt, dCat, Sl.own, fMin, fMax, f__law_is_deed, b__law_is_deed, isi_tup, isi_str, isTupD, isDeed, eq_nil_tup _ ha]
    | cons x q =>
      cases x with
      | str w =>
        have h2 : q.length ≤ 100000 := by simp at hx ⊢; omega
        have e2 : decide ((q.length : Int) + 1 = 2) = decide (q.length = 1) := by congr 1; apply propext; omega
        have e3 : decide ((q.length : Int) + 1 = 3) = decide (q.length = 2) := by congr 1; apply propext; omega
        have hf : shA 60 (q.filter fun d => !isW d) := fun x hx => ha x (List.mem_cons_of_mem _ (List.mem_filter.1 hx).1)
        unfold isDeed
        have hOT := ones_twos w
        generalize hA : q.all isW = A
        generalize hO : inOnes w = O at hOT
        generalize hT : inTwos w = T at hOT
        cases A <;> cases O <;> cases T <;> first | (exact absurd (hOT rfl) (by decide)) | skip
        all_goals by_cases c1 : q.length = 1 <;> by_cases c2 : q.length = 2 <;> simp [eVar_ap, eC_ap, eBin_ap, eUn_ap, eCB_ap, eCL_ap, aNil_ap, aCons_ap, eTup_ap, lLst_ap, eLst_ap, tTst_ap, tTru_ap, tAndD_ap, tOrD_ap, tNotD_ap, eIf_ap, eNot_ap, eBinL_ap, gN_ap, gT_ap, sNx_ap, sSeq_ap, sAsg_ap, sAsgL_ap, sDrop_ap, sRet_ap, sRetL_ap, sRetN_ap, sIf_ap, sBk_ap, sCt_ap, sFor_ap, iSeq_ap, iRng1_ap, iRng2_ap, tYesD_ap, lComp_ap, rNil_ap, rCons_ap, rLend_ap, eCall_ap, lCall_ap, eCallN_ap, lCallN_ap, eIxN_ap, sSetO_ap, eMO_ap, eLenO_ap, eTupO_ap, lListO_ap, eSl_ap, eIsi_ap, eChain_ap, lRep_ap, lRange1_ap, eBinPL_ap, eDct_ap, lDict0_ap, eGet2_ap, eCall0_ap, rLendC_ap, np_no, np_v, np_l, np_m, np_p, setV_ap, boolK_ap, eAnd_ap, eOr_ap, seq_nx, seq_rt, seq_rl, seq_ex, seq_bk, seq_ct, turn_nx, turn_ct, turn_bk, turn_rt, turn_rl, turn_ex, forD_nil, forD_cons, compD_nil, callD_ap, rs_ok, rs_okl, rs_ex, rl_okl, rl_ex, thru_ok, thru_okl, thru_ex, bodyF_ap, out_nx, out_rt, out_rl, out_stuck, seq_stuck, out_ex, atI_lit, dIx_tup, dIx_lst, fLen_tup, fLen_lst, bind_stuck, fl_stuck, put_some, bind_ok, bind_ex, fl_ok, fl_ex, truth, known, ixAt, getL, putL, npAt, outsOf, outOf, lent, toSl, lookS, conv, backD, slotsOf, Pt.run, dAdd, dSub, dLt, dLe, dGt, dGe, dIs, dIsnt, isNone, dSl, fInt, fTup, fList, int1, int2, flatD, seqOf, gsN, noOwn, wipeD, mergeD, mAppend, mInsert, mPop, mPopAt, dCat, Sl.own, fMin, fMax, f__law_is_deed, b__law_is_deed, isi_tup, isi_str, isTupD, isStrD, eq_nil_tup _ ha, cut1, h2, words_ok, deed_dict, get_deed, notin_words, comp_bad, eq_nil_lst _ hf, filt_all, hA, hO, hT, e2, e3, c1, c2]
      | _ => simp [eVar_ap, eC_ap, eBin_ap, eUn_ap, eCB_ap, eCL_ap, aNil_ap, aCons_ap, eTup_ap, lLst_ap, eLst_ap, tTst_ap, tTru_ap, tAndD_ap, tOrD_ap, tNotD_ap, eIf_ap, eNot_ap, eBinL_ap, gN_ap, gT_ap, sNx_ap, sSeq_ap, sAsg_ap, sAsgL_ap, sDrop_ap, sRet_ap, sRetL_ap, sRetN_ap, sIf_ap, sBk_ap, sCt_ap, sFor_ap, iSeq_ap, iRng1_ap, iRng2_ap, tYesD_ap, lComp_ap, rNil_ap, rCons_ap, rLend_ap, eCall_ap, lCall_ap, eCallN_ap, lCallN_ap, eIxN_ap, sSetO_ap, eMO_ap, eLenO_ap, eTupO_ap, lListO_ap, eSl_ap, eIsi_ap, eChain_ap, lRep_ap, lRange1_ap, eBinPL_ap, eDct_ap, lDict0_ap, eGet2_ap, eCall0_ap, rLendC_ap, np_no, np_v, np_l, np_m, np_p, setV_ap, boolK_ap, eAnd_ap, eOr_ap, seq_nx, seq_rt, seq_rl, seq_ex, seq_bk, seq_ct, turn_nx, turn_ct, turn_bk, turn_rt, turn_rl, turn_ex, forD_nil, forD_cons, compD_nil, callD_ap, rs_ok, rs_okl, rs_ex, rl_okl, rl_ex, thru_ok, thru_okl, thru_ex, bodyF_ap, out_nx, out_rt, out_rl, out_stuck, seq_stuck, out_ex, atI_lit, dIx_tup, dIx_lst, fLen_tup, fLen_lst, bind_stuck, fl_stuck, put_some, bind_ok, bind_ex, fl_ok, fl_ex, truth, known, ixAt, getL, putL, npAt, outsOf, outOf, lent, toSl, lookS, conv, backD, slotsOf, Pt.run, dAdd, dSub, dLt, dLe, dGt, dGe, dIs, dIsnt, isNone, dSl, fInt, fTup, fList, int1, int2, flatD, seqOf, gsN, noOwn, wipeD, mergeD, mAppend, mInsert, mPop, mPopAt, dCat, Sl.own, fMin, fMax, f__law_is_deed, b__law_is_deed, isi_tup, isi_str, isTupD, isStrD, isDeed, eq_nil_tup _ ha]
  | _ => simp [eVar_ap, eC_ap, eBin_ap, eUn_ap, eCB_ap, eCL_ap, aNil_ap, aCons_ap, eTup_ap, lLst_ap, eLst_ap, tTst_ap, tTru_ap, tAndD_ap, tOrD_ap, tNotD_ap, eIf_ap, eNot_ap, eBinL_ap, gN_ap, gT_ap, sNx_ap, sSeq_ap, sAsg_ap, sAsgL_ap, sDrop_ap, sRet_ap, sRetL_ap, sRetN_ap, sIf_ap, sBk_ap, sCt_ap, sFor_ap, iSeq_ap, iRng1_ap, iRng2_ap, tYesD_ap, lComp_ap, rNil_ap, rCons_ap, rLend_ap, eCall_ap, lCall_ap, eCallN_ap, lCallN_ap, eIxN_ap, sSetO_ap, eMO_ap, eLenO_ap, eTupO_ap, lListO_ap, eSl_ap, eIsi_ap, eChain_ap, lRep_ap, lRange1_ap, eBinPL_ap, eDct_ap, lDict0_ap, eGet2_ap, eCall0_ap, rLendC_ap, np_no, np_v, np_l, np_m, np_p, setV_ap, boolK_ap, eAnd_ap, eOr_ap, seq_nx, seq_rt, seq_rl, seq_ex, seq_bk, seq_ct, turn_nx, turn_ct, turn_bk, turn_rt, turn_rl, turn_ex, forD_nil, forD_cons, compD_nil, callD_ap, rs_ok, rs_okl, rs_ex, rl_okl, rl_ex, thru_ok, thru_okl, thru_ex, bodyF_ap, out_nx, out_rt, out_rl, out_stuck, seq_stuck, out_ex, atI_lit, dIx_tup, dIx_lst, fLen_tup, fLen_lst, bind_stuck, fl_stuck, put_some, bind_ok, bind_ex, fl_ok, fl_ex, truth, known, ixAt, getL, putL, npAt, outsOf, outOf, lent, toSl, lookS, conv, backD, slotsOf, Pt.run, dAdd, dSub, dLt, dLe, dGt, dGe, dIs, dIsnt, isNone, dSl, fInt, fTup, fList, int1, int2, flatD, seqOf, gsN, noOwn, wipeD, mergeD, mAppend, mInsert, mPop, mPopAt, dCat, Sl.own, fMin, fMax, f__law_is_deed, b__law_is_deed, isi_tup, isTupD, isDeed]
/-! ### things drawn -/
def goodB (d : D) : Bool := d.canLay0 && decide (d.depth ≤ 40) && (match d with
  | .tuple xs => decide (xs.length ≤ 1000)
  | _ => true)
theorem good_sh {d : D} (h : goodB d = true) : shD 40 d := by
  unfold goodB at h
  simp only [Bool.and_eq_true, decide_eq_true_eq] at h
  exact ⟨h.1.1, h.1.2⟩
theorem lay_shA {k : Nat} : ∀ {xs : List D}, PyData.canLayAll0 xs = true → PyData.depthAll xs ≤ k → shA k xs
  | [], _, _ => fun _ h => absurd h List.not_mem_nil
  | x :: xs, h1, h2 => by
    simp only [PyData.canLayAll0, PyData.depthAll, Bool.and_eq_true] at h1 h2
    have h3 := Nat.max_le.1 h2
    intro y hy
    rcases List.mem_cons.1 hy with rfl | hy
    · exact ⟨h1.1, h3.1⟩
    · exact lay_shA h1.2 h3.2 y hy
theorem tup_shA {k : Nat} {xs : List D} (h : shD (k + 1) (.tuple xs)) : shA k xs := lay_shA (by simpa [PyData.canLay0] using h.1) (by have := h.2; simp [PyData.depth] at this; exact this)
theorem good_tup {xs : List D} (h : goodB (.tuple xs) = true) : xs.length ≤ 1000 ∧ shA 60 xs := by
  refine ⟨?_, fun x hx => shD_up (k := 39) (by decide) (tup_shA (good_sh h) x hx)⟩
  unfold goodB at h
  simp only [Bool.and_eq_true, decide_eq_true_eq] at h
  exact h.2
theorem good_of {xs : List D} (h : shA 39 xs) (hl : xs.length ≤ 1000) : goodB (.tuple xs) = true := by
  have a := shD_tup h
  unfold goodB
  simp only [Bool.and_eq_true, decide_eq_true_eq]
  exact ⟨⟨a.1, a.2⟩, hl⟩
theorem shA_app {k : Nat} {xs ys : List D} (h : shA k xs) (g : shA k ys) : shA k (xs ++ ys) := fun x hx => (List.mem_append.1 hx).elim (h x) (g x)
theorem shA_cut {k : Nat} {xs : List D} (h : shA k xs) (a b : Option Int) : shA k (cutD xs a b) := fun x hx => h x (List.mem_of_mem_drop (List.mem_of_mem_take hx))
theorem len_cut (xs : List D) (a b : Option Int) : (cutD xs a b).length ≤ xs.length := by
  unfold cutD
  simp
  omega
theorem shA_one {k : Nat} {x : D} (h : shD k x) : shA k [x] := fun y hy => by rw [List.mem_singleton.1 hy]; exact h
theorem atI_mem {xs : List D} {r : Int} (h0 : 0 ≤ r) (h1 : r < (xs.length : Int)) : ∃ d, atI xs r = some d ∧ d ∈ xs := by
  obtain ⟨n, rfl⟩ := Int.eq_ofNat_of_zero_le h0
  have hl : n < xs.length := by omega
  exact ⟨xs[n], atI_nat (by simp [hl]), List.getElem_mem hl⟩
end LW
/- part LO -/
set_option Elab.async false
set_option linter.all false
set_option maxRecDepth 100000
set_option maxHeartbeats 4000000
namespace LW
open PySem L2 DL
def shB (k : Nat) (d : D) : Bool := d.canLay0 && decide (d.depth ≤ k)
theorem shB_sh {k : Nat} {d : D} (h : shB k d = true) : shD k d := by
  unfold shB at h
  simp only [Bool.and_eq_true, decide_eq_true_eq] at h
  exact h
theorem sh_mem {k : Nat} {xs : List D} {x : D} (h : xs.all (shB k) = true) (hx : x ∈ xs) : shD k x := shB_sh (List.all_eq_true.1 h x hx)
def oddL : List D := [PyData.int (-1), PyData.int 0, PyData.int 1, PyData.int 2, PyData.int 400, PyData.int 401, PyData.bool true, PyData.bool false, PyData.none, PyData.str (Str.ofString ""), PyData.str (Str.ofString "0"), PyData.tuple [], PyData.tuple [PyData.int 0], PyData.tuple [PyData.none], PyData.tuple [PyData.tuple [PyData.int 0], PyData.tuple [PyData.none]], PyData.tuple [PyData.tuple [PyData.int 0], PyData.tuple [PyData.int 0]], PyData.list [PyData.int 0], PyData.tuple [PyData.tuple [], PyData.tuple []], PyData.tuple [PyData.list [PyData.int 0], PyData.tuple [PyData.none]], PyData.tuple [PyData.tuple [PyData.int 0], PyData.list [PyData.none]], PyData.tuple [PyData.tuple [PyData.int 0, PyData.int 1], PyData.tuple [PyData.int 1, PyData.int 0]], PyData.tuple [PyData.tuple [PyData.int 1, PyData.int 0], PyData.tuple [PyData.int 1, PyData.int 0]], PyData.tuple [PyData.tuple [PyData.int 0, PyData.int 1], PyData.tuple [PyData.int 1]]]
theorem all_of {f : D → Bool} {xs : List D} (h : xs.all f = true) : ∀ d, d ∈ xs → f d = true := List.all_eq_true.1 h
theorem odd_ok (s : Int × Int) : ∃ d s', f__law_odd [.p (bagL s)] = .ok d [.p (bagL s')] ∧ goodB d = true ∧ shD 10 d := by
  obtain ⟨r, s', h0, h1, ht⟩ := take_ok s 23 (by decide) (by decide)
  have key : ∃ L : List D, L.length = 23 ∧ (∀ d ∈ L, (goodB d && shB 10 d) = true) ∧ f__law_odd [.p (bagL s)] = (match atI L r with | some d => .ok d [.p (bagL s')] | none => .stuck) := by
    simp [eVar_ap, eC_ap, eBin_ap, eUn_ap, eCB_ap, eCL_ap, aNil_ap, aCons_ap, eTup_ap, lLst_ap, eLst_ap, tTst_ap, tTru_ap, tAndD_ap, tOrD_ap, tNotD_ap, eIf_ap, eNot_ap, eBinL_ap, gN_ap, gT_ap, sNx_ap, sSeq_ap, sAsg_ap, sAsgL_ap, sDrop_ap, sRet_ap, sRetL_ap, sRetN_ap, sIf_ap, sBk_ap, sCt_ap, sFor_ap, iSeq_ap, iRng1_ap, iRng2_ap, tYesD_ap, lComp_ap, rNil_ap, rCons_ap, rLend_ap, eCall_ap, lCall_ap, eCallN_ap, lCallN_ap, eIxN_ap, sSetO_ap, eMO_ap, eLenO_ap, eTupO_ap, lListO_ap, eSl_ap, eIsi_ap, eChain_ap, lRep_ap, lRange1_ap, eBinPL_ap, eDct_ap, lDict0_ap, eGet2_ap, eCall0_ap, rLendC_ap, np_no, np_v, np_l, np_m, np_p, setV_ap, boolK_ap, eAnd_ap, eOr_ap, seq_nx, seq_rt, seq_rl, seq_ex, seq_bk, seq_ct, turn_nx, turn_ct, turn_bk, turn_rt, turn_rl, turn_ex, forD_nil, forD_cons, compD_nil, callD_ap, rs_ok, rs_okl, rs_ex, rl_okl, rl_ex, thru_ok, thru_okl, thru_ex, bodyF_ap, out_nx, out_rt, out_rl, out_stuck, seq_stuck, out_ex, atI_lit, dIx_tup, dIx_lst, fLen_tup, fLen_lst, bind_stuck, fl_stuck, put_some, bind_ok, bind_ex, fl_ok, fl_ex, truth, known, ixAt, getL, putL, npAt, outsOf, outOf, lent, toSl, lookS, conv, backD, slotsOf, Pt.run, dAdd, dSub, dLt, dLe, dGt, dGe, dIs, dIsnt, isNone, dSl, fInt, fTup, fList, int1, int2, flatD, seqOf, gsN, noOwn, wipeD, mergeD, mAppend, mInsert, mPop, mPopAt, dCat, Sl.own, fMin, fMax, f__law_odd, b__law_odd, ht]
    have hh : ∀ (L : List D) (e : DEnv), Fl.out [Sl.p (bagL s)] ((put (atI L r) (Sl.p (bagL s') :: e)).fl fun d e1 => Fl.rt d e1) = match atI L r with | some d => .ok d [.p (bagL s')] | none => .stuck := by
      intro L e
      cases atI L r <;> simp [eVar_ap, eC_ap, eBin_ap, eUn_ap, eCB_ap, eCL_ap, aNil_ap, aCons_ap, eTup_ap, lLst_ap, eLst_ap, tTst_ap, tTru_ap, tAndD_ap, tOrD_ap, tNotD_ap, eIf_ap, eNot_ap, eBinL_ap, gN_ap, gT_ap, sNx_ap, sSeq_ap, sAsg_ap, sAsgL_ap, sDrop_ap, sRet_ap, sRetL_ap, sRetN_ap, sIf_ap, sBk_ap, sCt_ap, sFor_ap, iSeq_ap, iRng1_ap, iRng2_ap, tYesD_ap, lComp_ap, rNil_ap, rCons_ap, rLend_ap, eCall_ap, lCall_ap, eCallN_ap, lCallN_ap, eIxN_ap, sSetO_ap, eMO_ap, eLenO_ap, eTupO_ap, lListO_ap, eSl_ap, eIsi_ap, eChain_ap, lRep_ap, lRange1_ap, eBinPL_ap, eDct_ap, lDict0_ap, eGet2_ap, eCall0_ap, rLendC_ap, np_no, np_v, np_l, np_m, np_p, setV_ap, boolK_ap, eAnd_ap, eOr_ap, seq_nx, seq_rt, seq_rl, seq_ex, seq_bk, seq_ct, turn_nx, turn_ct, turn_bk, turn_rt, turn_rl, turn_ex, forD_nil, forD_cons, compD_nil, callD_ap, rs_ok, rs_okl, rs_ex, rl_okl, rl_ex, thru_ok, thru_okl, thru_ex, bodyF_ap, out_nx, out_rt, out_rl, out_stuck, seq_stuck, out_ex, atI_lit, dIx_tup, dIx_lst, fLen_tup, fLen_lst, bind_stuck, fl_stuck, put_some, bind_ok, bind_ex, fl_ok, fl_ex, truth, known, ixAt, getL, putL, npAt, outsOf, outOf, lent, toSl, lookS, conv, backD, slotsOf, Pt.run, dAdd, dSub, dLt, dLe, dGt, dGe, dIs, dIsnt, isNone, dSl, fInt, fTup, fList, int1, int2, flatD, seqOf, gsN, noOwn, wipeD, mergeD, mAppend, mInsert, mPop, mPopAt, dCat, Sl.own, fMin, fMax, put]
    exact ⟨oddL, rfl, (fun d hd => by simpa using all_of (xs := oddL) (f := fun d => goodB d && shB 10 d) (by decide +kernel) d hd), hh oddL _⟩
  obtain ⟨L, hL, hg, he⟩ := key
  obtain ⟨d, hd, hm⟩ := atI_mem (xs := L) h0 (by omega)
  have := hg d hm
  rw [Bool.and_eq_true] at this
  exact ⟨d, s', by rw [he, hd], this.1, shB_sh this.2⟩
end LW
/- part LWP -/
set_option Elab.async false
set_option linter.all false
set_option maxRecDepth 100000
set_option maxHeartbeats 4000000
/-! LWP: what holds behind a block of statements on data. -/
namespace LW
open PySem L2 DL
structure Post where
  nx : DEnv → Prop
  rt : D → DEnv → Prop := fun _ _ => False
  rl : List D → DEnv → Prop := fun _ _ => False
  ex : Xc → DEnv → Prop := fun _ _ => False
  bk : DEnv → Prop := fun _ => False
  ct : DEnv → Prop := fun _ => False
def wp (r : Fl) (p : Post) : Prop := match r with
  | .nx e => p.nx e
  | .rt d e => p.rt d e
  | .rl d e => p.rl d e
  | .ex x e => p.ex x e
  | .bk e => p.bk e
  | .ct e => p.ct e
  | .stuck => False
theorem wp_nx (e : DEnv) (p : Post) : wp (.nx e) p = p.nx e := rfl
theorem wp_rt (d : D) (e : DEnv) (p : Post) : wp (.rt d e) p = p.rt d e := rfl
theorem wp_rl (d : List D) (e : DEnv) (p : Post) : wp (.rl d e) p = p.rl d e := rfl
theorem wp_ex (x : Xc) (e : DEnv) (p : Post) : wp (.ex x e) p = p.ex x e := rfl
theorem wp_bk (e : DEnv) (p : Post) : wp (.bk e) p = p.bk e := rfl
theorem wp_ct (e : DEnv) (p : Post) : wp (.ct e) p = p.ct e := rfl
theorem wp_seq (r : Fl) (t : DS) (p : Post) : wp (r.seq t) p = wp r { p with nx := fun e => wp (t e) p } := by
  cases r <;> rfl
theorem wp_mono {r : Fl} {p q : Post} (h : wp r p) (a : ∀ e, p.nx e → q.nx e) (b : ∀ d e, p.rt d e → q.rt d e := by intros; first | assumption | contradiction) (c : ∀ d e, p.rl d e → q.rl d e := by intros; first | assumption | contradiction) (d : ∀ d e, p.ex d e → q.ex d e := by intros; first | assumption | contradiction) (e : ∀ e, p.bk e → q.bk e := by intros; first | assumption | contradiction) (f : ∀ e, p.ct e → q.ct e := by intros; first | assumption | contradiction) : wp r q := by
  cases r with
  | nx _ => exact a _ h
  | rt _ _ => exact b _ _ h
  | rl _ _ => exact c _ _ h
  | ex _ _ => exact d _ _ h
  | bk _ => exact e _ h
  | ct _ => exact f _ h
  | stuck => exact h
def wpO (o : Option DEnv) (N : DEnv → Prop) : Prop := match o with
  | some e => N e
  | none => False
theorem wpO_some (e : DEnv) (N : DEnv → Prop) : wpO (some e) N = N e := rfl
theorem wp_forI {g : DG} {b : DS} {p : Post} (I : Nat → DEnv → Prop) : ∀ (ds : List D) (n : Nat) (env : DEnv), (∀ i d e, ds[i]? = some d → I (n + i) e → wpO (g d e) fun e1 => wp (b e1) { p with nx := I (n + i + 1), ct := I (n + i + 1), bk := p.nx }) → I n env → (∀ e, I (n + ds.length) e → p.nx e) → wp (forD g b ds env) p
  | [], n, env, _, h0, k => k env h0
  | d :: ds, n, env, h, h0, k => by
    have h1 := h 0 d env rfl h0
    have ih := wp_forI (g := g) (b := b) (p := p) I ds (n + 1)
    rw [forD_cons]
    cases q : g d env with
    | none => rw [q] at h1; exact h1
    | some e1 =>
      rw [q] at h1
      have h1' : wp (b e1) { p with nx := I (n + 1), ct := I (n + 1), bk := p.nx } := h1
      have go : ∀ e, I (n + 1) e → wp (forD g b ds e) p := fun e he => ih e (fun i d' e' hi hp => by
        have := h (i + 1) d' e' (by simpa using hi) (by rw [show n + (i + 1) = n + 1 + i by omega]; exact hp)
        rw [show n + (i + 1) + 1 = n + 1 + i + 1 by omega] at this
        exact this) he (fun e' he' => k e' (by rw [List.length_cons, show n + (ds.length + 1) = n + 1 + ds.length by omega]; exact he'))
      show wp ((b e1).turn (forD g b ds)) p
      cases q2 : b e1 with
      | nx e => rw [q2] at h1'; exact go e h1'
      | ct e => rw [q2] at h1'; exact go e h1'
      | bk e => rw [q2] at h1'; exact h1'
      | rt d e => rw [q2] at h1'; exact h1'
      | rl d e => rw [q2] at h1'; exact h1'
      | ex d e => rw [q2] at h1'; exact h1'
      | stuck => rw [q2] at h1'; exact h1'
/-- a loop, by what holds at its head -/
theorem wp_for {g : DG} {b : DS} {p : Post} {ds : List D} {env : DEnv} (I : DEnv → Prop) (h0 : I env) (h : ∀ d e, d ∈ ds → I e → wpO (g d e) fun e1 => wp (b e1) { p with nx := I, ct := I, bk := p.nx }) (k : ∀ e, I e → p.nx e) : wp (forD g b ds env) p :=
  wp_forI (fun _ => I) ds 0 env (fun i d e hi hp => h d e (List.mem_of_getElem? hi) hp) h0 k
/-- a loop, by how many parts are behind -/
theorem wp_forN {g : DG} {b : DS} {p : Post} {ds : List D} {env : DEnv} (I : Nat → DEnv → Prop) (h0 : I 0 env) (h : ∀ i d e, ds[i]? = some d → I i e → wpO (g d e) fun e1 => wp (b e1) { p with nx := I (i + 1), ct := I (i + 1), bk := p.nx }) (k : ∀ e, I ds.length e → p.nx e) : wp (forD g b ds env) p :=
  wp_forI I ds 0 env (fun i d e hi hp => by rw [Nat.zero_add] at hp ⊢; exact h i d e hi hp) h0 (by rw [Nat.zero_add]; exact k)
/-- a while loop: m tells how often it goes on at most -/
theorem wp_while {t : DT} {b : DS} {p : Post} (I : Nat → DEnv → Prop) : ∀ (f m : Nat) (env : DEnv), m < f → I m env → (∀ m e, I m e → ∃ c e1, t e = .ok c e1 ∧ (c = false → p.nx e1) ∧ (c = true → wp (b e1) { p with nx := fun e => ∃ k, k < m ∧ I k e, ct := fun e => ∃ k, k < m ∧ I k e, bk := p.nx })) → wp (whileD t b f env) p
  | 0, m, env, hm, _, _ => by omega
  | f + 1, m, env, hm, h0, h => by
    obtain ⟨c, e1, a, x, y⟩ := h m env h0
    show wp ((t env).fl fun b' e1 => if b' then (b e1).turn (whileD t b f) else .nx e1) p
    rw [a, fl_ok]
    cases c with
    | false => exact x rfl
    | true =>
      have y' := y rfl
      show wp ((b e1).turn (whileD t b f)) p
      have go : ∀ e, (∃ k, k < m ∧ I k e) → wp (whileD t b f e) p := fun e ⟨k, hk, hI⟩ => wp_while I f k e (by omega) hI h
      cases q2 : b e1 with
      | nx e => rw [q2] at y'; exact go e y'
      | ct e => rw [q2] at y'; exact go e y'
      | bk e => rw [q2] at y'; exact y'
      | rt d e => rw [q2] at y'; exact y'
      | rl d e => rw [q2] at y'; exact y'
      | ex d e => rw [q2] at y'; exact y'
      | stuck => rw [q2] at y'; exact y'
theorem fn_wp {n : Nat} {b : DS} {args : DEnv} {Q : D → DEnv → Prop} (h : wp (b (args ++ List.replicate (n - args.length) Sl.no)) { nx := fun e => Q .none (outsOf args e), rt := fun d e => Q d (outsOf args e) }) : ∃ d outs, bodyF n b args = .ok d outs ∧ Q d outs := by
  rw [bodyF_ap]
  cases q : b (args ++ List.replicate (n - args.length) Sl.no) with
  | nx e => rw [q] at h; exact ⟨_, _, rfl, h⟩
  | rt d e => rw [q] at h; exact ⟨_, _, rfl, h⟩
  | rl d e => rw [q] at h; exact h.elim
  | ex d e => rw [q] at h; exact h.elim
  | bk e => rw [q] at h; exact h.elim
  | ct e => rw [q] at h; exact h.elim
  | stuck => rw [q] at h; exact h.elim
theorem fn_wpl {n : Nat} {b : DS} {args : DEnv} {Q : List D → DEnv → Prop} (h : wp (b (args ++ List.replicate (n - args.length) Sl.no)) { nx := fun e => False, rl := fun d e => Q d (outsOf args e) }) : ∃ d outs, bodyF n b args = .okl d outs ∧ Q d outs := by
  rw [bodyF_ap]
  cases q : b (args ++ List.replicate (n - args.length) Sl.no) with
  | nx e => rw [q] at h; exact h.elim
  | rt d e => rw [q] at h; exact h.elim
  | rl d e => rw [q] at h; exact ⟨_, _, rfl, h⟩
  | ex d e => rw [q] at h; exact h.elim
  | bk e => rw [q] at h; exact h.elim
  | ct e => rw [q] at h; exact h.elim
  | stuck => rw [q] at h; exact h.elim
end LW
/- part K16L -/
set_option Elab.async false
set_option linter.all false
set_option maxRecDepth 100000
set_option maxHeartbeats 4000000
namespace K16
open PySem L2 DL LW
theorem bent_ok (s : Int × Int) (xs : List D) (hx : shA 30 xs) (h0 : 0 < xs.length) (h1 : xs.length ≤ 100) : ∃ d s', f__law_bent [.p (bagL s), .v (.tuple xs)] = .ok d [.p (bagL s'), .no] ∧ goodB d = true := by
  obtain ⟨j, s1, a0, a1, t1⟩ := take_ok s xs.length (by omega) (by omega)
  obtain ⟨k, s2, b0, b1, t2⟩ := take_ok s1 7 (by decide) (by decide)
  have c : ∀ a b, (cutD xs a b).length ≤ 100 := fun a b => Nat.le_trans (len_cut xs a b) h1
  have hx' : shA 39 xs := fun x h => shD_up (by decide) (hx x h)
  have l0 : (cutD xs none (some j)).length + (cutD xs (some (j + 1)) none).length ≤ 100000 := by have := c none (some j); have := c (some (j+1)) none; omega
  obtain ⟨y, hy, my⟩ := atI_mem (xs := xs) a0 a1
  have sy := shA_one (hx' y my)
  have c1 := c none (some j)
  have c2 := c (some (j + 1)) none
  have c3 := c (some j) none
  have c4 := c (some 1) none
  by_cases k0 : k = 0
  · refine ⟨.tuple (cutD xs none (some j) ++ cutD xs (some (j + 1)) none), s2, by simp [eVar_ap, eC_ap, eBin_ap, eUn_ap, eCB_ap, eCL_ap, aNil_ap, aCons_ap, eTup_ap, lLst_ap, eLst_ap, tTst_ap, tTru_ap, tAndD_ap, tOrD_ap, tNotD_ap, eIf_ap, eNot_ap, eBinL_ap, gN_ap, gT_ap, sNx_ap, sSeq_ap, sAsg_ap, sAsgL_ap, sDrop_ap, sRet_ap, sRetL_ap, sRetN_ap, sIf_ap, sBk_ap, sCt_ap, sFor_ap, iSeq_ap, iRng1_ap, iRng2_ap, tYesD_ap, lComp_ap, rNil_ap, rCons_ap, rLend_ap, eCall_ap, lCall_ap, eCallN_ap, lCallN_ap, eIxN_ap, sSetO_ap, eMO_ap, eLenO_ap, eTupO_ap, lListO_ap, eSl_ap, eIsi_ap, eChain_ap, lRep_ap, lRange1_ap, eBinPL_ap, eDct_ap, lDict0_ap, eGet2_ap, eCall0_ap, rLendC_ap, np_no, np_v, np_l, np_m, np_p, setV_ap, boolK_ap, eAnd_ap, eOr_ap, seq_nx, seq_rt, seq_rl, seq_ex, seq_bk, seq_ct, turn_nx, turn_ct, turn_bk, turn_rt, turn_rl, turn_ex, forD_nil, forD_cons, compD_nil, callD_ap, rs_ok, rs_okl, rs_ex, rl_okl, rl_ex, thru_ok, thru_okl, thru_ex, bodyF_ap, out_nx, out_rt, out_rl, out_stuck, seq_stuck, out_ex, atI_lit, dIx_tup, dIx_lst, fLen_tup, fLen_lst, bind_stuck, fl_stuck, put_some, bind_ok, bind_ex, fl_ok, fl_ex, truth, known, ixAt, getL, putL, npAt, outsOf, outOf, lent, toSl, lookS, conv, backD, slotsOf, Pt.run, dAdd, dSub, dLt, dLe, dGt, dGe, dIs, dIsnt, isNone, dSl, fInt, fTup, fList, int1, int2, flatD, seqOf, gsN, noOwn, wipeD, mergeD, mAppend, mInsert, mPop, mPopAt, dCat, Sl.own, fMin, fMax, wp_nx, wp_rt, wp_rl, wp_ex, wp_bk, wp_ct, wp_seq, wpO_some, f__law_bent, K16.b__law_bent, t1, t2, k0, l0], good_of (shA_app (shA_cut hx' _ _) (shA_cut hx' _ _)) ?_⟩
    rw [List.length_append]; omega
  by_cases k1 : k = 1
  · have l1 : (cutD xs none (some j)).length + 1 ≤ 100000 := by omega
    have l2 : (cutD xs none (some j)).length + 1 + (cutD xs (some j) none).length ≤ 100000 := by omega
    refine ⟨.tuple ((cutD xs none (some j) ++ [y]) ++ cutD xs (some j) none), s2, by simp [eVar_ap, eC_ap, eBin_ap, eUn_ap, eCB_ap, eCL_ap, aNil_ap, aCons_ap, eTup_ap, lLst_ap, eLst_ap, tTst_ap, tTru_ap, tAndD_ap, tOrD_ap, tNotD_ap, eIf_ap, eNot_ap, eBinL_ap, gN_ap, gT_ap, sNx_ap, sSeq_ap, sAsg_ap, sAsgL_ap, sDrop_ap, sRet_ap, sRetL_ap, sRetN_ap, sIf_ap, sBk_ap, sCt_ap, sFor_ap, iSeq_ap, iRng1_ap, iRng2_ap, tYesD_ap, lComp_ap, rNil_ap, rCons_ap, rLend_ap, eCall_ap, lCall_ap, eCallN_ap, lCallN_ap, eIxN_ap, sSetO_ap, eMO_ap, eLenO_ap, eTupO_ap, lListO_ap, eSl_ap, eIsi_ap, eChain_ap, lRep_ap, lRange1_ap, eBinPL_ap, eDct_ap, lDict0_ap, eGet2_ap, eCall0_ap, rLendC_ap, np_no, np_v, np_l, np_m, np_p, setV_ap, boolK_ap, eAnd_ap, eOr_ap, seq_nx, seq_rt, seq_rl, seq_ex, seq_bk, seq_ct, turn_nx, turn_ct, turn_bk, turn_rt, turn_rl, turn_ex, forD_nil, forD_cons, compD_nil, callD_ap, rs_ok, rs_okl, rs_ex, rl_okl, rl_ex, thru_ok, thru_okl, thru_ex, bodyF_ap, out_nx, out_rt, out_rl, out_stuck, seq_stuck, out_ex, atI_lit, dIx_tup, dIx_lst, fLen_tup, fLen_lst, bind_stuck, fl_stuck, put_some, bind_ok, bind_ex, fl_ok, fl_ex, truth, known, ixAt, getL, putL, npAt, outsOf, outOf, lent, toSl, lookS, conv, backD, slotsOf, Pt.run, dAdd, dSub, dLt, dLe, dGt, dGe, dIs, dIsnt, isNone, dSl, fInt, fTup, fList, int1, int2, flatD, seqOf, gsN, noOwn, wipeD, mergeD, mAppend, mInsert, mPop, mPopAt, dCat, Sl.own, fMin, fMax, wp_nx, wp_rt, wp_rl, wp_ex, wp_bk, wp_ct, wp_seq, wpO_some, f__law_bent, K16.b__law_bent, t1, t2, k1, hy, l1, l2], good_of (shA_app (shA_app (shA_cut hx' _ _) sy) (shA_cut hx' _ _)) ?_⟩
    simp only [List.length_append, List.length_cons, List.length_nil]; omega
  by_cases k2 : k = 2
  · refine ⟨.list xs, s2, by simp [eVar_ap, eC_ap, eBin_ap, eUn_ap, eCB_ap, eCL_ap, aNil_ap, aCons_ap, eTup_ap, lLst_ap, eLst_ap, tTst_ap, tTru_ap, tAndD_ap, tOrD_ap, tNotD_ap, eIf_ap, eNot_ap, eBinL_ap, gN_ap, gT_ap, sNx_ap, sSeq_ap, sAsg_ap, sAsgL_ap, sDrop_ap, sRet_ap, sRetL_ap, sRetN_ap, sIf_ap, sBk_ap, sCt_ap, sFor_ap, iSeq_ap, iRng1_ap, iRng2_ap, tYesD_ap, lComp_ap, rNil_ap, rCons_ap, rLend_ap, eCall_ap, lCall_ap, eCallN_ap, lCallN_ap, eIxN_ap, sSetO_ap, eMO_ap, eLenO_ap, eTupO_ap, lListO_ap, eSl_ap, eIsi_ap, eChain_ap, lRep_ap, lRange1_ap, eBinPL_ap, eDct_ap, lDict0_ap, eGet2_ap, eCall0_ap, rLendC_ap, np_no, np_v, np_l, np_m, np_p, setV_ap, boolK_ap, eAnd_ap, eOr_ap, seq_nx, seq_rt, seq_rl, seq_ex, seq_bk, seq_ct, turn_nx, turn_ct, turn_bk, turn_rt, turn_rl, turn_ex, forD_nil, forD_cons, compD_nil, callD_ap, rs_ok, rs_okl, rs_ex, rl_okl, rl_ex, thru_ok, thru_okl, thru_ex, bodyF_ap, out_nx, out_rt, out_rl, out_stuck, seq_stuck, out_ex, atI_lit, dIx_tup, dIx_lst, fLen_tup, fLen_lst, bind_stuck, fl_stuck, put_some, bind_ok, bind_ex, fl_ok, fl_ex, truth, known, ixAt, getL, putL, npAt, outsOf, outOf, lent, toSl, lookS, conv, backD, slotsOf, Pt.run, dAdd, dSub, dLt, dLe, dGt, dGe, dIs, dIsnt, isNone, dSl, fInt, fTup, fList, int1, int2, flatD, seqOf, gsN, noOwn, wipeD, mergeD, mAppend, mInsert, mPop, mPopAt, dCat, Sl.own, fMin, fMax, wp_nx, wp_rt, wp_rl, wp_ex, wp_bk, wp_ct, wp_seq, wpO_some, f__law_bent, K16.b__law_bent, t1, t2, k2], ?_⟩
    have := shD_lst hx'
    simp [goodB, this.1, this.2]
  have l4 : 1 + (cutD xs (some 1) none).length ≤ 100000 := by omega
  by_cases k3 : k = 3
  · obtain ⟨r, s3, d0, d1, t3⟩ := take_ok s2 9 (by decide) (by decide)
    obtain ⟨z, hz, mz⟩ := atI_mem (xs := [.str "", .str "Cut", .str "cuts", .str "cu", .str "mark", .str "undo", .str "splitt", .str "merged", .str "turned"]) d0 d1
    have sz : shD 39 z := sh_mem (by decide +kernel) mz
    refine ⟨.tuple ([z] ++ cutD xs (some 1) none), s3, by simp [eVar_ap, eC_ap, eBin_ap, eUn_ap, eCB_ap, eCL_ap, aNil_ap, aCons_ap, eTup_ap, lLst_ap, eLst_ap, tTst_ap, tTru_ap, tAndD_ap, tOrD_ap, tNotD_ap, eIf_ap, eNot_ap, eBinL_ap, gN_ap, gT_ap, sNx_ap, sSeq_ap, sAsg_ap, sAsgL_ap, sDrop_ap, sRet_ap, sRetL_ap, sRetN_ap, sIf_ap, sBk_ap, sCt_ap, sFor_ap, iSeq_ap, iRng1_ap, iRng2_ap, tYesD_ap, lComp_ap, rNil_ap, rCons_ap, rLend_ap, eCall_ap, lCall_ap, eCallN_ap, lCallN_ap, eIxN_ap, sSetO_ap, eMO_ap, eLenO_ap, eTupO_ap, lListO_ap, eSl_ap, eIsi_ap, eChain_ap, lRep_ap, lRange1_ap, eBinPL_ap, eDct_ap, lDict0_ap, eGet2_ap, eCall0_ap, rLendC_ap, np_no, np_v, np_l, np_m, np_p, setV_ap, boolK_ap, eAnd_ap, eOr_ap, seq_nx, seq_rt, seq_rl, seq_ex, seq_bk, seq_ct, turn_nx, turn_ct, turn_bk, turn_rt, turn_rl, turn_ex, forD_nil, forD_cons, compD_nil, callD_ap, rs_ok, rs_okl, rs_ex, rl_okl, rl_ex, thru_ok, thru_okl, thru_ex, bodyF_ap, out_nx, out_rt, out_rl, out_stuck, seq_stuck, out_ex, atI_lit, dIx_tup, dIx_lst, fLen_tup, fLen_lst, bind_stuck, fl_stuck, put_some, bind_ok, bind_ex, fl_ok, fl_ex, truth, known, ixAt, getL, putL, npAt, outsOf, outOf, lent, toSl, lookS, conv, backD, slotsOf, Pt.run, dAdd, dSub, dLt, dLe, dGt, dGe, dIs, dIsnt, isNone, dSl, fInt, fTup, fList, int1, int2, flatD, seqOf, gsN, noOwn, wipeD, mergeD, mAppend, mInsert, mPop, mPopAt, dCat, Sl.own, fMin, fMax, wp_nx, wp_rt, wp_rl, wp_ex, wp_bk, wp_ct, wp_seq, wpO_some, f__law_bent, K16.b__law_bent, t1, t2, t3, k3, hz, l4], good_of (shA_app (shA_one sz) (shA_cut hx' _ _)) ?_⟩
    simp only [List.length_append, List.length_cons, List.length_nil]; omega
  by_cases k4 : k = 4
  · obtain ⟨r, s3, d0, d1, t3⟩ := take_ok s2 15 (by decide) (by decide)
    obtain ⟨z, hz, mz⟩ := atI_mem (xs := deedWs) d0 d1
    have sz : shD 39 z := sh_mem (by decide +kernel) mz
    refine ⟨.tuple ([z] ++ cutD xs (some 1) none), s3, by simp [eVar_ap, eC_ap, eBin_ap, eUn_ap, eCB_ap, eCL_ap, aNil_ap, aCons_ap, eTup_ap, lLst_ap, eLst_ap, tTst_ap, tTru_ap, tAndD_ap, tOrD_ap, tNotD_ap, eIf_ap, eNot_ap, eBinL_ap, gN_ap, gT_ap, sNx_ap, sSeq_ap, sAsg_ap, sAsgL_ap, sDrop_ap, sRet_ap, sRetL_ap, sRetN_ap, sIf_ap, sBk_ap, sCt_ap, sFor_ap, iSeq_ap, iRng1_ap, iRng2_ap, tYesD_ap, lComp_ap, rNil_ap, rCons_ap, rLend_ap, eCall_ap, lCall_ap, eCallN_ap, lCallN_ap, eIxN_ap, sSetO_ap, eMO_ap, eLenO_ap, eTupO_ap, lListO_ap, eSl_ap, eIsi_ap, eChain_ap, lRep_ap, lRange1_ap, eBinPL_ap, eDct_ap, lDict0_ap, eGet2_ap, eCall0_ap, rLendC_ap, np_no, np_v, np_l, np_m, np_p, setV_ap, boolK_ap, eAnd_ap, eOr_ap, seq_nx, seq_rt, seq_rl, seq_ex, seq_bk, seq_ct, turn_nx, turn_ct, turn_bk, turn_rt, turn_rl, turn_ex, forD_nil, forD_cons, compD_nil, callD_ap, rs_ok, rs_okl, rs_ex, rl_okl, rl_ex, thru_ok, thru_okl, thru_ex, bodyF_ap, out_nx, out_rt, out_rl, out_stuck, seq_stuck, out_ex, atI_lit, dIx_tup, dIx_lst, fLen_tup, fLen_lst, bind_stuck, fl_stuck, put_some, bind_ok, bind_ex, fl_ok, fl_ex, truth, known, ixAt, getL, putL, npAt, outsOf, outOf, lent, toSl, lookS, conv, backD, slotsOf, Pt.run, dAdd, dSub, dLt, dLe, dGt, dGe, dIs, dIsnt, isNone, dSl, fInt, fTup, fList, int1, int2, flatD, seqOf, gsN, noOwn, wipeD, mergeD, mAppend, mInsert, mPop, mPopAt, dCat, Sl.own, fMin, fMax, wp_nx, wp_rt, wp_rl, wp_ex, wp_bk, wp_ct, wp_seq, wpO_some, f__law_bent, K16.b__law_bent, t1, t2, t3, k4, words_ok, hz, l4], good_of (shA_app (shA_one sz) (shA_cut hx' _ _)) ?_⟩
    simp only [List.length_append, List.length_cons, List.length_nil]; omega
  · obtain ⟨z, s3, t3, gz, sz⟩ := odd_ok s2
    have l1 : (cutD xs none (some j)).length + 1 ≤ 100000 := by omega
    have l2 : (cutD xs none (some j)).length + 1 + (cutD xs (some (j + 1)) none).length ≤ 100000 := by omega
    refine ⟨.tuple ((cutD xs none (some j) ++ [z]) ++ cutD xs (some (j + 1)) none), s3, by simp [eVar_ap, eC_ap, eBin_ap, eUn_ap, eCB_ap, eCL_ap, aNil_ap, aCons_ap, eTup_ap, lLst_ap, eLst_ap, tTst_ap, tTru_ap, tAndD_ap, tOrD_ap, tNotD_ap, eIf_ap, eNot_ap, eBinL_ap, gN_ap, gT_ap, sNx_ap, sSeq_ap, sAsg_ap, sAsgL_ap, sDrop_ap, sRet_ap, sRetL_ap, sRetN_ap, sIf_ap, sBk_ap, sCt_ap, sFor_ap, iSeq_ap, iRng1_ap, iRng2_ap, tYesD_ap, lComp_ap, rNil_ap, rCons_ap, rLend_ap, eCall_ap, lCall_ap, eCallN_ap, lCallN_ap, eIxN_ap, sSetO_ap, eMO_ap, eLenO_ap, eTupO_ap, lListO_ap, eSl_ap, eIsi_ap, eChain_ap, lRep_ap, lRange1_ap, eBinPL_ap, eDct_ap, lDict0_ap, eGet2_ap, eCall0_ap, rLendC_ap, np_no, np_v, np_l, np_m, np_p, setV_ap, boolK_ap, eAnd_ap, eOr_ap, seq_nx, seq_rt, seq_rl, seq_ex, seq_bk, seq_ct, turn_nx, turn_ct, turn_bk, turn_rt, turn_rl, turn_ex, forD_nil, forD_cons, compD_nil, callD_ap, rs_ok, rs_okl, rs_ex, rl_okl, rl_ex, thru_ok, thru_okl, thru_ex, bodyF_ap, out_nx, out_rt, out_rl, out_stuck, seq_stuck, out_ex, atI_lit, dIx_tup, dIx_lst, fLen_tup, fLen_lst, bind_stuck, fl_stuck, put_some, bind_ok, bind_ex, fl_ok, fl_ex, truth, known, ixAt, getL, putL, npAt, outsOf, outOf, lent, toSl, lookS, conv, backD, slotsOf, Pt.run, dAdd, dSub, dLt, dLe, dGt, dGe, dIs, dIsnt, isNone, dSl, fInt, fTup, fList, int1, int2, flatD, seqOf, gsN, noOwn, wipeD, mergeD, mAppend, mInsert, mPop, mPopAt, dCat, Sl.own, fMin, fMax, wp_nx, wp_rt, wp_rl, wp_ex, wp_bk, wp_ct, wp_seq, wpO_some, f__law_bent, K16.b__law_bent, t1, t2, t3, k0, k1, k2, k3, k4, l1, l2], good_of (shA_app (shA_app (shA_cut hx' _ _) (shA_one ?_)) (shA_cut hx' _ _)) ?_⟩
    · exact shD_up (by decide) sz
    simp only [List.length_append, List.length_cons, List.length_nil]; omega
theorem in_twosL (w : Str) : dIn (.str w) (.list [.str "cut", .str "part", .str "sew"]) = some (.bool (inTwos w)) := rfl
def wordB : D → Bool
  | .str u => (inOnes u || inTwos u) && shB 1 (.str u)
  | _ => false
theorem word_of {w : D} (h : w ∈ deedWs) : ∃ u, w = .str u ∧ (inOnes u || inTwos u) = true ∧ shD 1 (.str u) := by
  have := all_of (xs := deedWs) (f := wordB) (by decide +kernel) w h
  cases w <;> simp [wordB] at this
  exact ⟨_, rfl, by simpa using this.1, shB_sh this.2⟩
theorem drawn_ok (S i w : D) (d e f g : Sl) (s : Int × Int) (n : Int) : ∃ ys s', compD (gN 8) tYesD (eBin dSub (eCallN 2 f__law_take (rLendC 2 (rCons (eC (.int 500)) rNil))) (eC (.int 40))) [8] (rngD 0 n) [.v S, .v i, .l (bagL s), .v w, d, e, f, g, .no] = .ok ys [.v S, .v i, .l (bagL s'), .v w, d, e, f, g, .no] ∧ ys.length = n.toNat ∧ (∀ y, y ∈ ys → ∃ j, y = .int j) := by
  obtain ⟨ys, en, a, b, c, s', rfl⟩ := comp_inv (g := gN 8) (e := eBin dSub (eCallN 2 f__law_take (rLendC 2 (rCons (eC (.int 500)) rNil))) (eC (.int 40))) (vs := [8]) (fun en => ∃ s, en = [.v S, .v i, .l (bagL s), .v w, d, e, f, g, .no]) (fun y => ∃ j, y = .int j) (rngD 0 n) [.v S, .v i, .l (bagL s), .v w, d, e, f, g, .no] (by
    rintro x _ hx ⟨s, rfl⟩
    obtain ⟨r, s', r0, r1, ht⟩ := take_ok s 500 (by decide) (by decide)
    refine ⟨[.v S, .v i, .l (bagL s), .v w, d, e, f, g, .v x], .int (r - 40), [.v S, .v i, .l (bagL s'), .v w, d, e, f, g, .v x], rfl, ?_, ⟨_, rfl⟩, ⟨s', rfl⟩⟩
    simp [eVar_ap, eC_ap, eBin_ap, eUn_ap, eCB_ap, eCL_ap, aNil_ap, aCons_ap, eTup_ap, lLst_ap, eLst_ap, tTst_ap, tTru_ap, tAndD_ap, tOrD_ap, tNotD_ap, eIf_ap, eNot_ap, eBinL_ap, gN_ap, gT_ap, sNx_ap, sSeq_ap, sAsg_ap, sAsgL_ap, sDrop_ap, sRet_ap, sRetL_ap, sRetN_ap, sIf_ap, sBk_ap, sCt_ap, sFor_ap, iSeq_ap, iRng1_ap, iRng2_ap, tYesD_ap, lComp_ap, rNil_ap, rCons_ap, rLend_ap, eCall_ap, lCall_ap, eCallN_ap, lCallN_ap, eIxN_ap, sSetO_ap, eMO_ap, eLenO_ap, eTupO_ap, lListO_ap, eSl_ap, eIsi_ap, eChain_ap, lRep_ap, lRange1_ap, eBinPL_ap, eDct_ap, lDict0_ap, eGet2_ap, eCall0_ap, rLendC_ap, np_no, np_v, np_l, np_m, np_p, setV_ap, boolK_ap, eAnd_ap, eOr_ap, seq_nx, seq_rt, seq_rl, seq_ex, seq_bk, seq_ct, turn_nx, turn_ct, turn_bk, turn_rt, turn_rl, turn_ex, forD_nil, forD_cons, compD_nil, callD_ap, rs_ok, rs_okl, rs_ex, rl_okl, rl_ex, thru_ok, thru_okl, thru_ex, bodyF_ap, out_nx, out_rt, out_rl, out_stuck, seq_stuck, out_ex, atI_lit, dIx_tup, dIx_lst, fLen_tup, fLen_lst, bind_stuck, fl_stuck, put_some, bind_ok, bind_ex, fl_ok, fl_ex, truth, known, ixAt, getL, putL, npAt, outsOf, outOf, lent, toSl, lookS, conv, backD, slotsOf, Pt.run, dAdd, dSub, dLt, dLe, dGt, dGe, dIs, dIsnt, isNone, dSl, fInt, fTup, fList, int1, int2, flatD, seqOf, gsN, noOwn, wipeD, mergeD, mAppend, mInsert, mPop, mPopAt, dCat, Sl.own, fMin, fMax, wp_nx, wp_rt, wp_rl, wp_ex, wp_bk, wp_ct, wp_seq, wpO_some, ht]) ⟨s, rfl⟩
  exact ⟨ys, s', a, by rw [b, len_rng]; simp, c⟩
abbrev S9 (S a b c d e f g : Sl) : DEnv := [S, a, b, c, d, e, f, g, .no]
def np7 (a b c d e f g : Sl) : Bool := np a && np b && np c && np d && np e && np f && np g
theorem law_true (ns : List Int) (h : ns.length ≤ 63) : ∃ outs, f_law [.v (scriptD ns)] = .ok (.bool true) outs := by
  suffices H : ∃ d outs, f_law [.v (scriptD ns)] = .ok d outs ∧ d = .bool true by
    obtain ⟨d, o, a, b⟩ := H
    exact ⟨o, by rw [a, b]⟩
  refine fn_wp (Q := fun d _ => d = .bool true) ?_
  have hs : ((scriptD ns)) = .list (ns.map PyData.int) := rfl
  obtain ⟨N, hN⟩ : ∃ N : Int, N = 1 + if 40 < (ns.length : Int) then 40 else (ns.length : Int) := ⟨_, rfl⟩
  have hN0 : -4611686018427387904 ≤ N ∧ N < 4611686018427387904 := by split at hN <;> omega
  simp [eVar_ap, eC_ap, eBin_ap, eUn_ap, eCB_ap, eCL_ap, aNil_ap, aCons_ap, eTup_ap, lLst_ap, eLst_ap, tTst_ap, tTru_ap, tAndD_ap, tOrD_ap, tNotD_ap, eIf_ap, eNot_ap, eBinL_ap, gN_ap, gT_ap, sNx_ap, sSeq_ap, sAsg_ap, sAsgL_ap, sDrop_ap, sRet_ap, sRetL_ap, sRetN_ap, sIf_ap, sBk_ap, sCt_ap, sFor_ap, iSeq_ap, iRng1_ap, iRng2_ap, tYesD_ap, lComp_ap, rNil_ap, rCons_ap, rLend_ap, eCall_ap, lCall_ap, eCallN_ap, lCallN_ap, eIxN_ap, sSetO_ap, eMO_ap, eLenO_ap, eTupO_ap, lListO_ap, eSl_ap, eIsi_ap, eChain_ap, lRep_ap, lRange1_ap, eBinPL_ap, eDct_ap, lDict0_ap, eGet2_ap, eCall0_ap, rLendC_ap, np_no, np_v, np_l, np_m, np_p, setV_ap, boolK_ap, eAnd_ap, eOr_ap, seq_nx, seq_rt, seq_rl, seq_ex, seq_bk, seq_ct, turn_nx, turn_ct, turn_bk, turn_rt, turn_rl, turn_ex, forD_nil, forD_cons, compD_nil, callD_ap, rs_ok, rs_okl, rs_ex, rl_okl, rl_ex, thru_ok, thru_okl, thru_ex, bodyF_ap, out_nx, out_rt, out_rl, out_stuck, seq_stuck, out_ex, atI_lit, dIx_tup, dIx_lst, fLen_tup, fLen_lst, bind_stuck, fl_stuck, put_some, bind_ok, bind_ex, fl_ok, fl_ex, truth, known, ixAt, getL, putL, npAt, outsOf, outOf, lent, toSl, lookS, conv, backD, slotsOf, Pt.run, dAdd, dSub, dLt, dLe, dGt, dGe, dIs, dIsnt, isNone, dSl, fInt, fTup, fList, int1, int2, flatD, seqOf, gsN, noOwn, wipeD, mergeD, mAppend, mInsert, mPop, mPopAt, dCat, Sl.own, fMin, fMax, wp_nx, wp_rt, wp_rl, wp_ex, wp_bk, wp_ct, wp_seq, wpO_some, b_law, hs, ← hN, hN0]
  refine wp_for (fun e => ∃ a b c d e' f g, e = S9 (.v (scriptD ns)) a b c d e' f g ∧ np7 a b c d e' f g = true) ⟨.no, .no, .no, .no, .no, .no, .no, rfl, rfl⟩ ?_ (fun _ _ => trivial)
  rintro x _ hx ⟨a, b, c, d, e, f, g, rfl, hn⟩
  obtain ⟨k, rfl, k0, k1⟩ := mem_rng hx
  obtain ⟨s, hbag⟩ := bag_ok ns k k0
  simp only [np7, Bool.and_eq_true] at hn
  obtain ⟨⟨⟨⟨⟨⟨na, nb⟩, nc⟩, nd⟩, ne⟩, nf⟩, ng⟩ := hn
  simp [eVar_ap, eC_ap, eBin_ap, eUn_ap, eCB_ap, eCL_ap, aNil_ap, aCons_ap, eTup_ap, lLst_ap, eLst_ap, tTst_ap, tTru_ap, tAndD_ap, tOrD_ap, tNotD_ap, eIf_ap, eNot_ap, eBinL_ap, gN_ap, gT_ap, sNx_ap, sSeq_ap, sAsg_ap, sAsgL_ap, sDrop_ap, sRet_ap, sRetL_ap, sRetN_ap, sIf_ap, sBk_ap, sCt_ap, sFor_ap, iSeq_ap, iRng1_ap, iRng2_ap, tYesD_ap, lComp_ap, rNil_ap, rCons_ap, rLend_ap, eCall_ap, lCall_ap, eCallN_ap, lCallN_ap, eIxN_ap, sSetO_ap, eMO_ap, eLenO_ap, eTupO_ap, lListO_ap, eSl_ap, eIsi_ap, eChain_ap, lRep_ap, lRange1_ap, eBinPL_ap, eDct_ap, lDict0_ap, eGet2_ap, eCall0_ap, rLendC_ap, np_no, np_v, np_l, np_m, np_p, setV_ap, boolK_ap, eAnd_ap, eOr_ap, seq_nx, seq_rt, seq_rl, seq_ex, seq_bk, seq_ct, turn_nx, turn_ct, turn_bk, turn_rt, turn_rl, turn_ex, forD_nil, forD_cons, compD_nil, callD_ap, rs_ok, rs_okl, rs_ex, rl_okl, rl_ex, thru_ok, thru_okl, thru_ex, bodyF_ap, out_nx, out_rt, out_rl, out_stuck, seq_stuck, out_ex, atI_lit, dIx_tup, dIx_lst, fLen_tup, fLen_lst, bind_stuck, fl_stuck, put_some, bind_ok, bind_ex, fl_ok, fl_ex, truth, known, ixAt, getL, putL, npAt, outsOf, outOf, lent, toSl, lookS, conv, backD, slotsOf, Pt.run, dAdd, dSub, dLt, dLe, dGt, dGe, dIs, dIsnt, isNone, dSl, fInt, fTup, fList, int1, int2, flatD, seqOf, gsN, noOwn, wipeD, mergeD, mAppend, mInsert, mPop, mPopAt, dCat, Sl.own, fMin, fMax, wp_nx, wp_rt, wp_rl, wp_ex, wp_bk, wp_ct, wp_seq, wpO_some, hbag, na, nb, nc, nd, ne, nf, ng, words_ok]
  refine wp_for (fun e => ∃ s c d e' f g, e = S9 (.v (scriptD ns)) (.v (.int k)) (.l (bagL s)) c d e' f g ∧ np7 .no .no c d e' f g = true) ⟨s, c, d, e, f, g, rfl, by simp [np7, np_no, nc, nd, ne, nf, ng]⟩ ?_ ?_
  · clear hbag nc nd ne nf ng
    rintro w _ hw ⟨s, c, d, e, f, g, rfl, hn⟩
    simp only [np7, Bool.and_eq_true] at hn
    obtain ⟨⟨⟨⟨⟨⟨_, _⟩, nc⟩, nd⟩, ne⟩, nf⟩, ng⟩ := hn
    obtain ⟨u, rfl, hu, su⟩ := word_of hw
    obtain ⟨M, hM⟩ : ∃ M : Int, M = 1 + if inTwos u = true then 1 else 0 := ⟨_, rfl⟩
    have hM0 : 1 ≤ M ∧ M ≤ 2 := by split at hM <;> omega
    have hM1 : -4611686018427387904 ≤ M ∧ M < 4611686018427387904 := by omega
    obtain ⟨ys, s1, hc, hl, hi⟩ := drawn_ok (scriptD ns) (.int k) (.str u) d e f g s M
    have hrl : (rngD 0 M).length ≤ 100000 := by rw [len_rng]; omega
    have hyl : ys.length ≤ 2 := by omega
    have hyl2 : 1 + ys.length ≤ 100000 := by omega
    have hall : ys.all isW = true := List.all_eq_true.2 fun y hy => by
      obtain ⟨j, rfl⟩ := hi y hy
      rfl
    have hd : isDeed (.tuple (.str u :: ys)) = true := by
      show (ys.all isW && (inOnes u && decide (ys.length = 1) || inTwos u && decide (ys.length = 2))) = true
      rw [hall]
      cases q : inTwos u with
      | true =>
        rw [q] at hM
        have : ys.length = 2 := by rw [hl, hM]; rfl
        simp [this]
      | false =>
        rw [q] at hM hu
        have : ys.length = 1 := by rw [hl, hM]; rfl
        simp at hu
        simp [this, hu]
    have gd : shA 30 (.str u :: ys) := by
      intro x hx
      rcases List.mem_cons.1 hx with rfl | hx
      · exact shD_up (by decide) su
      · obtain ⟨j, rfl⟩ := hi x hx
        exact shD_int _ _
    obtain ⟨t1, s2, hb, g1⟩ := bent_ok s1 (.str u :: ys) gd (by simp) (by simp; omega)
    obtain ⟨t2, s3, ho, g2, _⟩ := odd_ok s2
    have hdd := is_deed_ok (.tuple (.str u :: ys)) (fun xs hx => by cases hx; simp; omega)
    rw [hd] at hdd
    have i1 := is_deed_ok t1 (fun xs hx => by subst hx; exact (good_tup g1).1)
    have i2 := is_deed_ok t2 (fun xs hx => by subst hx; exact (good_tup g2).1)
    have j1 := law_is_deed_ok t1 (shD_up (by decide) (good_sh g1)) (fun xs hx => by subst hx; exact good_tup g1)
    have j2 := law_is_deed_ok t2 (shD_up (by decide) (good_sh g2)) (fun xs hx => by subst hx; exact good_tup g2)
    simp [eVar_ap, eC_ap, eBin_ap, eUn_ap, eCB_ap, eCL_ap, aNil_ap, aCons_ap, eTup_ap, lLst_ap, eLst_ap, tTst_ap, tTru_ap, tAndD_ap, tOrD_ap, tNotD_ap, eIf_ap, eNot_ap, eBinL_ap, gN_ap, gT_ap, sNx_ap, sSeq_ap, sAsg_ap, sAsgL_ap, sDrop_ap, sRet_ap, sRetL_ap, sRetN_ap, sIf_ap, sBk_ap, sCt_ap, sFor_ap, iSeq_ap, iRng1_ap, iRng2_ap, tYesD_ap, lComp_ap, rNil_ap, rCons_ap, rLend_ap, eCall_ap, lCall_ap, eCallN_ap, lCallN_ap, eIxN_ap, sSetO_ap, eMO_ap, eLenO_ap, eTupO_ap, lListO_ap, eSl_ap, eIsi_ap, eChain_ap, lRep_ap, lRange1_ap, eBinPL_ap, eDct_ap, lDict0_ap, eGet2_ap, eCall0_ap, rLendC_ap, np_no, np_v, np_l, np_m, np_p, setV_ap, boolK_ap, eAnd_ap, eOr_ap, seq_nx, seq_rt, seq_rl, seq_ex, seq_bk, seq_ct, turn_nx, turn_ct, turn_bk, turn_rt, turn_rl, turn_ex, forD_nil, forD_cons, compD_nil, callD_ap, rs_ok, rs_okl, rs_ex, rl_okl, rl_ex, thru_ok, thru_okl, thru_ex, bodyF_ap, out_nx, out_rt, out_rl, out_stuck, seq_stuck, out_ex, atI_lit, dIx_tup, dIx_lst, fLen_tup, fLen_lst, bind_stuck, fl_stuck, put_some, bind_ok, bind_ex, fl_ok, fl_ex, truth, known, ixAt, getL, putL, npAt, outsOf, outOf, lent, toSl, lookS, conv, backD, slotsOf, Pt.run, dAdd, dSub, dLt, dLe, dGt, dGe, dIs, dIsnt, isNone, dSl, fInt, fTup, fList, int1, int2, flatD, seqOf, gsN, noOwn, wipeD, mergeD, mAppend, mInsert, mPop, mPopAt, dCat, Sl.own, fMin, fMax, wp_nx, wp_rt, wp_rl, wp_ex, wp_bk, wp_ct, wp_seq, wpO_some, nc, nd, ne, nf, ng, in_twosL, ← hM, hM1, hc, hrl, hyl2, hdd, hb, ho, i1, i2, j1, j2, isi_bool, isBoolD]
    exact ⟨s3.1, s3.2, _, _, _, _, _, ⟨rfl, rfl, rfl, rfl, rfl, rfl⟩, rfl⟩
  · rintro _ ⟨s, c, d, e, f, g, rfl, hn⟩
    refine ⟨_, _, _, _, _, _, _, rfl, ?_⟩
    simp only [np7, Bool.and_eq_true] at hn ⊢
    simp [hn, np_v, np_l]
end K16
/- part K16E -/
set_option Elab.async false
set_option linter.all false
set_option maxRecDepth 100000
set_option maxHeartbeats 4000000
namespace K16
open PySem L2 DL LW
theorem tup_strs (K : PySem.W.Frag) : ∀ ss : List Str, (ss.map He.Dv.str).map (He.Dv.v K) = ss.map V.str
  | [] => rfl
  | s :: ss => by rw [List.map_cons, List.map_cons, tup_strs K ss]; rfl
def fn : List He.DefD := [defD "is_whole" s_is_whole, defD "is_deed" s_is_deed, defD "_law_take" s__law_take, defD "_law_odd" s__law_odd, defD "_law_bag" s__law_bag, defD "_law_words" s__law_words, defD "_law_is_deed" s__law_is_deed, defD "_law_bent" s__law_bent, defD "law" s_law]
def fa : List He.Fa := [.glo "is_whole", .glo "is_deed", .glo "_law_take", .glo "_law_odd", .glo "_law_bag", .glo "_law_words", .glo "_law_is_deed", .glo "_law_bent", .glo "law", .glo "ONES", .glo "TWOS", .free "all", .free "bool", .free "int", .free "isinstance", .free "len", .free "list", .free "min", .free "range", .free "str", .free "tuple"]
def exB (K : PySem.W.Frag) : Bool := He.tupB K "ONES" (c_ONES.map He.Dv.str) && (He.tupB K "TWOS" (c_TWOS.map He.Dv.str))
abbrev Rw : PySem.W.OpenRow := PySem.W.OpenLaw.row PySem.Challenge.rw_halfseams_k16_what_is_a_deed
abbrev hk : PySem.W.Hook := hookB 4 fa fn exB
def ob (s : PySem.W.SharedT) : He.AlD × Bool := obsB 4 fa fn exB (HandSHeadRun.getT s)
theorem ob_eq (s : PySem.W.SharedT) : ob s = hk.obs s.abs := obsB_eq (HandSHeadRun.getT_eq s)
def loose : List Str := (["ONES", "TWOS", "is_whole", "is_deed", "_law_odd", "_law_bag", "_law_take", "_law_words", "_law_is_deed", "_law_bent"] : List Str)
theorem run (w : World) : HandSHeadRun.RunEq Rw (PySem.W.view Rw.prog [13]) hk ob 100000 loose w := by
  intro os
  kernel_rfl
theorem txt {K : PySem.W.Frag} {h : Heap} {mg : Str → Option Value} (X : K.In h) (G : h.Ns mainGlobals mg) (c : He.SaysD fa fn K) (e : exB K = true) : Txt K mg where
  d_is_whole := c.def_ 0 (d := defD "is_whole" s_is_whole) rfl
  g_is_whole := He.glo_ok X G (c.fact 0 (f := .glo "is_whole") rfl)
  d_is_deed := c.def_ 1 (d := defD "is_deed" s_is_deed) rfl
  g_is_deed := He.glo_ok X G (c.fact 1 (f := .glo "is_deed") rfl)
  d__law_take := c.def_ 2 (d := defD "_law_take" s__law_take) rfl
  g__law_take := He.glo_ok X G (c.fact 2 (f := .glo "_law_take") rfl)
  d__law_odd := c.def_ 3 (d := defD "_law_odd" s__law_odd) rfl
  g__law_odd := He.glo_ok X G (c.fact 3 (f := .glo "_law_odd") rfl)
  d__law_bag := c.def_ 4 (d := defD "_law_bag" s__law_bag) rfl
  g__law_bag := He.glo_ok X G (c.fact 4 (f := .glo "_law_bag") rfl)
  d__law_words := c.def_ 5 (d := defD "_law_words" s__law_words) rfl
  g__law_words := He.glo_ok X G (c.fact 5 (f := .glo "_law_words") rfl)
  d__law_is_deed := c.def_ 6 (d := defD "_law_is_deed" s__law_is_deed) rfl
  g__law_is_deed := He.glo_ok X G (c.fact 6 (f := .glo "_law_is_deed") rfl)
  d__law_bent := c.def_ 7 (d := defD "_law_bent" s__law_bent) rfl
  g__law_bent := He.glo_ok X G (c.fact 7 (f := .glo "_law_bent") rfl)
  d_law := c.def_ 8 (d := defD "law" s_law) rfl
  g_law := He.glo_ok X G (c.fact 8 (f := .glo "law") rfl)
  c_ONES := ⟨He.glo_ok X G (c.fact 9 (f := .glo "ONES") rfl), fun H => by
    have q := He.tupB_ok (He.ba e).1 H
    rw [tup_strs] at q
    exact q⟩
  c_TWOS := ⟨He.glo_ok X G (c.fact 10 (f := .glo "TWOS") rfl), fun H => by
    have q := He.tupB_ok (He.ba e).2 H
    rw [tup_strs] at q
    exact q⟩
  n_all := He.free_ok X G (c.fact 11 (f := .free "all") rfl)
  n_bool := He.free_ok X G (c.fact 12 (f := .free "bool") rfl)
  n_int := He.free_ok X G (c.fact 13 (f := .free "int") rfl)
  n_isinstance := He.free_ok X G (c.fact 14 (f := .free "isinstance") rfl)
  n_len := He.free_ok X G (c.fact 15 (f := .free "len") rfl)
  n_list := He.free_ok X G (c.fact 16 (f := .free "list") rfl)
  n_min := He.free_ok X G (c.fact 17 (f := .free "min") rfl)
  n_range := He.free_ok X G (c.fact 18 (f := .free "range") rfl)
  n_str := He.free_ok X G (c.fact 19 (f := .free "str") rfl)
  n_tuple := He.free_ok X G (c.fact 20 (f := .free "tuple") rfl)
theorem law_fn {P : Program} {w : World} {K : PySem.W.Frag} {mg : Str → Option Value} {base : Heap} (T : Txt K mg) {fd : FuncData} (F : FnT K "law" s_law fd) : FnOk P w K mg base (L2.CX P w) 4 (He.ga K "law") fd P_law (spD K mg 1 f_law) := by
  have c_is_whole := ok_is_whole (P := P) (w := w) (base := base) T 
  have c_is_deed := ok_is_deed (P := P) (w := w) (base := base) T c_is_whole
  have c__law_take := ok__law_take (P := P) (w := w) (base := base) T 
  have c__law_odd := ok__law_odd (P := P) (w := w) (base := base) T c__law_take
  have c__law_bag := ok__law_bag (P := P) (w := w) (base := base) T 
  have c__law_words := ok__law_words (P := P) (w := w) (base := base) T 
  have c__law_is_deed := ok__law_is_deed (P := P) (w := w) (base := base) T c__law_words
  have c__law_bent := ok__law_bent (P := P) (w := w) (base := base) T c__law_take c__law_odd c__law_words
  exact ok_law (P := P) (w := w) (base := base) T c__law_bag c__law_words c_is_deed c__law_bent c__law_odd c__law_take c__law_is_deed F
end K16
open PySem PySem.W PySem.Calls PyProof.Rows
set_option maxRecDepth 100000 in
set_option maxHeartbeats 0 in
theorem PySem.Challenge.cw_halfseams_k16_what_is_a_deed_holds : PySem.Challenge.rw_halfseams_k16_what_is_a_deed.Holds := by
  w_on; o_law
  refine HandSHeadRun.head_any (r := (OpenLaw.row PySem.Challenge.rw_halfseams_k16_what_is_a_deed)) (q := view (OpenLaw.row PySem.Challenge.rw_halfseams_k16_what_is_a_deed).prog [13]) (H := K16.hk) (ob := K16.ob) (M := 100000) (loose := K16.loose) (d := HandSHeadRun.topDef (OpenLaw.row PySem.Challenge.rw_halfseams_k16_what_is_a_deed).prog 13) (kwd := []) K16.ob_eq
    (by kernel_rfl) (fun s => by kernel_rfl) K16.run (by kernel_rfl) (by kernel_rfl) (by kernel_rfl) (by rfl) (by first | assumption | decide +kernel) (by decide +kernel) ⟨rfl, rfl, rfl, rfl, rfl, by decide +kernel⟩ ?hw ?hc
  case hw => w_witness2
  case hc =>
    refine DL.walk_ofR (l := PySem.Challenge.rw_halfseams_k16_what_is_a_deed) (n := 63) (k := 4) (F := K16.f_law) rfl (by decide) (by kernel_rfl) ⟨rfl, by decide, by decide⟩ (by kernel_rfl) K16.law_true ?C
    intro w mg h Y G
    obtain ⟨K, KX, c, e⟩ := Y
    have T := K16.txt KX G c e
    obtain ⟨fd, F⟩ := T.d_law
    exact ⟨K, fd, KX, T.g_law, fun s v => L2.FunD.bindsA (ps := ["script"]) F (fun _ _ _ _ _ _ us hl => match us, hl with | [_], _ => rfl) s [v] rfl, fun base _ _ => K16.law_fn T F⟩
