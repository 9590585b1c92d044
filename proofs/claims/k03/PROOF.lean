import PyProof.Rows.All
import Wide.All
import OpenK.AllK
import Wide.FinOn
import PySem.Challenge.RW_halfseams_k03_next_ones
import HandS.ForMost
import HandS.ExcCtx
import HandS.HotCalls
import HandS.ExcIs
import HandS.ExcField
import HandS.ExcInit
import HandS.ForExc
import HandS.IsInst
import HandS.Wide
import HandS.Conv
import HandS.More
import HandS.TupAny
import HandS.CallSlots
import HandS.HeadHook1
import HandS.SortInts
import HandS.Strs
import HandS.Style
import HandS.Deep
import HandS.StrSplit
import HandS.StrMore
import HandS.NoneIn
import HandS.Zip
import HandS.TupMul
import HandS.Defaults
import HandS.HeadEnd
import HandS.HeadHook2
import HandS.Head0
import HandS.Head1
import HandS.Head2
import HandS.CallLocal
import KE.GoesEnum
import KE.KDictSum
import KE.KExcIs
/- part DLT -/
set_option Elab.async false
set_option linter.all false
set_option maxRecDepth 100000
set_option autoImplicit false
/-! DLT: tuples whose object is known to bear no dict: their methods can be called. -/
namespace DL
open PySem L2 PySem.Spec PyProof.Rows
def SqN (K : PySem.W.Frag) (H : Hp) (a : Addr) (xs : List V) : Prop :=
  (∃ o : Obj, H a = some (.frz o (.tup xs)) ∧ o.dict = none) ∨
    ∃ (o : Obj) (its : Array Value) (n : Nat), K.lookup a = some o ∧ o.cls = .type "tuple" ∧ o.dict = none ∧ o.data = .seq its n ∧ its.size ≤ sizeLine ∧ Vals xs its.toList
theorem SqN.t {K : PySem.W.Frag} {H : Hp} {a : Addr} {xs : List V} (h : SqN K H a xs) : SqT K H a xs := by
  rcases h with ⟨o, h, _⟩ | ⟨o, its, n, h1, h2, h3, h4, h5, h6⟩
  · exact .inl (.inr ⟨o, h⟩)
  · exact .inr ⟨o, its, n, h1, h2, h4, h5, h6⟩
section
variable {X : Cx}
theorem SqN.obj {pins : List (Addr × Obj)} {σ : L2.St} {H : Hp} {s : Shared} {a : Addr} {xs : List V} (I : Inv X pins σ H s) (h : SqN X.K H a xs) : s.TypeIs (.ref a) "tuple" ∧ ∃ o, s.heap.get? a = some o ∧ o.dict = none := by
  rcases h with ⟨o, h, hd⟩ | ⟨o, its, n, h1, h2, h3, h4, h5, h6⟩
  · obtain ⟨g, _, _, _, p⟩ := I.hok a _ h
    obtain ⟨o', e, c, _⟩ := p
    rw [g] at e
    cases e
    exact ⟨⟨o, g, c⟩, o, g, hd⟩
  · exact ⟨⟨o, I.kIn a o h1, h2⟩, o, I.kIn a o h1, h3⟩
/-- a display -/
def tTupF (t : TA) : TE := fun σ H Q => t σ H fun xs H1 => xs.length ≤ sizeLine ∧ ∀ (p : Addr) (o : Obj), H1 p = none → o.dict = none → Q (.ref p) (upd H1 p (.frz o (.tup xs)))
theorem pe_tupF {es : List Expr} {t : TA} {pos : Pos} {x1} (h : PA X es t) : PE X (.Tuple es x1 pos) (tTupF t) := by
  refine ⟨fun pins s σ H Q I hq => ?_⟩
  refine wpAny_Tuple_spliced (thn (h.run pos pins s σ H _ I hq) fun us s1 ⟨xs, H1, I1, r, z, q⟩ => ⟨by rw [← r.length]; exact z, ?_⟩)
  have hf : H1 s1.heap.objs.size = none := I1.hok.fresh (Nat.le_refl _)
  refine ⟨.ref s1.heap.objs.size, upd H1 s1.heap.objs.size (.frz { cls := .type "tuple", data := .seq us.toArray } (.tup xs)), I1.laid (t' := s1.toks) (fun b u e => Heap.get?_push_of_some _ e) (Nat.le_refl _) ?_, rfl, q _ _ hf rfl⟩
  exact ⟨Heap.get?_push_size _ rfl, z, us, r, ⟨_, Heap.get?_push_size _ rfl, rfl, _, rfl⟩⟩
/-- tuple(x) -/
theorem call_tuple_ofF : CallR X (.type "tuple") (fun xs H Q => ∃ p ys, xs = [.ref p] ∧ ((SqL X.K H p ys ∧ ∀ (l : Addr) (o : Obj), H l = none → o.dict = none → Q (.ref l) (upd H l (.frz o (.tup ys)))) ∨ (SqT X.K H p ys ∧ Q (.ref p) H))) := by
  intro pins s σ H xs us Q I r h
  obtain ⟨p, ys, rfl, h⟩ := h
  obtain ⟨u, rfl, rx⟩ := vals1 r
  cases rx
  rcases h with ⟨hq, q⟩ | ⟨hq, q⟩
  · obtain ⟨its, r', pl, hz⟩ := I.list hq
    have hlen := r'.length
    refine call_tuple_list pl.isList (fun h' kp => ?_) (by simp only [List.size_toArray] <;> omega)
    have I1 : Inv X pins σ H { s with heap := h' } := I.kept (t' := s.toks) kp
    have I2 : Inv X pins σ (upd H h'.objs.size (.frz { cls := .type "tuple", data := .seq its.toArray } (.tup ys))) { s with heap := h'.push { cls := .type "tuple", data := .seq its.toArray } } :=
      I1.laid (t' := s.toks) (fun b o e => Heap.get?_push_of_some _ e) (Nat.le_refl _) (show ObjOk X.prog X.w _ _ _ (.frz _ (.tup ys)) from ⟨Heap.get?_push_size _ rfl, hz, its, r', IsTup.new _ _⟩)
    exact ⟨.ref h'.objs.size, _, I2, rfl, q _ _ (I1.hok.fresh (Nat.le_refl _)) rfl⟩
  · obtain ⟨its, r', pl, hz⟩ := I.tuple hq
    exact call_tuple_same pl ⟨.ref p, H, I, rfl, q⟩
/-- t + u -/
def rCatF (K : PySem.W.Frag) : R2 := fun x y H Q => ∃ a b xs ys, x = .ref a ∧ y = .ref b ∧ SqT K H a xs ∧ SqT K H b ys ∧ xs.length + ys.length ≤ sizeLine ∧
  (xs = [] → Q (.ref b) H) ∧ (xs ≠ [] → ys = [] → Q (.ref a) H) ∧ (xs ≠ [] → ys ≠ [] → ∀ (p : Addr) (o : Obj), H p = none → o.dict = none → Q (.ref p) (upd H p (.frz o (.tup (xs ++ ys)))))
theorem op_catF : OpR X (binaryOp .Add) (rCatF X.K) := by
  intro pins s σ H x y v u Q I rx ry h
  obtain ⟨a, b, xs, ys, rfl, rfl, ha, hb, hz, q0, q1, q2⟩ := h
  cases rx
  cases ry
  obtain ⟨its, r1, p1, _⟩ := I.tuple ha
  obtain ⟨its2, r2, p2, _⟩ := I.tuple hb
  by_cases hx : xs = []
  · subst hx
    cases r1
    exact cat_tup0 p1 p2 ⟨.ref b, H, I, rfl, q0 rfl⟩
  · refine HT.cat_tup p1 p2 (fun z => hx (r1.nil_iff.mp z)) (fun z => ⟨.ref a, H, I, rfl, q1 hx (r2.nil_iff.mp z)⟩) (fun z => ?_) (by rw [← r1.length, ← r2.length]; exact hz)
    refine ⟨.ref s.heap.objs.size, _, I.laid (t' := s.toks) (o := .frz { cls := .type "tuple", data := .seq (its ++ its2).toArray } (.tup (xs ++ ys))) (fun b ob q => Heap.get?_push_of_some _ q) (Nat.le_refl _) ?_, rfl, q2 hx (fun w => z (r2.nil_iff.mpr w)) _ _ (I.hok.fresh (Nat.le_refl _)) rfl⟩
    exact ⟨Heap.get?_push_size _ rfl, by rw [List.length_append]; exact hz, _, r1.append r2, IsTup.new _ _⟩
/-- t[lo:hi] -/
def rSlF (K : PySem.W.Frag) : V → Option Int → Option Int → Hp → VK → Prop := fun x lo hi H Q => ∃ a xs, x = .ref a ∧ SqT K H a xs ∧
  (HT.sIx xs.length 0 lo = 0 ∧ HT.sIx xs.length xs.length hi = xs.length → Q (.ref a) H) ∧ (¬ (HT.sIx xs.length 0 lo = 0 ∧ HT.sIx xs.length xs.length hi = xs.length) → ∀ (p : Addr) (o : Obj), H p = none → o.dict = none → Q (.ref p) (upd H p (.frz o (.tup (cutV xs lo hi)))))
theorem sl_tupF : SlR X (rSlF X.K) := by
  intro pins s σ H x v vl vu lo hi sl Q I rx hs pl pu h
  obtain ⟨a, xs, rfl, hx, q1, q2⟩ := h
  cases rx
  obtain ⟨its, r, ht, hz⟩ := I.tuple hx
  have hlen : its.toArray.size = xs.length := by rw [List.size_toArray]; exact r.length.symm
  refine ⟨"tuple", _, PyProof.Rows.slot_tuple_getitem.lookup, ht.typeIs, ?_⟩
  by_cases hw : HT.sIx xs.length 0 lo = 0 ∧ HT.sIx xs.length xs.length hi = xs.length
  · exact getItem_tuple_whole ht hs pl pu (by rw [hlen]; exact hw) ⟨.ref a, H, I, rfl, q1 hw⟩
  · refine HT.getItem_tuple_cut ht hs pl pu (by rw [hlen]; exact hw) ?_ (by rw [hlen]; exact hz)
    rw [hlen]
    refine ⟨.ref s.heap.objs.size, _, I.laid (t' := s.toks) (o := .frz { cls := .type "tuple", data := .seq (List.take (HT.sIx xs.length xs.length hi - HT.sIx xs.length 0 lo) (List.drop (HT.sIx xs.length 0 lo) its.toArray.toList)).toArray } (.tup (cutV xs lo hi))) (fun b ob q => Heap.get?_push_of_some _ q) (Nat.le_refl _) ?_, rfl, q2 hw _ _ (I.hok.fresh (Nat.le_refl _)) rfl⟩
    exact ⟨Heap.get?_push_size _ rfl, Nat.le_trans (cutV_length xs lo hi) hz, _, (r.drop (HT.sIx xs.length 0 lo)).take (HT.sIx xs.length xs.length hi - HT.sIx xs.length 0 lo), IsTup.new _ _⟩
end
end DL
/- part DL0 -/
set_option Elab.async false
set_option linter.all false
set_option maxRecDepth 100000
set_option autoImplicit false
/-! DL0: values by data. A def's body is read as a plain function over data (PyData) and slots; the rules here tie such functions to the layer's readings. -/
namespace DL
open PySem L2
abbrev D := PyData
/-- what a slot holds: nothing known, data that stands still, a list of the def's own that is changed in place, a parameter's list that is changed in place, a dict of the def's own -/
inductive Sl where
  | no
  | v (d : D)
  | l (xs : List D)
  | p (xs : List D)
  | m (kvs : List (D × D))
  | f (x : Str)
  | a (b : Addr) (d : Option Addr) (f : Option (Str × PyData))
abbrev DEnv := List Sl
def Sl.own : Sl → Bool
  | .l _ => true
  | .p _ => true
  | .m _ => true
  | _ => false
/-- an exception: its class's name, its field with its value -/
structure Xc where
  c : Str
  f : Option (Str × D)
inductive Rs (α : Type) where
  | ok (a : α) (env : DEnv)
  | ex (x : Xc) (env : DEnv)
  | stuck
abbrev DE := DEnv → Rs D
abbrev DT := DEnv → Rs Bool
abbrev DA := DEnv → Rs (List D)
def Rs.bind {α β : Type} (r : Rs α) (f : α → DEnv → Rs β) : Rs β := match r with
  | .ok a env => f a env
  | .ex x env => .ex x env
  | .stuck => .stuck
theorem bind_ok {α β : Type} (a : α) (env : DEnv) (f : α → DEnv → Rs β) : (Rs.ok a env).bind f = f a env := rfl
theorem bind_ex {α β : Type} (x : Xc) (env : DEnv) (f : α → DEnv → Rs β) : (Rs.ex x env).bind f = .ex x env := rfl
theorem bind_stuck {α β : Type} (f : α → DEnv → Rs β) : (Rs.stuck : Rs α).bind f = .stuck := rfl
/-- an answer that may lack, in place -/
def put {α : Type} (o : Option α) (env : DEnv) : Rs α := match o with
  | some a => .ok a env
  | none => .stuck
theorem put_some {α : Type} (a : α) (env : DEnv) : put (some a) env = .ok a env := rfl

/-! ### bounds that nothing looks into -/
structure I62 (i : Int) : Prop where
  lo : -(2 ^ 62) ≤ i
  hi : i < 2 ^ 62
structure I63 (i : Int) : Prop where
  lo : -(2 ^ 63) ≤ i
  hi : i < 2 ^ 63
structure IRg (i : Int) : Prop where
  lo : -1000 ≤ i
  hi : i ≤ 100000
noncomputable instance (i : Int) : Decidable (I62 i) := Classical.propDecidable _
noncomputable instance (i : Int) : Decidable (I63 i) := Classical.propDecidable _
noncomputable instance (i : Int) : Decidable (IRg i) := Classical.propDecidable _
theorem i62_of {i : Int} (h : -1000000 ≤ i) (h2 : i ≤ 1000000) : I62 i := ⟨by omega, by omega⟩
theorem i63_of {i : Int} (h : -1000000 ≤ i) (h2 : i ≤ 1000000) : I63 i := ⟨by omega, by omega⟩
/-! ### heaps -/
def Ex (G H : Hp) : Prop := ∀ a o, G a = some o → H a = some o
theorem Ex.refl (H : Hp) : Ex H H := fun _ _ h => h
theorem Ex.trans {H H1 H2 : Hp} (a : Ex H H1) (b : Ex H1 H2) : Ex H H2 := fun x o h => b x o (a x o h)
theorem Ex.new {H : Hp} {p : Addr} {o : HO} (h : H p = none) : Ex H (upd H p o) := fun a u e => by
  rw [upd_ne (ne_of_none e h)]; exact e
theorem Ex.none {G H : Hp} {a : Addr} (e : Ex G H) (h : H a = none) : G a = none := by
  cases q : G a with
  | none => rfl
  | some o => rw [e a o q] at h; cases h
theorem Ex.both {G H : Hp} {p : Addr} {o : HO} (e : Ex G H) : Ex (upd G p o) (upd H p o) := fun a u h => by
  by_cases hp : a = p
  · subst hp; rw [upd_same] at h ⊢; exact h
  · rw [upd_ne hp] at h ⊢; exact e a u h
theorem Ex.rd {H H' : Hp} {a : Addr} {u : HO} (e : Ex H H') (h : Rd H a u) : Rd H' a u := by
  rcases h with h | ⟨o, h⟩
  · exact Or.inl (e a _ h)
  · exact Or.inr ⟨o, e a _ h⟩
theorem Ex.l {K : PySem.W.Frag} {H H' : Hp} {a : Addr} {xs : List V} (e : Ex H H') (h : SqL K H a xs) : SqL K H' a xs := by
  rcases h with h | h
  · exact Or.inl (e.rd h)
  · exact Or.inr h
theorem Ex.n {K : PySem.W.Frag} {H H' : Hp} {a : Addr} {xs : List V} (e : Ex H H') (h : SqN K H a xs) : SqN K H' a xs := by
  rcases h with ⟨o, h, hd⟩ | h
  · exact .inl ⟨o, e _ _ h, hd⟩
  · exact .inr h
theorem Ex.t {K : PySem.W.Frag} {H H' : Hp} {a : Addr} {xs : List V} (e : Ex H H') (h : SqT K H a xs) : SqT K H' a xs := by
  rcases h with h | h
  · exact Or.inl (e.rd h)
  · exact Or.inr h
/-- a list to be read: tracked, known (the script), or written at the top just so -/
def RL (K : PySem.W.Frag) (G : Hp) (a : Addr) (xs : List V) : Prop := Rd G a (.lst xs) ∨ ∃ (its : Array Value) (n : Nat), K.lookup a = some { cls := .type "list", data := .seq its n } ∧ its.size ≤ sizeLine ∧ Vals xs its.toList
theorem Ex.rl {K : PySem.W.Frag} {G G' : Hp} {a : Addr} {xs : List V} (e : Ex G G') (h : RL K G a xs) : RL K G' a xs := by
  rcases h with h | h
  · exact .inl (e.rd h)
  · exact .inr h
theorem RL.sq {K : PySem.W.Frag} {G : Hp} {a : Addr} {xs : List V} (h : RL K G a xs) : SqL K G a xs := by
  rcases h with h | ⟨its, n, h1, h2, h3⟩
  · exact .inl h
  · exact .inr ⟨_, its, n, h1, rfl, rfl, rfl, h2, h3⟩
theorem RL.of {K : PySem.W.Frag} {G : Hp} {a : Addr} {xs : List V} (h : G a = some (.lst xs)) : RL K G a xs := .inl (.inl h)
/-- a key as data -/
def kD : Key → D
  | .inl i => .int i
  | .inr x => .str x
mutual
/-- data that stands still, by a value: lists are tracked ones (or the script), tuples may be written ones -/
inductive Dv (K : PySem.W.Frag) (G : Hp) : V → PyData → Prop
  | non : Dv K G .non .none
  | bl (b : Bool) : Dv K G (.bl b) (.bool b)
  | int (i : Int) : Dv K G (.int i) (.int i)
  | str (x : Str) : Dv K G (.str x) (.str x)
  | lst {a : Addr} {xs : List V} {ds : List PyData} : RL K G a xs → DvAll K G xs ds → Dv K G (.ref a) (.list ds)
  | tup {a : Addr} {xs : List V} {ds : List PyData} : SqN K G a xs → DvAll K G xs ds → Dv K G (.ref a) (.tuple ds)
  | dct {a : Addr} {xs : List (Key × V)} {ds : List (PyData × PyData)} : Rd G a (.dK xs) → DvKv K G xs ds → Dv K G (.ref a) (.dict ds)
inductive DvKv (K : PySem.W.Frag) (G : Hp) : List (Key × V) → List (PyData × PyData) → Prop
  | nil : DvKv K G [] []
  | cons {k : Key} {v : V} {d : D} {xs : List (Key × V)} {ys : List (D × D)} : Dv K G v d → DvKv K G xs ys → DvKv K G ((k, v) :: xs) ((kD k, d) :: ys)
inductive DvAll (K : PySem.W.Frag) (G : Hp) : List V → List PyData → Prop
  | nil : DvAll K G [] []
  | cons {v : V} {vs : List V} {d : PyData} {ds : List PyData} : Dv K G v d → DvAll K G vs ds → DvAll K G (v :: vs) (d :: ds)
end
mutual
theorem Dv.mono {K : PySem.W.Frag} {G G' : Hp} (e : Ex G G') : ∀ (d : D) (v : V), Dv K G v d → Dv K G' v d
  | .none, _, h => by cases h; exact .non
  | .bool b, _, h => by cases h; exact .bl b
  | .int i, _, h => by cases h; exact .int i
  | .str x, _, h => by cases h; exact .str x
  | .list ds, _, h => by
    cases h with
    | lst a b => exact .lst (e.rl a) (Dv.monoAll e ds _ b)
  | .tuple ds, _, h => by
    cases h with
    | tup a b => exact .tup (e.n a) (Dv.monoAll e ds _ b)
  | .dict ds, _, h => by
    cases h with
    | dct a b => exact .dct (e.rd a) (Dv.monoKv e ds _ b)
theorem Dv.monoKv {K : PySem.W.Frag} {G G' : Hp} (e : Ex G G') : ∀ (ds : List (D × D)) (vs : List (Key × V)), DvKv K G vs ds → DvKv K G' vs ds
  | [], _, h => by cases h; exact .nil
  | (_, d) :: ds, _, h => by
    cases h with
    | cons a b => exact .cons (Dv.mono e d _ a) (Dv.monoKv e ds _ b)
theorem Dv.monoAll {K : PySem.W.Frag} {G G' : Hp} (e : Ex G G') : ∀ (ds : List D) (vs : List V), DvAll K G vs ds → DvAll K G' vs ds
  | [], _, h => by cases h; exact .nil
  | d :: ds, _, h => by
    cases h with
    | cons a b => exact .cons (Dv.mono e d _ a) (Dv.monoAll e ds _ b)
end
theorem Dv.up {K : PySem.W.Frag} {G G' : Hp} {d : D} {v : V} (h : Dv K G v d) (e : Ex G G') : Dv K G' v d := Dv.mono e d v h
theorem DvKv.up {K : PySem.W.Frag} {G G' : Hp} {d : List (D × D)} {v : List (Key × V)} (h : DvKv K G v d) (e : Ex G G') : DvKv K G' v d := Dv.monoKv e d v h
theorem DvAll.up {K : PySem.W.Frag} {G G' : Hp} {d : List D} {v : List V} (h : DvAll K G v d) (e : Ex G G') : DvAll K G' v d := Dv.monoAll e d v h
section
variable {K : PySem.W.Frag} {G : Hp}
theorem DvAll.length : ∀ {vs : List V} {ds : List D}, DvAll K G vs ds → vs.length = ds.length
  | _, _, .nil => rfl
  | _, _, .cons _ t => by rw [List.length_cons, List.length_cons, DvAll.length t]
theorem DvAll.get : ∀ {vs : List V} {ds : List D} {i : Nat} {d : D}, DvAll K G vs ds → ds[i]? = some d → ∃ v, vs[i]? = some v ∧ Dv K G v d
  | _, _, _, _, .nil, e => by simp at e
  | _, _, 0, _, .cons r _, e => by simp at e; subst e; exact ⟨_, rfl, r⟩
  | _, _, i + 1, d, .cons _ t, e => by
    obtain ⟨u, h1, h2⟩ := DvAll.get (i := i) (d := d) t (by simpa using e)
    exact ⟨u, by simpa using h1, h2⟩
theorem DvAll.get' : ∀ {vs : List V} {ds : List D} {i : Nat} {v : V}, DvAll K G vs ds → vs[i]? = some v → ∃ d, ds[i]? = some d ∧ Dv K G v d
  | _, _, _, _, .nil, e => by simp at e
  | _, _, 0, _, .cons r _, e => by simp at e; subst e; exact ⟨_, rfl, r⟩
  | _, _, i + 1, d, .cons _ t, e => by
    obtain ⟨u, h1, h2⟩ := DvAll.get' (i := i) (v := d) t (by simpa using e)
    exact ⟨u, by simpa using h1, h2⟩
theorem DvAll.append : ∀ {xs ys : List V} {us ws : List D}, DvAll K G xs us → DvAll K G ys ws → DvAll K G (xs ++ ys) (us ++ ws)
  | _, _, _, _, .nil, s => s
  | _, _, _, _, .cons r t, s => .cons r (DvAll.append t s)
theorem DvAll.take : ∀ {xs : List V} {us : List D} (n : Nat), DvAll K G xs us → DvAll K G (xs.take n) (us.take n)
  | _, _, 0, _ => .nil
  | _, _, _ + 1, .nil => .nil
  | _, _, n + 1, .cons r t => .cons r (DvAll.take n t)
theorem DvAll.drop : ∀ {xs : List V} {us : List D} (n : Nat), DvAll K G xs us → DvAll K G (xs.drop n) (us.drop n)
  | _, _, 0, r => r
  | _, _, _ + 1, .nil => .nil
  | _, _, n + 1, .cons _ t => DvAll.drop n t
theorem DvAll.set {x : V} {u : D} (r : Dv K G x u) : ∀ {xs : List V} {us : List D} (i : Nat), DvAll K G xs us → DvAll K G (xs.set i x) (us.set i u)
  | _, _, _, .nil => .nil
  | _, _, 0, .cons _ t => .cons r t
  | _, _, i + 1, .cons q t => .cons q (DvAll.set r i t)
theorem DvAll.eraseIdx : ∀ {xs : List V} {us : List D} (i : Nat), DvAll K G xs us → DvAll K G (xs.eraseIdx i) (us.eraseIdx i)
  | _, _, _, .nil => .nil
  | _, _, 0, .cons _ t => t
  | _, _, i + 1, .cons q t => .cons q (DvAll.eraseIdx i t)
theorem DvAll.dropLast : ∀ {xs : List V} {us : List D}, DvAll K G xs us → DvAll K G xs.dropLast us.dropLast
  | _, _, .nil => .nil
  | _, _, .cons r .nil => .nil
  | _, _, .cons r (.cons q t) => .cons r (DvAll.dropLast (.cons q t))
theorem DvAll.one {v : V} {d : D} (h : Dv K G v d) : DvAll K G [v] [d] := .cons h .nil
theorem DvAll.inv1 {vs : List V} {d : D} (h : DvAll K G vs [d]) : ∃ v, vs = [v] ∧ Dv K G v d := by
  cases h with
  | cons a b => cases b; exact ⟨_, rfl, a⟩
theorem DvAll.inv2 {vs : List V} {d e : D} (h : DvAll K G vs [d, e]) : ∃ v w, vs = [v, w] ∧ Dv K G v d ∧ Dv K G w e := by
  cases h with
  | cons a b =>
    cases b with
    | cons c f => cases f; exact ⟨_, _, rfl, a, c⟩
theorem DvAll.ints : ∀ {vs : List V} {ns : List Int}, DvAll K G vs (ns.map PyData.int) → vs = ns.map V.int
  | _, [], h => by cases h; rfl
  | _, n :: ns, h => by
    cases h with
    | cons a b => cases a; rw [DvAll.ints b]; rfl
theorem DvAll.of_ints : ∀ (ns : List Int), DvAll K G (ns.map V.int) (ns.map PyData.int)
  | [] => .nil
  | n :: ns => .cons (.int n) (DvAll.of_ints ns)
end

mutual
theorem Dv.dp {K : PySem.W.Frag} {G H : Hp} (e : Ex G H) : ∀ (d : D) (v : V), d.canLay0 = true → Dv K G v d → Dp K H v d
  | .none, _, _, h => by cases h; exact .non
  | .bool b, _, _, h => by cases h; exact .bl b
  | .int i, _, _, h => by cases h; exact .int i
  | .str x, _, _, h => by cases h; exact .str x
  | .list ds, _, c, h => by
    cases h with
    | lst a b => exact .lst (e.rl a).sq (Dv.dpAll e ds _ (by simpa [PyData.canLay0] using c) b)
  | .tuple ds, _, c, h => by
    cases h with
    | tup a b => exact .tup (e.n a).t (Dv.dpAll e ds _ (by simpa [PyData.canLay0] using c) b)
  | .dict _, _, c, _ => by simp [PyData.canLay0] at c
theorem Dv.dpAll {K : PySem.W.Frag} {G H : Hp} (e : Ex G H) : ∀ (ds : List D) (vs : List V), PyData.canLayAll0 ds = true → DvAll K G vs ds → DpAll K H vs ds
  | [], _, _, h => by cases h; exact .nil
  | d :: ds, _, c, h => by
    have c' : d.canLay0 = true ∧ PyData.canLayAll0 ds = true := by simpa [PyData.canLayAll0] using c
    cases h with
    | cons a b => exact .cons (Dv.dp e d _ c'.1 a) (Dv.dpAll e ds _ c'.2 b)
end
/-! ### slots -/
/-- an exception's field stands -/
def XD (K : PySem.W.Frag) (G : Hp) (d : Option Addr) (f : Option (Str × D)) : Prop := match f with
  | none => d = none
  | some (n, x) => ∃ a v, d = some a ∧ G a = some (.xd [(n, v)]) ∧ Dv K G v x
theorem XD.up {K : PySem.W.Frag} {G G' : Hp} {d : Option Addr} {f : Option (Str × D)} (h : XD K G d f) (e : Ex G G') : XD K G' d f := by
  cases f with
  | none => exact h
  | some p => obtain ⟨a, v, h1, h2, h3⟩ := h; exact ⟨a, v, h1, e _ _ h2, h3.up e⟩
/-- what a slot's word says of its value -/
def RS (K : PySem.W.Frag) (G H : Hp) (s : Sl) (o : Option V) : Prop := match s with
  | .no => True
  | .v d => ∃ v, o = some v ∧ Dv K G v d
  | .l xs => ∃ a vs, o = some (.ref a) ∧ H a = some (.lst vs) ∧ G a = none ∧ DvAll K G vs xs
  | .p xs => ∃ a vs, o = some (.ref a) ∧ H a = some (.lst vs) ∧ G a = none ∧ DvAll K G vs xs
  | .m kvs => ∃ a vs, o = some (.ref a) ∧ H a = some (.dK vs) ∧ G a = none ∧ DvKv K G vs kvs
  | .f x => o = some (.ref (He.ga K x))
  | .a b d f => o = some (.ref b) ∧ XD K G d f
/-- slot i owns the object at a -/
def OwnAt (env : DEnv) (σ : St) (i : Nat) (a : Addr) : Prop := (∃ s, env[i]? = some s ∧ s.own = true) ∧ σ[i]? = some (some (.ref a))
def Own (env : DEnv) (σ : St) (a : Addr) : Prop := ∃ i, OwnAt env σ i a
structure Rel (K : PySem.W.Frag) (env : DEnv) (σ : St) (G H : Hp) : Prop where
  ex : Ex G H
  len : env.length = σ.length
  slot : ∀ (i : Nat) (s : Sl) (o : Option V), env[i]? = some s → σ[i]? = some o → RS K G H s o
  dist : ∀ (i j : Nat) (a : Addr), OwnAt env σ i a → OwnAt env σ j a → i = j
structure Fr (env : DEnv) (σ : St) (G H : Hp) (env' : DEnv) (σ' : St) (G' H' : Hp) : Prop where
  gg : Ex G G'
  keep : ∀ a o, H a = some o → ¬ Own env σ a → H' a = some o
  dom : ∀ a, H' a = none → H a = none
  fresh : ∀ a, G' a ≠ none → G a ≠ none ∨ H a = none ∨ Own env σ a
  own : ∀ a, Own env' σ' a → Own env σ a ∨ H a = none
  par : ∀ (i : Nat) (xs : List D), env'[i]? = some (Sl.p xs) → σ'[i]? = σ[i]? ∧ ∃ ys : List D, env[i]? = some (Sl.p ys)
theorem Fr.refl (env : DEnv) (σ : St) (G H : Hp) : Fr env σ G H env σ G H :=
  ⟨Ex.refl _, fun _ _ h _ => h, fun _ h => h, fun _ h => .inl h, fun _ h => .inl h, fun _ xs h => ⟨rfl, xs, h⟩⟩
theorem Fr.trans {e0 e1 e2 : DEnv} {s0 s1 s2 : St} {G0 G1 G2 H0 H1 H2 : Hp} (x : Fr e0 s0 G0 H0 e1 s1 G1 H1) (y : Fr e1 s1 G1 H1 e2 s2 G2 H2) : Fr e0 s0 G0 H0 e2 s2 G2 H2 where
  gg := x.gg.trans y.gg
  keep := fun a o h n => y.keep a o (x.keep a o h n) fun q => by
    rcases x.own a q with q | q
    · exact n q
    · rw [q] at h; cases h
  dom := fun a h => x.dom a (y.dom a h)
  fresh := fun a h => by
    rcases y.fresh a h with q | q | q
    · exact x.fresh a q
    · exact .inr (.inl (x.dom a q))
    · rcases x.own a q with q | q
      · exact .inr (.inr q)
      · exact .inr (.inl q)
  own := fun a h => by
    rcases y.own a h with q | q
    · exact x.own a q
    · exact .inr (x.dom a q)
  par := fun i xs h => by
    obtain ⟨a, ys, b⟩ := y.par i xs h
    obtain ⟨c, zs, d⟩ := x.par i ys b
    exact ⟨a.trans c, zs, d⟩
theorem OwnAt.there {K : PySem.W.Frag} {env : DEnv} {σ : St} {G H : Hp} (R : Rel K env σ G H) {i : Nat} {a : Addr} (h : OwnAt env σ i a) : H a ≠ none ∧ G a = none := by
  obtain ⟨⟨s, e, o⟩, q⟩ := h
  have r := R.slot i s _ e q
  cases s with
  | f x => cases o
  | a x _ _ => cases o
  | no => cases o
  | v d => cases o
  | l xs =>
    obtain ⟨b, vs, e1, e2, e3, _⟩ := r
    cases e1
    exact ⟨fun z => (by rw [z] at e2; cases e2), e3⟩
  | p xs =>
    obtain ⟨b, vs, e1, e2, e3, _⟩ := r
    cases e1
    exact ⟨fun z => (by rw [z] at e2; cases e2), e3⟩
  | m xs =>
    obtain ⟨b, vs, e1, e2, e3, _⟩ := r
    cases e1
    exact ⟨fun z => (by rw [z] at e2; cases e2), e3⟩
theorem Own.there {K : PySem.W.Frag} {env : DEnv} {σ : St} {G H : Hp} (R : Rel K env σ G H) {a : Addr} (h : Own env σ a) : H a ≠ none ∧ G a = none := let ⟨_, q⟩ := h; q.there R
/-- only new things that stand still come -/
structure Grow (G H G' H' : Hp) : Prop where
  gg : Ex G G'
  hh : Ex H H'
  ex : Ex G' H'
  fresh : ∀ a, G' a ≠ none → G a ≠ none ∨ H a = none
theorem Grow.refl {G H : Hp} (e : Ex G H) : Grow G H G H := ⟨Ex.refl _, Ex.refl _, e, fun _ h => .inl h⟩
theorem Grow.one {G H : Hp} {p : Addr} {o : HO} (e : Ex G H) (h : H p = none) : Grow G H (upd G p o) (upd H p o) :=
  ⟨Ex.new (e.none h), Ex.new h, e.both, fun a q => by
    by_cases hp : a = p
    · subst hp; exact .inr h
    · rw [upd_ne hp] at q; exact .inl q⟩
theorem Grow.trans {G H G1 H1 G2 H2 : Hp} (a : Grow G H G1 H1) (b : Grow G1 H1 G2 H2) : Grow G H G2 H2 :=
  ⟨a.gg.trans b.gg, a.hh.trans b.hh, b.ex, fun x q => by
    rcases b.fresh x q with z | z
    · exact a.fresh x z
    · exact .inr (a.hh.none z)⟩
theorem RS.grow {K : PySem.W.Frag} {G H G' H' : Hp} (g : Grow G H G' H') {s : Sl} {o : Option V} (h : RS K G H s o) : RS K G' H' s o := by
  have nn : ∀ {a : Addr} {u : HO}, H a = some u → G a = none → G' a = none := fun {a u} h1 h2 => by
    cases q : G' a with
    | none => rfl
    | some z =>
      rcases g.fresh a (by rw [q]; exact fun z => by cases z) with y | y
      · exact absurd h2 y
      · rw [y] at h1; cases h1
  cases s with
  | no => trivial
  | v d => obtain ⟨v, e, h⟩ := h; exact ⟨v, e, h.up g.gg⟩
  | l xs => obtain ⟨a, vs, e, h1, h2, h3⟩ := h; exact ⟨a, vs, e, g.hh _ _ h1, nn h1 h2, h3.up g.gg⟩
  | p xs => obtain ⟨a, vs, e, h1, h2, h3⟩ := h; exact ⟨a, vs, e, g.hh _ _ h1, nn h1 h2, h3.up g.gg⟩
  | m xs => obtain ⟨a, vs, e, h1, h2, h3⟩ := h; exact ⟨a, vs, e, g.hh _ _ h1, nn h1 h2, h3.up g.gg⟩
  | f x => exact h
  | a x _ _ => exact ⟨h.1, h.2.up g.gg⟩
theorem Rel.grow {K : PySem.W.Frag} {env : DEnv} {σ : St} {G H G' H' : Hp} (R : Rel K env σ G H) (g : Grow G H G' H') : Rel K env σ G' H' :=
  ⟨g.ex, R.len, fun i s o a b => (R.slot i s o a b).grow g, R.dist⟩
theorem Grow.fr {G H G' H' : Hp} (g : Grow G H G' H') (env : DEnv) (σ : St) : Fr env σ G H env σ G' H' :=
  ⟨g.gg, fun a o h _ => g.hh a o h, fun a h => g.hh.none h, fun a h => (g.fresh a h).elim .inl fun z => .inr (.inl z), fun _ h => .inl h, fun _ xs h => ⟨rfl, xs, h⟩⟩

/-! ### readings by data -/
/-- an exception by data -/
def XRel (K : PySem.W.Frag) (mg : Str → Option Value) (x : Xc) (cls : Value) (dd : Option Addr) (G H : Hp) : Prop :=
  mg x.c = some cls ∧ XD K G dd x.f
section
variable (K : PySem.W.Frag) (mg : Str → Option Value) (W : WX)
def RunX (env : DEnv) (σ : St) (G H : Hp) (x : Xc) (env' : DEnv) : Prop :=
  ∀ cls dd G' H', XRel K mg x cls dd G' H' → Rel K env' σ G' H' → Fr env σ G H env' σ G' H' → W cls dd σ H'
def RunE (env : DEnv) (σ : St) (G H : Hp) (r : Rs D) (Q : VK) : Prop := match r with
  | .ok d env' => ∀ v G' H', Rel K env' σ G' H' → Dv K G' v d → Fr env σ G H env' σ G' H' → Q v H'
  | .ex x env' => RunX K mg W env σ G H x env'
  | .stuck => False
def RunT (env : DEnv) (σ : St) (G H : Hp) (r : Rs Bool) (Q : Bool → Hp → Prop) : Prop := match r with
  | .ok b env' => ∀ G' H', Rel K env' σ G' H' → Fr env σ G H env' σ G' H' → Q b H'
  | .ex x env' => RunX K mg W env σ G H x env'
  | .stuck => False
def RunA (env : DEnv) (σ : St) (G H : Hp) (r : Rs (List D)) (Q : List V → Hp → Prop) : Prop := match r with
  | .ok ds env' => ∀ vs G' H', Rel K env' σ G' H' → DvAll K G' vs ds → Fr env σ G H env' σ G' H' → Q vs H'
  | .ex x env' => RunX K mg W env σ G H x env'
  | .stuck => False
/-- a list that nobody else holds -/
def RunL (env : DEnv) (σ : St) (G H : Hp) (r : Rs (List D)) (Q : VK) : Prop := match r with
  | .ok ds env' => ∀ a vs G' H', Rel K env' σ G' H' → H' a = some (.lst vs) → G' a = none → H a = none → ¬ Own env' σ a → DvAll K G' vs ds → Fr env σ G H env' σ G' H' → Q (.ref a) H'
  | .ex x env' => RunX K mg W env σ G H x env'
  | .stuck => False
def rdE (de : DE) : TE := fun σ H Q => ∃ env G, Rel K env σ G H ∧ RunE K mg W env σ G H (de env) Q
def rdT (de : DT) : TT := fun σ H Q => ∃ env G, Rel K env σ G H ∧ RunT K mg W env σ G H (de env) Q
def rdA (de : DA) : TA := fun σ H Q => ∃ env G, Rel K env σ G H ∧ RunA K mg W env σ G H (de env) Q
def rdL (de : DA) : TE := fun σ H Q => ∃ env G, Rel K env σ G H ∧ RunL K mg W env σ G H (de env) Q
end
section
variable {K : PySem.W.Frag} {mg : Str → Option Value} {W : WX} {env env1 : DEnv} {σ : St} {G H G1 H1 : Hp}
theorem RunX.shift {x : Xc} {env' : DEnv} (h : RunX K mg W env σ G H x env') (f : Fr env σ G H env1 σ G1 H1) : RunX K mg W env1 σ G1 H1 x env' :=
  fun cls dd G' H' a b c => h cls dd G' H' a b (f.trans c)
theorem RunE.shift {r : Rs D} {Q : VK} (h : RunE K mg W env σ G H r Q) (f : Fr env σ G H env1 σ G1 H1) : RunE K mg W env1 σ G1 H1 r Q := by
  cases r with
  | ok d e => exact fun v G' H' a b c => h v G' H' a b (f.trans c)
  | ex x e => exact RunX.shift h f
  | stuck => exact h
theorem RunT.shift {r : Rs Bool} {Q : Bool → Hp → Prop} (h : RunT K mg W env σ G H r Q) (f : Fr env σ G H env1 σ G1 H1) : RunT K mg W env1 σ G1 H1 r Q := by
  cases r with
  | ok d e => exact fun G' H' a c => h G' H' a (f.trans c)
  | ex x e => exact RunX.shift h f
  | stuck => exact h
theorem RunA.shift {r : Rs (List D)} {Q : List V → Hp → Prop} (h : RunA K mg W env σ G H r Q) (f : Fr env σ G H env1 σ G1 H1) : RunA K mg W env1 σ G1 H1 r Q := by
  cases r with
  | ok d e => exact fun v G' H' a b c => h v G' H' a b (f.trans c)
  | ex x e => exact RunX.shift h f
  | stuck => exact h
theorem RunL.shift {r : Rs (List D)} {Q : VK} (h : RunL K mg W env σ G H r Q) (f : Fr env σ G H env1 σ G1 H1) : RunL K mg W env1 σ G1 H1 r Q := by
  cases r with
  | ok d e => exact fun a vs G' H' R h1 h2 h3 h4 h5 h6 => h a vs G' H' R h1 h2 (f.dom a h3) h4 h5 (f.trans h6)
  | ex x e => exact RunX.shift h f
  | stuck => exact h
/-- an expression, then the rest -/
theorem E_then {de : DE} {β : Type} {f : D → DEnv → Rs β} {R : VK} (hR : Rel K env σ G H) {P : DEnv → St → Hp → Hp → Rs β → Prop}
    (h : P env σ G H ((de env).bind f)) (hx : ∀ x e, P env σ G H (.ex x e) → RunX K mg W env σ G H x e) (hst : ¬ P env σ G H .stuck)
    (hsh : ∀ e1 G1 H1 r, P env σ G H r → Fr env σ G H e1 σ G1 H1 → P e1 σ G1 H1 r)
    (k : ∀ d e1 v G1 H1, de env = .ok d e1 → Rel K e1 σ G1 H1 → Dv K G1 v d → Fr env σ G H e1 σ G1 H1 → P e1 σ G1 H1 (f d e1) → R v H1) : rdE K mg W de σ H R := by
  refine ⟨env, G, hR, ?_⟩
  cases q : de env with
  | ok d e1 =>
    rw [q] at h
    exact fun v G1 H1 a b c => k d e1 v G1 H1 q a b c (hsh _ _ _ _ h c)
  | ex x e => rw [q] at h; exact hx x e h
  | stuck => rw [q] at h; exact (hst h).elim
theorem E_thenE {de : DE} {f : D → DEnv → Rs D} {Q R : VK} (hR : Rel K env σ G H) (h : RunE K mg W env σ G H ((de env).bind f) Q)
    (k : ∀ d e1 v G1 H1, de env = .ok d e1 → Rel K e1 σ G1 H1 → Dv K G1 v d → Fr env σ G H e1 σ G1 H1 → RunE K mg W e1 σ G1 H1 (f d e1) Q → R v H1) : rdE K mg W de σ H R :=
  E_then hR (P := fun e s G H r => RunE K mg W e s G H r Q) h (fun _ _ z => z) (fun z => z) (fun _ _ _ _ a b => a.shift b) k
theorem E_thenT {de : DE} {f : D → DEnv → Rs Bool} {Q : Bool → Hp → Prop} {R : VK} (hR : Rel K env σ G H) (h : RunT K mg W env σ G H ((de env).bind f) Q)
    (k : ∀ d e1 v G1 H1, de env = .ok d e1 → Rel K e1 σ G1 H1 → Dv K G1 v d → Fr env σ G H e1 σ G1 H1 → RunT K mg W e1 σ G1 H1 (f d e1) Q → R v H1) : rdE K mg W de σ H R :=
  E_then hR (P := fun e s G H r => RunT K mg W e s G H r Q) h (fun _ _ z => z) (fun z => z) (fun _ _ _ _ a b => a.shift b) k
theorem E_thenA {de : DE} {f : D → DEnv → Rs (List D)} {Q : List V → Hp → Prop} {R : VK} (hR : Rel K env σ G H) (h : RunA K mg W env σ G H ((de env).bind f) Q)
    (k : ∀ d e1 v G1 H1, de env = .ok d e1 → Rel K e1 σ G1 H1 → Dv K G1 v d → Fr env σ G H e1 σ G1 H1 → RunA K mg W e1 σ G1 H1 (f d e1) Q → R v H1) : rdE K mg W de σ H R :=
  E_then hR (P := fun e s G H r => RunA K mg W e s G H r Q) h (fun _ _ z => z) (fun z => z) (fun _ _ _ _ a b => a.shift b) k
theorem E_thenL {de : DE} {f : D → DEnv → Rs (List D)} {Q R : VK} (hR : Rel K env σ G H) (h : RunL K mg W env σ G H ((de env).bind f) Q)
    (k : ∀ d e1 v G1 H1, de env = .ok d e1 → Rel K e1 σ G1 H1 → Dv K G1 v d → Fr env σ G H e1 σ G1 H1 → RunL K mg W e1 σ G1 H1 (f d e1) Q → R v H1) : rdE K mg W de σ H R :=
  E_then hR (P := fun e s G H r => RunL K mg W e s G H r Q) h (fun _ _ z => z) (fun z => z) (fun _ _ _ _ a b => a.shift b) k
theorem A_then {de : DA} {β : Type} {f : List D → DEnv → Rs β} {R : List V → Hp → Prop} (hR : Rel K env σ G H) {P : DEnv → St → Hp → Hp → Rs β → Prop}
    (h : P env σ G H ((de env).bind f)) (hx : ∀ x e, P env σ G H (.ex x e) → RunX K mg W env σ G H x e) (hst : ¬ P env σ G H .stuck)
    (hsh : ∀ e1 G1 H1 r, P env σ G H r → Fr env σ G H e1 σ G1 H1 → P e1 σ G1 H1 r)
    (k : ∀ d e1 v G1 H1, de env = .ok d e1 → Rel K e1 σ G1 H1 → DvAll K G1 v d → Fr env σ G H e1 σ G1 H1 → P e1 σ G1 H1 (f d e1) → R v H1) : rdA K mg W de σ H R := by
  refine ⟨env, G, hR, ?_⟩
  cases q : de env with
  | ok d e1 =>
    rw [q] at h
    exact fun v G1 H1 a b c => k d e1 v G1 H1 q a b c (hsh _ _ _ _ h c)
  | ex x e => rw [q] at h; exact hx x e h
  | stuck => rw [q] at h; exact (hst h).elim
theorem A_thenE {de : DA} {f : List D → DEnv → Rs D} {Q : VK} {R : List V → Hp → Prop} (hR : Rel K env σ G H) (h : RunE K mg W env σ G H ((de env).bind f) Q)
    (k : ∀ d e1 v G1 H1, de env = .ok d e1 → Rel K e1 σ G1 H1 → DvAll K G1 v d → Fr env σ G H e1 σ G1 H1 → RunE K mg W e1 σ G1 H1 (f d e1) Q → R v H1) : rdA K mg W de σ H R :=
  A_then hR (P := fun e s G H r => RunE K mg W e s G H r Q) h (fun _ _ z => z) (fun z => z) (fun _ _ _ _ a b => a.shift b) k
theorem A_thenA {de : DA} {f : List D → DEnv → Rs (List D)} {Q R : List V → Hp → Prop} (hR : Rel K env σ G H) (h : RunA K mg W env σ G H ((de env).bind f) Q)
    (k : ∀ d e1 v G1 H1, de env = .ok d e1 → Rel K e1 σ G1 H1 → DvAll K G1 v d → Fr env σ G H e1 σ G1 H1 → RunA K mg W e1 σ G1 H1 (f d e1) Q → R v H1) : rdA K mg W de σ H R :=
  A_then hR (P := fun e s G H r => RunA K mg W e s G H r Q) h (fun _ _ z => z) (fun z => z) (fun _ _ _ _ a b => a.shift b) k
theorem A_thenL {de : DA} {f : List D → DEnv → Rs (List D)} {Q : VK} {R : List V → Hp → Prop} (hR : Rel K env σ G H) (h : RunL K mg W env σ G H ((de env).bind f) Q)
    (k : ∀ d e1 v G1 H1, de env = .ok d e1 → Rel K e1 σ G1 H1 → DvAll K G1 v d → Fr env σ G H e1 σ G1 H1 → RunL K mg W e1 σ G1 H1 (f d e1) Q → R v H1) : rdA K mg W de σ H R :=
  A_then hR (P := fun e s G H r => RunL K mg W e s G H r Q) h (fun _ _ z => z) (fun z => z) (fun _ _ _ _ a b => a.shift b) k
/-- the answer in place -/
theorem RunE.at {d : D} {Q : VK} (h : RunE K mg W env σ G H (.ok d env1) Q) {v : V} (R : Rel K env1 σ G1 H1) (dp : Dv K G1 v d) (f : Fr env σ G H env1 σ G1 H1) : Q v H1 := h v G1 H1 R dp f
theorem RunE.grow {d : D} {Q : VK} (h : RunE K mg W env σ G H (.ok d env) Q) (R : Rel K env σ G H) {v : V} (g : Grow G H G1 H1) (dp : Dv K G1 v d) : Q v H1 := h v G1 H1 (R.grow g) dp (g.fr env σ)
end
/-! ### the judgements -/
theorem pe_imp {X : Cx} {e : Expr} {t t' : TE} (h : PE X e t) (k : ∀ σ H Q, t' σ H Q → t σ H Q) : PE X e t' := ⟨fun pins s σ H Q I w => h.run pins s σ H Q I (k σ H Q w)⟩
theorem pt_imp {X : Cx} {e : Expr} {t t' : TT} (h : PT X e t) (k : ∀ σ H Q, t' σ H Q → t σ H Q) : PT X e t' := ⟨fun pins s σ H Q I w => h.run pins s σ H Q I (k σ H Q w)⟩
theorem pw_imp {X : Cx} {e : Expr} {t t' : TT} (h : PW X e t) (k : ∀ σ H Q, t' σ H Q → t σ H Q) : PW X e t' := ⟨fun wh pins s σ H Q I w => h.run wh pins s σ H Q I (k σ H Q w)⟩
theorem pa_imp {X : Cx} {e : List Expr} {t t' : TA} (h : PA X e t) (k : ∀ σ H Q, t' σ H Q → t σ H Q) : PA X e t' := ⟨fun pos pins s σ H Q I w => h.run pos pins s σ H Q I (k σ H Q w)⟩
theorem ps_imp {X : Cx} {e : Stmt} {t t' : TS} (h : PS X e t) (k : ∀ D σ H, t' D σ H → t D σ H) : PS X e t' := ⟨fun pins s σ H D I w => h.run pins s σ H D I (k D σ H w)⟩
theorem pss_imp {X : Cx} {e : List Stmt} {t t' : TS} (h : PSs X e t) (k : ∀ D σ H, t' D σ H → t D σ H) : PSs X e t' := ⟨fun pins s σ H D I w => h.run pins s σ H D I (k D σ H w)⟩
abbrev CE (X : Cx) (W : WX) (e : Expr) (de : DE) : Prop := PE X e (rdE X.K X.mg W de)
abbrev CT (X : Cx) (W : WX) (e : Expr) (de : DT) : Prop := PT X e (rdT X.K X.mg W de)
abbrev CW (X : Cx) (W : WX) (e : Expr) (de : DT) : Prop := PW X e (rdT X.K X.mg W de)
abbrev CA (X : Cx) (W : WX) (es : List Expr) (de : DA) : Prop := PA X es (rdA X.K X.mg W de)
abbrev CL (X : Cx) (W : WX) (e : Expr) (de : DA) : Prop := PE X e (rdL X.K X.mg W de)
end DL
/- part DL1 -/
set_option Elab.async false
set_option linter.all false
set_option maxRecDepth 100000
set_option autoImplicit false
/-! DL1: expressions by data. -/
namespace DL
open PySem L2
/-! ### names, constants -/
def eVar (i : Nat) : DE := fun env => match env[i]? with
  | some (.v d) => .ok d env
  | some (.l xs) => .ok (.list xs) (env.set i (.v (.list xs)))
  | some (.m xs) => .ok (.dict xs) (env.set i (.v (.dict xs)))
  | _ => .stuck
def eC (d : D) : DE := fun env => .ok d env
def eBin (f : D → D → Option D) (da db : DE) : DE := fun env => (da env).bind fun x e1 => (db e1).bind fun y e2 => put (f x y) e2
def eUn (f : D → Option D) (da : DE) : DE := fun env => (da env).bind fun x e1 => put (f x) e1
def eCB (f : List D → Option D) (da : DA) : DE := fun env => (da env).bind fun xs e1 => put (f xs) e1
def eCL (f : List D → Option (List D)) (da : DA) : DA := fun env => (da env).bind fun xs e1 => put (f xs) e1
def aNil : DA := fun env => .ok [] env
def aCons (de : DE) (da : DA) : DA := fun env => (de env).bind fun x e1 => (da e1).bind fun xs e2 => .ok (x :: xs) e2
def eTup (da : DA) : DE := fun env => (da env).bind fun xs e1 => if xs.length ≤ 100000 then .ok (.tuple xs) e1 else .stuck
def lLst (da : DA) : DA := fun env => (da env).bind fun xs e1 => if xs.length ≤ 100000 then .ok xs e1 else .stuck
/-- a new list that stands still from now on -/
def eLst (da : DA) : DE := fun env => (da env).bind fun xs e1 => .ok (.list xs) e1
def tTst (de : DE) : DT := fun env => (de env).bind fun d e1 => match d with
  | .bool b => .ok b e1
  | _ => .stuck
def truth : D → Option Bool
  | .none => some false
  | .bool b => some b
  | .int i => some (i != 0)
  | .str x => if x.length ≤ 100000 then some ((x.length : Int) != 0) else none
  | .list xs => some (!xs.isEmpty)
  | .tuple xs => some (!xs.isEmpty)
  | .dict _ => none
def tTru (de : DE) : DT := fun env => (de env).bind fun d e1 => put (truth d) e1
def tAndD (t u : DT) : DT := fun env => (t env).bind fun b e1 => if b then u e1 else .ok false e1
def tOrD (t u : DT) : DT := fun env => (t env).bind fun b e1 => if b then .ok true e1 else u e1
def tNotD (t : DT) : DT := fun env => (t env).bind fun b e1 => .ok (!b) e1
def eIf (t : DT) (da db : DE) : DE := fun env => (t env).bind fun b e1 => if b then da e1 else db e1
/-- and, or as values, all but the last True or False -/
def eAnd (da db : DE) : DE := fun env => (da env).bind fun x e1 => match x with
  | .bool true => db e1
  | .bool false => .ok (.bool false) e1
  | _ => .stuck
def eOr (da db : DE) : DE := fun env => (da env).bind fun x e1 => match x with
  | .bool true => .ok (.bool true) e1
  | .bool false => db e1
  | _ => .stuck
def eNot (da : DE) : DE := fun env => (da env).bind fun x e1 => match x with
  | .bool b => .ok (.bool (!b)) e1
  | _ => .stuck

/-! ### what an operation does on data -/
def OpD (K : PySem.W.Frag) (r : R2) (f : D → D → Option D) : Prop := ∀ (x y : V) (d e z : D) (G H : Hp) (Q : VK), Dv K G x d → Dv K G y e → Ex G H → f d e = some z → (∀ v G' H', Dv K G' v z → Grow G H G' H' → Q v H') → r x y H Q
def UnD (K : PySem.W.Frag) (r : V → Hp → VK → Prop) (f : D → Option D) : Prop := ∀ (x : V) (d z : D) (G H : Hp) (Q : VK), Dv K G x d → Ex G H → f d = some z → (∀ v G' H', Dv K G' v z → Grow G H G' H' → Q v H') → r x H Q
def CbD (K : PySem.W.Frag) (r : List V → Hp → VK → Prop) (f : List D → Option D) : Prop := ∀ (xs : List V) (ds : List D) (z : D) (G H : Hp) (Q : VK), DvAll K G xs ds → Ex G H → f ds = some z → (∀ v G' H', Dv K G' v z → Grow G H G' H' → Q v H') → r xs H Q
/-- a call that makes a new list -/
def ClD (K : PySem.W.Frag) (r : List V → Hp → VK → Prop) (f : List D → Option (List D)) : Prop := ∀ (xs : List V) (ds zs : List D) (G H : Hp) (Q : VK), DvAll K G xs ds → Ex G H → f ds = some zs →
  (∀ a vs, H a = none → DvAll K G vs zs → Q (.ref a) (upd H a (.lst vs))) → r xs H Q
def OlD (K : PySem.W.Frag) (r : R2) (f : D → D → Option (List D)) : Prop := ∀ (x y : V) (d e : D) (zs : List D) (G H : Hp) (Q : VK), Dv K G x d → Dv K G y e → Ex G H → f d e = some zs →
  (∀ a vs, H a = none → DvAll K G vs zs → Q (.ref a) (upd H a (.lst vs))) → r x y H Q
section
variable {K : PySem.W.Frag} {mg : Str → Option Value} {W : WX}
theorem OpD.or {r r' : R2} {f g : D → D → Option D} (h : OpD K r f) (h' : OpD K r' g) : OpD K (fun x y H Q => r x y H Q ∨ r' x y H Q) (fun x y => match f x y with | some z => some z | none => g x y) := by
  intro x y d e z G H Q hx hy ex hf k
  cases q : f d e with
  | some w =>
    simp only [q, Option.some.injEq] at hf
    subst hf
    exact .inl (h x y d e _ G H Q hx hy ex q k)
  | none =>
    simp only [q] at hf
    exact .inr (h' x y d e z G H Q hx hy ex hf k)
theorem CbD.or {r r' : List V → Hp → VK → Prop} {f g : List D → Option D} (h : CbD K r f) (h' : CbD K r' g) : CbD K (fun xs H Q => r xs H Q ∨ r' xs H Q) (fun xs => match f xs with | some z => some z | none => g xs) := by
  intro xs ds z G H Q hx ex hf k
  cases q : f ds with
  | some w =>
    simp only [q, Option.some.injEq] at hf
    subst hf
    exact .inl (h xs ds _ G H Q hx ex q k)
  | none =>
    simp only [q] at hf
    exact .inr (h' xs ds z G H Q hx ex hf k)
/-- the answer where it was asked -/
theorem RunE.put {env : DEnv} {σ : L2.St} {G H : Hp} {o : Option D} {Q : VK} (R : Rel K env σ G H) (h : RunE K mg W env σ G H (put o env) Q)
    : ∃ z, o = some z ∧ ∀ v G' H', Dv K G' v z → Grow G H G' H' → Q v H' := by
  cases o with
  | none => exact h.elim
  | some z => exact ⟨z, rfl, fun v G' H' dv g => h v G' H' (R.grow g) dv (g.fr env σ)⟩
theorem bin_ok {r : R2} {f : D → D → Option D} (o : OpD K r f) (da db : DE) (σ : L2.St) (H : Hp) (Q : VK) (h : rdE K mg W (eBin f da db) σ H Q) : tOp r (rdE K mg W da) (rdE K mg W db) σ H Q := by
  obtain ⟨env, G, R, h⟩ := h
  refine E_thenE R h fun d e1 v G1 H1 _ R1 dv F1 h1 => E_thenE R1 h1 fun d2 e2 v2 G2 H2 _ R2 dv2 F2 h2 => ?_
  obtain ⟨z, e, k⟩ := RunE.put R2 h2
  exact o v v2 d d2 z G2 H2 Q (dv.up F2.gg) dv2 R2.ex e k
theorem un_ok {r : V → Hp → VK → Prop} {f : D → Option D} (o : UnD K r f) (da : DE) (σ : L2.St) (H : Hp) (Q : VK) (h : rdE K mg W (eUn f da) σ H Q) : tUn r (rdE K mg W da) σ H Q := by
  obtain ⟨env, G, R, h⟩ := h
  refine E_thenE R h fun d e1 v G1 H1 _ R1 dv F1 h1 => ?_
  obtain ⟨z, e, k⟩ := RunE.put R1 h1
  exact o v d z G1 H1 Q dv R1.ex e k
theorem cb_ok {r : List V → Hp → VK → Prop} {f : List D → Option D} (o : CbD K r f) (da : DA) (σ : L2.St) (H : Hp) (Q : VK) (h : rdE K mg W (eCB f da) σ H Q) : tCB r (rdA K mg W da) σ H Q := by
  obtain ⟨env, G, R, h⟩ := h
  refine A_thenE R h fun d e1 v G1 H1 _ R1 dv F1 h1 => ?_
  obtain ⟨z, e, k⟩ := RunE.put R1 h1
  exact o v d z G1 H1 Q dv R1.ex e k
/-- a new list laid: it is nobody's -/
theorem RunL.new {env : DEnv} {σ : L2.St} {G H : Hp} {zs : List D} {vs : List V} {Q : VK} {a : Addr} (R : Rel K env σ G H) (h : RunL K mg W env σ G H (.ok zs env) Q) (ha : H a = none) (dv : DvAll K G vs zs) : Q (.ref a) (upd H a (.lst vs)) := by
  have ga : G a = none := R.ex.none ha
  have ne : ∀ b, Own env σ b → b ≠ a := fun b hb z => by
    subst z
    exact (hb.there R).1 ha
  refine h a vs G (upd H a (.lst vs)) ⟨fun b o hb => ?_, R.len, fun i s o h1 h2 => ?_, R.dist⟩ upd_same ga ha (fun hb => ne a hb rfl) dv
    ⟨Ex.refl _, fun b o hb _ => ?_, fun b hb => ?_, fun b hb => .inl hb, fun b hb => .inl hb, fun i xs hi => ⟨rfl, xs, hi⟩⟩
  · rw [upd_ne (fun z => by subst z; rw [ga] at hb; cases hb)]
    exact R.ex b o hb
  · have q := R.slot i s o h1 h2
    cases s with
    | no => trivial
    | v d => exact q
    | l xs => obtain ⟨b, vs', e, q1, q2, q3⟩ := q; exact ⟨b, vs', e, by rw [upd_ne (fun z => by subst z; rw [ha] at q1; cases q1)]; exact q1, q2, q3⟩
    | p xs => obtain ⟨b, vs', e, q1, q2, q3⟩ := q; exact ⟨b, vs', e, by rw [upd_ne (fun z => by subst z; rw [ha] at q1; cases q1)]; exact q1, q2, q3⟩
    | m xs => obtain ⟨b, vs', e, q1, q2, q3⟩ := q; exact ⟨b, vs', e, by rw [upd_ne (fun z => by subst z; rw [ha] at q1; cases q1)]; exact q1, q2, q3⟩
    | f x => exact q
    | a x _ _ => exact q
  · rw [upd_ne (fun z => by subst z; rw [ha] at hb; cases hb)]
    exact hb
  · by_cases z : b = a
    · subst z; exact ha
    · rw [upd_ne z] at hb; exact hb
theorem cl_ok {r : List V → Hp → VK → Prop} {f : List D → Option (List D)} (o : ClD K r f) (da : DA) (σ : L2.St) (H : Hp) (Q : VK) (h : rdL K mg W (eCL f da) σ H Q) : tCB r (rdA K mg W da) σ H Q := by
  obtain ⟨env, G, R, h⟩ := h
  refine A_thenL R h fun d e1 v G1 H1 _ R1 dv F1 h1 => ?_
  cases q : f d with
  | none => rw [q] at h1; exact h1.elim
  | some zs =>
    rw [q] at h1
    exact o v d zs G1 H1 Q dv R1.ex q fun a vs ha dz => RunL.new R1 h1 ha dz
def eBinL (f : D → D → Option (List D)) (da db : DE) : DA := fun env => (da env).bind fun x e1 => (db e1).bind fun y e2 => put (f x y) e2
theorem binL_ok {r : R2} {f : D → D → Option (List D)} (o : OlD K r f) (da db : DE) (σ : L2.St) (H : Hp) (Q : VK) (h : rdL K mg W (eBinL f da db) σ H Q) : tOp r (rdE K mg W da) (rdE K mg W db) σ H Q := by
  obtain ⟨env, G, R, h⟩ := h
  refine E_thenL R h fun d e1 v G1 H1 _ R1 dv F1 h1 => E_thenL R1 h1 fun d2 e2 v2 G2 H2 _ R2 dv2 F2 h2 => ?_
  cases q : f d d2 with
  | none => rw [q] at h2; exact h2.elim
  | some zs =>
    rw [q] at h2
    exact o v v2 d d2 zs G2 H2 Q (dv.up F2.gg) dv2 R2.ex q fun a vs ha dz => RunL.new R2 h2 ha dz
/-- a list of nobody's becomes data that stands still -/
theorem RunL.of {env : DEnv} {σ : L2.St} {G H : Hp} {r : Rs (List D)} {Q : VK} (h' : RunE K mg W env σ G H (r.bind fun xs e1 => .ok (.list xs) e1) Q) : RunL K mg W env σ G H r Q := by
  cases r with
  | stuck => exact h'
  | ex x e => exact h'
  | ok ds e1 =>
    intro a vs G' H' R' h1 h2 h3 h4 dv F
    have ne : ∀ b, Own e1 σ b → b ≠ a := fun b hb z => by subst z; exact h4 hb
    refine h' (.ref a) (upd G' a (.lst vs)) H' ⟨fun b o hb => ?_, R'.len, fun i s o e1' e2 => ?_, R'.dist⟩ (.lst (.of upd_same) (dv.up (Ex.new h2)))
      ⟨F.gg.trans (Ex.new h2), F.keep, F.dom, fun b hb => ?_, F.own, F.par⟩
    · by_cases z : b = a
      · subst z; rw [upd_same] at hb; rw [h1]; exact hb
      · rw [upd_ne z] at hb; exact R'.ex b o hb
    · have qq := R'.slot i s o e1' e2
      have own : ∀ b, s.own = true → o = some (.ref b) → b ≠ a := fun b hs ho => ne b ⟨i, ⟨s, e1', hs⟩, by rw [e2, ho]⟩
      cases s with
      | no => trivial
      | v d => obtain ⟨v, e, qq⟩ := qq; exact ⟨v, e, qq.up (Ex.new h2)⟩
      | l xs => obtain ⟨b, vs', e, q1, q2, q3⟩ := qq; exact ⟨b, vs', e, q1, by rw [upd_ne (own b rfl e)]; exact q2, q3.up (Ex.new h2)⟩
      | p xs => obtain ⟨b, vs', e, q1, q2, q3⟩ := qq; exact ⟨b, vs', e, q1, by rw [upd_ne (own b rfl e)]; exact q2, q3.up (Ex.new h2)⟩
      | m xs => obtain ⟨b, vs', e, q1, q2, q3⟩ := qq; exact ⟨b, vs', e, q1, by rw [upd_ne (own b rfl e)]; exact q2, q3.up (Ex.new h2)⟩
      | f x => exact qq
      | a x _ _ => exact ⟨qq.1, qq.2.up (Ex.new h2)⟩
    · by_cases z : b = a
      · subst z; exact .inr (.inl h3)
      · rw [upd_ne z] at hb; exact F.fresh b hb
theorem L_to_E {da : DA} (σ : L2.St) (H : Hp) (Q : VK) (h : rdE K mg W (eLst da) σ H Q) : rdL K mg W da σ H Q := by
  obtain ⟨env, G, R, h⟩ := h
  exact ⟨env, G, R, RunL.of h⟩
end
theorem freezeO {K : PySem.W.Frag} {env : DEnv} {σ : L2.St} {G H : Hp} {i : Nat} {s0 : Sl} {d0 : D} {a : Addr} {o0 : HO} (R : Rel K env σ G H) (hi : env[i]? = some s0) (hs0 : s0.own = true)
    (ho : σ[i]? = some (some (.ref a))) (h1 : H a = some o0) (h2 : G a = none) (dv : Dv K (upd G a o0) (.ref a) d0) :
    Rel K (env.set i (.v d0)) σ (upd G a o0) H ∧ Fr env σ G H (env.set i (.v d0)) σ (upd G a o0) H := by
  have li : i < env.length := (List.getElem?_eq_some_iff.mp hi).1
  have owns : OwnAt env σ i a := ⟨⟨_, hi, hs0⟩, ho⟩
  have sub : ∀ j b, OwnAt (env.set i (.v d0)) σ j b → OwnAt env σ j b ∧ j ≠ i := fun j b ⟨⟨s, e1, e2⟩, e3⟩ => by
    by_cases z : j = i
    · subst z
      rw [List.getElem?_set_self li] at e1
      cases e1
      cases e2
    · rw [List.getElem?_set_ne (Ne.symm z)] at e1
      exact ⟨⟨⟨s, e1, e2⟩, e3⟩, z⟩
  refine ⟨⟨fun b o hb => ?_, by rw [List.length_set]; exact R.len, fun j s o e1 e2 => ?_, fun j k b x y => R.dist j k b (sub j b x).1 (sub k b y).1⟩,
    ⟨Ex.new h2, fun b o hb _ => hb, fun b hb => hb, fun b hb => ?_, fun b ⟨j, hj⟩ => .inl ⟨j, (sub j b hj).1⟩, fun j ys hj => ?_⟩⟩
  · by_cases z : b = a
    · subst z; rw [upd_same] at hb; rw [h1]; exact hb
    · rw [upd_ne z] at hb; exact R.ex b o hb
  · by_cases z : j = i
    · subst z
      rw [List.getElem?_set_self li] at e1
      cases e1
      rw [ho] at e2
      cases e2
      exact ⟨_, rfl, dv⟩
    · rw [List.getElem?_set_ne (Ne.symm z)] at e1
      have q := R.slot j s o e1 e2
      have nb : ∀ b, s.own = true → o = some (.ref b) → b ≠ a := fun b hs hob w => by
        subst w
        exact z (R.dist j i b ⟨⟨s, e1, hs⟩, by rw [e2, hob]⟩ owns)
      cases s with
      | no => trivial
      | v d => obtain ⟨v, e, q⟩ := q; exact ⟨v, e, q.up (Ex.new h2)⟩
      | l ys => obtain ⟨b, vs', e, q1, q2, q3⟩ := q; exact ⟨b, vs', e, q1, by rw [upd_ne (nb b rfl e)]; exact q2, q3.up (Ex.new h2)⟩
      | p ys => obtain ⟨b, vs', e, q1, q2, q3⟩ := q; exact ⟨b, vs', e, q1, by rw [upd_ne (nb b rfl e)]; exact q2, q3.up (Ex.new h2)⟩
      | m ys => obtain ⟨b, vs', e, q1, q2, q3⟩ := q; exact ⟨b, vs', e, q1, by rw [upd_ne (nb b rfl e)]; exact q2, q3.up (Ex.new h2)⟩
      | f x => exact q
      | a x _ _ => exact ⟨q.1, q.2.up (Ex.new h2)⟩
  · by_cases z : b = a
    · subst z; exact .inr (.inr ⟨i, owns⟩)
    · rw [upd_ne z] at hb; exact .inl hb
  · by_cases z : j = i
    · subst z
      rw [List.getElem?_set_self li] at hj
      cases hj
    · rw [List.getElem?_set_ne (Ne.symm z)] at hj
      exact ⟨rfl, ys, hj⟩
theorem freeze {K : PySem.W.Frag} {env : DEnv} {σ : L2.St} {G H : Hp} {i : Nat} {xs : List D} (R : Rel K env σ G H) (hi : env[i]? = some (.l xs)) :
    ∃ a vs, σ[i]? = some (some (.ref a)) ∧ Rel K (env.set i (.v (.list xs))) σ (upd G a (.lst vs)) H ∧ Dv K (upd G a (.lst vs)) (.ref a) (.list xs) ∧ Fr env σ G H (env.set i (.v (.list xs))) σ (upd G a (.lst vs)) H := by
  have li2 : i < σ.length := by rw [← R.len]; exact (List.getElem?_eq_some_iff.mp hi).1
  have ho : σ[i]? = some σ[i] := List.getElem?_eq_getElem li2
  obtain ⟨a, vs, e, h1, h2, h3⟩ := R.slot i _ _ hi ho
  rw [e] at ho
  have dv : Dv K (upd G a (.lst vs)) (.ref a) (.list xs) := .lst (.of upd_same) (h3.up (Ex.new h2))
  obtain ⟨r1, r2⟩ := freezeO R hi rfl ho h1 h2 dv
  exact ⟨a, vs, ho, r1, dv, r2⟩
theorem freezeM {K : PySem.W.Frag} {env : DEnv} {σ : L2.St} {G H : Hp} {i : Nat} {xs : List (D × D)} (R : Rel K env σ G H) (hi : env[i]? = some (.m xs)) :
    ∃ a vs, σ[i]? = some (some (.ref a)) ∧ Rel K (env.set i (.v (.dict xs))) σ (upd G a (.dK vs)) H ∧ Dv K (upd G a (.dK vs)) (.ref a) (.dict xs) ∧ Fr env σ G H (env.set i (.v (.dict xs))) σ (upd G a (.dK vs)) H := by
  have li2 : i < σ.length := by rw [← R.len]; exact (List.getElem?_eq_some_iff.mp hi).1
  have ho : σ[i]? = some σ[i] := List.getElem?_eq_getElem li2
  obtain ⟨a, vs, e, h1, h2, h3⟩ := R.slot i _ _ hi ho
  rw [e] at ho
  have dv : Dv K (upd G a (.dK vs)) (.ref a) (.dict xs) := .dct (.inl upd_same) (h3.up (Ex.new h2))
  obtain ⟨r1, r2⟩ := freezeO R hi rfl ho h1 h2 dv
  exact ⟨a, vs, ho, r1, dv, r2⟩
section
variable {X : Cx} {W : WX} {a b e : Expr} {da db : DE} {pos : Pos}
theorem var_ok {K : PySem.W.Frag} {mg : Str → Option Value} {i : Nat} (σ : L2.St) (H : Hp) (Q : VK) (h : rdE K mg W (eVar i) σ H Q) : tVar i σ H Q := by
  obtain ⟨env, G, R, h⟩ := h
  unfold eVar at h
  cases q : env[i]? with
  | none => rw [q] at h; exact h.elim
  | some s =>
    rw [q] at h
    have li : i < σ.length := by rw [← R.len]; exact (List.getElem?_eq_some_iff.mp q).1
    have ho : σ[i]? = some σ[i] := List.getElem?_eq_getElem li
    cases s with
    | no => exact h.elim
    | p xs => exact h.elim
    | f x => exact h.elim
    | a x _ _ => exact h.elim
    | m xs =>
      obtain ⟨a, vs, e1, R', dv, F⟩ := freezeM R q
      exact ⟨_, e1, h _ _ _ R' dv F⟩
    | v d =>
      obtain ⟨v, e, dv⟩ := R.slot i _ _ q ho
      rw [e] at ho
      exact ⟨v, ho, h v G H R dv (Fr.refl _ _ _ _)⟩
    | l xs =>
      obtain ⟨a, vs, e1, R', dv, F⟩ := freeze R q
      exact ⟨_, e1, h _ _ _ R' dv F⟩
theorem ce_var (i : Nat) {x : Str} (hN : X.N[i]? = some x := by rfl) (hv : Vis X.env.scope x := by first | exact Or.inl rfl | exact Or.inr (Or.inl rfl) | exact Or.inr (Or.inr rfl)) (hd : (x == ("__debug__" : Str)) = false := by decide)
    (hcd : (x == ("__classdict__" : Str)) = false := by decide) : CE X W (.Name x pos) (eVar i) := pe_imp (pe_var hN hv hd hcd) var_ok
theorem c_ok {K : PySem.W.Frag} {mg : Str → Option Value} {v : V} {d : D} (dv : ∀ G, Dv K G v d) (σ : L2.St) (H : Hp) (Q : VK) (h : rdE K mg W (eC d) σ H Q) : tC v σ H Q := by
  obtain ⟨env, G, R, h⟩ := h
  exact h v G H R (dv G) (Fr.refl _ _ _ _)
theorem ce_int {i : Int} {j : Nat} : CE X W (.Constant (.int i) j pos) (eC (.int i)) := pe_imp pe_int (c_ok fun _ => .int i)
theorem ce_bool {i : Bool} {j : Nat} : CE X W (.Constant (.bool i) j pos) (eC (.bool i)) := pe_imp pe_bl (c_ok fun _ => .bl i)
theorem ce_none {j : Nat} : CE X W (.Constant .none j pos) (eC .none) := pe_imp pe_non (c_ok fun _ => .non)
theorem ce_str {x : Str} {j : Nat} : CE X W (.Constant (.str x) j pos) (eC (.str x)) := pe_imp pe_str (c_ok fun _ => .str x)
/-- -n, written -/
theorem ce_neg {i : Int} {j : Nat} {p : Pos} : CE X W (.UnaryOp .USub (.Constant (.int i) j p) pos) (eC (.int (-i))) := pe_imp (pe_un un_neg pe_int) fun σ H Q h => by
  obtain ⟨env, G, R, h⟩ := h
  exact ⟨i, rfl, h _ G H R (.int _) (Fr.refl _ _ _ _)⟩
theorem ce_bin {op : Operator} {r : R2} {f : D → D → Option D} (ho : OpR X (binaryOp op) r) (o : OpD X.K r f) (ha : CE X W a da) (hb : CE X W b db) : CE X W (.BinOp a op b pos) (eBin f da db) := pe_imp (pe_op ho ha hb) (bin_ok o da db)
theorem ce_un {op : UnaryOp} {r : V → Hp → VK → Prop} {f : D → Option D} (ho : UnR X (unaryOp op) r) (o : UnD X.K r f) (ha : CE X W a da) : CE X W (.UnaryOp op a pos) (eUn f da) := pe_imp (pe_un ho ha) (un_ok o da)
theorem cl_bin {op : Operator} {r : R2} {f : D → D → Option (List D)} (ho : OpR X (binaryOp op) r) (o : OlD X.K r f) (ha : CE X W a da) (hb : CE X W b db) : CL X W (.BinOp a op b pos) (eBinL f da db) := pe_imp (pe_op ho ha hb) (binL_ok o da db)
theorem ce_cmp {op : CmpOp} {r : R2} {f : D → D → Option D} (ho : OpR X (compareOp op) r) (o : OpD X.K r f) (ha : CE X W a da) (hb : CE X W b db) (hm : behindInMarks op b = false) : CE X W (.Compare a [op] [b] pos) (eBin f da db) := pe_imp (pe_cmpR ho ha hb hm) (bin_ok o da db)
theorem ce_ix {r : R2} {f : D → D → Option D} (hr : IxR X r) (o : OpD X.K r f) (ha : CE X W a da) (hb : CE X W b db) (hs : PlainIx b) : CE X W (.Subscript a b pos) (eBin f da db) := pe_imp (pe_ix hr ha hb hs) (bin_ok o da db)
theorem tst_ok {K : PySem.W.Frag} {mg : Str → Option Value} (de : DE) (σ : L2.St) (H : Hp) (Q : Bool → Hp → Prop) (h : rdT K mg W (tTst de) σ H Q) : rdE K mg W de σ H fun x H' => ∃ k, x = .bl k ∧ Q k H' := by
  obtain ⟨env, G, R, h⟩ := h
  refine E_thenT R h fun d e1 v G1 H1 _ R1 dv F1 h1 => ?_
  cases dv with
  | bl b => exact ⟨b, rfl, h1 G1 H1 R1 (Fr.refl _ _ _ _)⟩
  | non => exact h1.elim
  | int i => exact h1.elim
  | str i => exact h1.elim
  | lst _ _ => exact h1.elim
  | tup _ _ => exact h1.elim
  | dct _ _ => exact h1.elim
theorem ct_cmp {op : CmpOp} {r : R2} {f : D → D → Option D} (ho : OpR X (compareOp op) r) (o : OpD X.K r f) (ha : CE X W a da) (hb : CE X W b db) (hm : behindInMarks op b = false) : CT X W (.Compare a [op] [b] pos) (tTst (eBin f da db)) :=
  pt_imp (pt_cmpR ho ha hb hm) fun σ H Q h => bin_ok o da db σ H _ (tst_ok _ σ H Q h)
/-- an expression that gives True or False, as a test -/
theorem ct_val {e : Expr} {de : DE} (h : CE X W e de) (he : ∀ whole, isTrue e X.env whole = (do let v ← whole; standAt e.pos; holding [v] (truthy v)) := by intro _; rfl) : CT X W e (tTst de) := pt_imp (pt_val h he) fun σ H Q h => tst_ok _ σ H Q h
theorem tru_okD {K : PySem.W.Frag} {mg : Str → Option Value} (de : DE) (σ : L2.St) (H : Hp) (Q : Bool → Hp → Prop) (h : rdT K mg W (tTru de) σ H Q) : rdE K mg W de σ H fun x H' => ∃ k, TruV K x H' k ∧ Q k H' := by
  obtain ⟨env, G, R, h⟩ := h
  refine E_thenT R h fun d e1 v G1 H1 _ R1 dv F1 h1 => ?_
  cases q : truth d with
  | none => rw [q] at h1; exact h1.elim
  | some k =>
    rw [q] at h1
    refine ⟨k, ?_, h1 G1 H1 R1 (Fr.refl _ _ _ _)⟩
    cases dv with
    | bl b => cases q; rfl
    | non => cases q; rfl
    | int i => cases q; rfl
    | str x =>
      have q' : (if x.length ≤ 100000 then some ((x.length : Int) != 0) else none) = some k := q
      by_cases hz : x.length ≤ 100000
      · rw [if_pos hz] at q'
        cases q'
        exact ⟨Nat.le_trans hz (by decide), rfl⟩
      · rw [if_neg hz] at q'
        cases q'
    | @lst a xs ds g1 g2 =>
      cases q
      refine .inl ⟨_, (R1.ex.rl g1).sq, ?_⟩
      cases g2 <;> rfl
    | @tup a xs ds g1 g2 =>
      cases q
      refine .inr (.inl ⟨_, (R1.ex.n g1).t, ?_⟩)
      cases g2 <;> rfl
    | dct _ _ => cases q
theorem ct_tru {e : Expr} {de : DE} (h : CE X W e de) (he : ∀ whole, isTrue e X.env whole = (do let v ← whole; standAt e.pos; holding [v] (truthy v)) := by intro _; rfl) : CT X W e (tTru de) := pt_imp (pt_truth h he) fun σ H Q h => tru_okD _ σ H Q h
theorem T_then {K : PySem.W.Frag} {mg : Str → Option Value} {env : DEnv} {σ : L2.St} {G H : Hp} {dt : DT} {β : Type} {f : Bool → DEnv → Rs β} {R : Bool → Hp → Prop} (hR : Rel K env σ G H) {P : DEnv → L2.St → Hp → Hp → Rs β → Prop}
    (h : P env σ G H ((dt env).bind f)) (hx : ∀ x e, P env σ G H (.ex x e) → RunX K mg W env σ G H x e) (hst : ¬ P env σ G H .stuck)
    (hsh : ∀ e1 G1 H1 r, P env σ G H r → Fr env σ G H e1 σ G1 H1 → P e1 σ G1 H1 r)
    (k : ∀ d e1 G1 H1, dt env = .ok d e1 → Rel K e1 σ G1 H1 → Fr env σ G H e1 σ G1 H1 → P e1 σ G1 H1 (f d e1) → R d H1) : rdT K mg W dt σ H R := by
  refine ⟨env, G, hR, ?_⟩
  cases q : dt env with
  | ok d e1 =>
    rw [q] at h
    exact fun G1 H1 a c => k d e1 G1 H1 q a c (hsh _ _ _ _ h c)
  | ex x e => rw [q] at h; exact hx x e h
  | stuck => rw [q] at h; exact (hst h).elim
theorem T_thenT {K : PySem.W.Frag} {mg : Str → Option Value} {env : DEnv} {σ : L2.St} {G H : Hp} {dt : DT} {f : Bool → DEnv → Rs Bool} {Q R : Bool → Hp → Prop} (hR : Rel K env σ G H) (h : RunT K mg W env σ G H ((dt env).bind f) Q)
    (k : ∀ d e1 G1 H1, dt env = .ok d e1 → Rel K e1 σ G1 H1 → Fr env σ G H e1 σ G1 H1 → RunT K mg W e1 σ G1 H1 (f d e1) Q → R d H1) : rdT K mg W dt σ H R :=
  T_then hR (P := fun e s G H r => RunT K mg W e s G H r Q) h (fun _ _ z => z) (fun z => z) (fun _ _ _ _ a b => a.shift b) k
theorem T_thenE {K : PySem.W.Frag} {mg : Str → Option Value} {env : DEnv} {σ : L2.St} {G H : Hp} {dt : DT} {f : Bool → DEnv → Rs D} {Q : VK} {R : Bool → Hp → Prop} (hR : Rel K env σ G H) (h : RunE K mg W env σ G H ((dt env).bind f) Q)
    (k : ∀ d e1 G1 H1, dt env = .ok d e1 → Rel K e1 σ G1 H1 → Fr env σ G H e1 σ G1 H1 → RunE K mg W e1 σ G1 H1 (f d e1) Q → R d H1) : rdT K mg W dt σ H R :=
  T_then hR (P := fun e s G H r => RunE K mg W e s G H r Q) h (fun _ _ z => z) (fun z => z) (fun _ _ _ _ a b => a.shift b) k
variable {dt du : DT} {rest : List Expr}
theorem cw_and1 (ha : CT X W a dt) : CW X W (.BoolOp .And [a] pos) dt := pw_and1 ha
theorem cw_or1 (ha : CT X W a dt) : CW X W (.BoolOp .Or [a] pos) dt := pw_or1 ha
theorem cw_and (ha : CT X W a dt) (hb : CW X W (.BoolOp .And (b :: rest) pos) du) : CW X W (.BoolOp .And (a :: b :: rest) pos) (tAndD dt du) := pw_imp (pw_and ha hb) fun σ H Q h => by
  obtain ⟨env, G, R, h⟩ := h
  refine T_thenT R h fun d e1 G1 H1 _ R1 F1 h1 => ?_
  cases d with
  | true => exact ⟨e1, G1, R1, h1⟩
  | false => exact h1 G1 H1 R1 (Fr.refl _ _ _ _)
theorem cw_or (ha : CT X W a dt) (hb : CW X W (.BoolOp .Or (b :: rest) pos) du) : CW X W (.BoolOp .Or (a :: b :: rest) pos) (tOrD dt du) := pw_imp (pw_or ha hb) fun σ H Q h => by
  obtain ⟨env, G, R, h⟩ := h
  refine T_thenT R h fun d e1 G1 H1 _ R1 F1 h1 => ?_
  cases d with
  | true => exact h1 G1 H1 R1 (Fr.refl _ _ _ _)
  | false => exact ⟨e1, G1, R1, h1⟩
theorem ct_w (h : CW X W e dt) : CT X W e dt := PW.pt h
theorem ct_not (ha : CT X W a dt) : CT X W (.UnaryOp .Not a pos) (tNotD dt) := pt_imp (pt_not ha) fun σ H Q h => by
  obtain ⟨env, G, R, h⟩ := h
  exact T_thenT R h fun d e1 G1 H1 _ R1 F1 h1 => h1 G1 H1 R1 (Fr.refl _ _ _ _)
theorem ce_if {c : Expr} (hc : CT X W c dt) (ha : CE X W a da) (hb : CE X W b db) : CE X W (.IfExp c a b pos) (eIf dt da db) := pe_imp (pe_ifExp hc ha hb) fun σ H Q h => by
  obtain ⟨env, G, R, h⟩ := h
  refine T_thenE R h fun d e1 G1 H1 _ R1 F1 h1 => ?_
  cases d with
  | true => exact ⟨e1, G1, R1, h1⟩
  | false => exact ⟨e1, G1, R1, h1⟩
theorem ce_one {op : BoolOp} (h : CE X W a da) : CE X W (.BoolOp op [a] pos) da := pe_one h
theorem ce_and (ha : CE X W a da) (hb : CE X W (.BoolOp .And (b :: rest) pos) db) : CE X W (.BoolOp .And (a :: b :: rest) pos) (eAnd da db) := pe_imp (pe_and ha hb) fun σ H Q h => by
  obtain ⟨env, G, R, h⟩ := h
  refine E_thenE R h fun d e1 v G1 H1 _ R1 dv F1 h1 => ?_
  cases dv with
  | bl b =>
    cases b with
    | true => exact ⟨true, rfl, e1, G1, R1, h1⟩
    | false => exact ⟨false, rfl, h1 _ G1 H1 R1 (.bl false) (Fr.refl _ _ _ _)⟩
  | non => exact h1.elim
  | int i => exact h1.elim
  | str i => exact h1.elim
  | lst _ _ => exact h1.elim
  | tup _ _ => exact h1.elim
  | dct _ _ => exact h1.elim
theorem ce_or (ha : CE X W a da) (hb : CE X W (.BoolOp .Or (b :: rest) pos) db) : CE X W (.BoolOp .Or (a :: b :: rest) pos) (eOr da db) := pe_imp (pe_or ha hb) fun σ H Q h => by
  obtain ⟨env, G, R, h⟩ := h
  refine E_thenE R h fun d e1 v G1 H1 _ R1 dv F1 h1 => ?_
  cases dv with
  | bl b =>
    cases b with
    | false => exact ⟨false, rfl, e1, G1, R1, h1⟩
    | true => exact ⟨true, rfl, h1 _ G1 H1 R1 (.bl true) (Fr.refl _ _ _ _)⟩
  | non => exact h1.elim
  | int i => exact h1.elim
  | str i => exact h1.elim
  | lst _ _ => exact h1.elim
  | tup _ _ => exact h1.elim
  | dct _ _ => exact h1.elim
theorem ce_not (ha : CE X W a da) : CE X W (.UnaryOp .Not a pos) (eNot da) := pe_imp (pe_not ha) fun σ H Q h => by
  obtain ⟨env, G, R, h⟩ := h
  refine E_thenE R h fun d e1 v G1 H1 _ R1 dv F1 h1 => ?_
  cases dv with
  | bl b => exact ⟨b, rfl, h1 _ G1 H1 R1 (.bl _) (Fr.refl _ _ _ _)⟩
  | non => exact h1.elim
  | int i => exact h1.elim
  | str i => exact h1.elim
  | lst _ _ => exact h1.elim
  | tup _ _ => exact h1.elim
  | dct _ _ => exact h1.elim
/-! ### arguments, displays, built-ins -/
variable {es : List Expr} {ds : DA}
theorem ca_nil : CA X W [] aNil := pa_imp pa_nil fun σ H Q h => by
  obtain ⟨env, G, R, h⟩ := h
  exact h [] G H R .nil (Fr.refl _ _ _ _)
theorem ca_cons (ha : CE X W e da) (hr : CA X W es ds) (hs : starEach (e :: es) X.env = (false, eval e X.env) :: starEach es X.env := by rfl) : CA X W (e :: es) (aCons da ds) := pa_imp (pa_cons ha hr hs) fun σ H Q h => by
  obtain ⟨env, G, R, h⟩ := h
  exact E_thenA R h fun d e1 v G1 H1 _ R1 dv F1 h1 => A_thenA R1 h1 fun d2 e2 v2 G2 H2 _ R2 dv2 F2 h2 => h2 (v :: v2) G2 H2 R2 (.cons (dv.up F2.gg) dv2) (Fr.refl _ _ _ _)
theorem ce_tup {k : Nat} (h : CA X W es ds) : CE X W (.Tuple es k pos) (eTup ds) := pe_imp (pe_tupF h) fun σ H Q h => by
  obtain ⟨env, G, R, h⟩ := h
  refine A_thenE R h fun d e1 v G1 H1 _ R1 dv F1 h1 => ?_
  split at h1
  · rename_i hz
    refine ⟨by rw [dv.length]; exact Nat.le_trans hz (by decide), fun p o hp hd => ?_⟩
    have g : Grow G1 H1 (upd G1 p (.frz o (.tup v))) (upd H1 p (.frz o (.tup v))) := Grow.one R1.ex hp
    exact h1 _ _ _ (R1.grow g) (.tup (.inl ⟨o, upd_same, hd⟩) (dv.up g.gg)) (g.fr _ _)
  · exact h1.elim
theorem cl_lst (h : CA X W es ds) : CL X W (.List es pos) (lLst ds) := pe_imp (pe_lst h) fun σ H Q h => by
  obtain ⟨env, G, R, h⟩ := h
  refine A_thenL R h fun d e1 v G1 H1 _ R1 dv F1 h1 => ?_
  split at h1
  · rename_i hz
    exact ⟨by rw [dv.length]; exact Nat.le_trans hz (by decide), fun p hp => RunL.new R1 h1 hp dv⟩
  · exact h1.elim
theorem ce_lst {dl : DA} (h : CL X W e dl) : CE X W e (eLst dl) := pe_imp h fun σ H Q h => L_to_E σ H Q h
theorem ce_cb {r : List V → Hp → VK → Prop} {f : List D → Option D} {id : String} {x : Str} {p : Pos} (o : CbD X.K r f) (hc : CallR X (.builtin id) r) (hg : Gl X x) (hm : X.mg x = none) (hv : bootBuiltins x = some (.builtin id)) (ha : CA X W (e :: es) ds) (hn : x ≠ "__name__" := by decide) (hdb : (x == ("__debug__" : Str)) = false := by decide)
    (he : starEach (e :: es) X.env = (false, eval e X.env) :: starEach es X.env := by rfl) (hpl : (backTo pos (starEach es X.env)).any (·.1) = false := by rfl) : CE X W (.Call (.Name x p) (e :: es) [] pos) (eCB f ds) := pe_imp (pe_callB hc hg hm hv ha hn hdb he hpl) (cb_ok o ds)
theorem ce_ct {r : List V → Hp → VK → Prop} {f : List D → Option D} {T : String} {x : Str} {p : Pos} (o : CbD X.K r f) (hc : CallR X (.type T) r) (hg : Gl X x) (hm : X.mg x = none) (hv : bootBuiltins x = some (.type T)) (ha : CA X W (e :: es) ds) (hn : x ≠ "__name__" := by decide) (hdb : (x == ("__debug__" : Str)) = false := by decide)
    (he : starEach (e :: es) X.env = (false, eval e X.env) :: starEach es X.env := by rfl) (hpl : (backTo pos (starEach es X.env)).any (·.1) = false := by rfl) : CE X W (.Call (.Name x p) (e :: es) [] pos) (eCB f ds) := pe_imp (pe_callTy hc hg hm hv ha hn hdb he hpl) (cb_ok o ds)
theorem cl_ct {r : List V → Hp → VK → Prop} {f : List D → Option (List D)} {T : String} {x : Str} {p : Pos} (o : ClD X.K r f) (hc : CallR X (.type T) r) (hg : Gl X x) (hm : X.mg x = none) (hv : bootBuiltins x = some (.type T)) (ha : CA X W (e :: es) ds) (hn : x ≠ "__name__" := by decide) (hdb : (x == ("__debug__" : Str)) = false := by decide)
    (he : starEach (e :: es) X.env = (false, eval e X.env) :: starEach es X.env := by rfl) (hpl : (backTo pos (starEach es X.env)).any (·.1) = false := by rfl) : CL X W (.Call (.Name x p) (e :: es) [] pos) (eCL f ds) := pe_imp (pe_callTy hc hg hm hv ha hn hdb he hpl) (cl_ok o ds)
theorem cl_cb {r : List V → Hp → VK → Prop} {f : List D → Option (List D)} {id : String} {x : Str} {p : Pos} (o : ClD X.K r f) (hc : CallR X (.builtin id) r) (hg : Gl X x) (hm : X.mg x = none) (hv : bootBuiltins x = some (.builtin id)) (ha : CA X W (e :: es) ds) (hn : x ≠ "__name__" := by decide) (hdb : (x == ("__debug__" : Str)) = false := by decide)
    (he : starEach (e :: es) X.env = (false, eval e X.env) :: starEach es X.env := by rfl) (hpl : (backTo pos (starEach es X.env)).any (·.1) = false := by rfl) : CL X W (.Call (.Name x p) (e :: es) [] pos) (eCL f ds) := pe_imp (pe_callB hc hg hm hv ha hn hdb he hpl) (cl_ok o ds)
end
end DL
/- part DL2 -/
set_option Elab.async false
set_option linter.all false
set_option maxRecDepth 100000
set_option autoImplicit false
/-! DL2: statements by data, loops, comprehensions, calls, defs. -/
namespace DL
open PySem L2
/-- how a statement ends -/
inductive Fl where
  | nx (env : DEnv)
  | rt (d : D) (env : DEnv)
  | rl (xs : List D) (env : DEnv)
  | bk (env : DEnv)
  | ct (env : DEnv)
  | ex (x : Xc) (env : DEnv)
  | stuck
abbrev DS := DEnv → Fl
/-- an answer, then a statement's end -/
def Rs.fl {α : Type} (r : Rs α) (f : α → DEnv → Fl) : Fl := match r with
  | .ok a env => f a env
  | .ex x env => .ex x env
  | .stuck => .stuck
theorem fl_ok {α : Type} (a : α) (env : DEnv) (f : α → DEnv → Fl) : (Rs.ok a env).fl f = f a env := rfl
theorem fl_ex {α : Type} (x : Xc) (env : DEnv) (f : α → DEnv → Fl) : (Rs.ex x env : Rs α).fl f = .ex x env := rfl
theorem fl_stuck {α : Type} (f : α → DEnv → Fl) : (Rs.stuck : Rs α).fl f = .stuck := rfl
section
variable (K : PySem.W.Frag) (mg : Str → Option Value) (W : WX)
def RunXS (env : DEnv) (σ : L2.St) (G H : Hp) (x : Xc) (env' : DEnv) : Prop :=
  ∀ cls dd σ' G' H', XRel K mg x cls dd G' H' → Rel K env' σ' G' H' → Fr env σ G H env' σ' G' H' → W cls dd σ' H'
def RunS (env : DEnv) (σ : L2.St) (G H : Hp) (r : Fl) (E : Ends) : Prop := match r with
  | .nx e => ∀ σ' G' H', Rel K e σ' G' H' → Fr env σ G H e σ' G' H' → E.nx σ' H'
  | .bk e => ∀ σ' G' H', Rel K e σ' G' H' → Fr env σ G H e σ' G' H' → E.bk σ' H'
  | .ct e => ∀ σ' G' H', Rel K e σ' G' H' → Fr env σ G H e σ' G' H' → E.ct σ' H'
  | .rt d e => ∀ v σ' G' H', Rel K e σ' G' H' → Dv K G' v d → Fr env σ G H e σ' G' H' → E.rt v H'
  | .rl xs e => ∀ a vs σ' G' H', Rel K e σ' G' H' → H' a = some (.lst vs) → G' a = none → H a = none → ¬ Own e σ' a → DvAll K G' vs xs → Fr env σ G H e σ' G' H' → E.rt (.ref a) H'
  | .ex x e => RunXS K mg W env σ G H x e
  | .stuck => False
def rdS (ds : DS) : TS := fun E σ H => ∃ env G, Rel K env σ G H ∧ RunS K mg W env σ G H (ds env) E
end
section
variable {K : PySem.W.Frag} {mg : Str → Option Value} {W : WX} {env env1 : DEnv} {σ σ1 : L2.St} {G H G1 H1 : Hp}
theorem RunS.shift {r : Fl} {E : Ends} (h : RunS K mg W env σ G H r E) (f : Fr env σ G H env1 σ1 G1 H1) : RunS K mg W env1 σ1 G1 H1 r E := by
  cases r with
  | nx e => exact fun σ' G' H' a c => h σ' G' H' a (f.trans c)
  | bk e => exact fun σ' G' H' a c => h σ' G' H' a (f.trans c)
  | ct e => exact fun σ' G' H' a c => h σ' G' H' a (f.trans c)
  | rt d e => exact fun v σ' G' H' a b c => h v σ' G' H' a b (f.trans c)
  | rl xs e => exact fun a vs σ' G' H' R h1 h2 h3 h4 h5 h6 => h a vs σ' G' H' R h1 h2 (f.dom a h3) h4 h5 (f.trans h6)
  | ex x e => exact fun cls dd σ' G' H' a b c => h cls dd σ' G' H' a b (f.trans c)
  | stuck => exact h
theorem RunXS.toX {x : Xc} {e : DEnv} (h : RunXS K mg W env σ G H x e) : RunX K mg W env σ G H x e := fun cls dd G' H' a b c => h cls dd σ G' H' a b c
/-- an expression, then the rest of the statement -/
theorem E_thenS {de : DE} {f : D → DEnv → Fl} {E : Ends} {R : VK} (hR : Rel K env σ G H) (h : RunS K mg W env σ G H ((de env).fl f) E)
    (k : ∀ d e1 v G1 H1, de env = .ok d e1 → Rel K e1 σ G1 H1 → Dv K G1 v d → Fr env σ G H e1 σ G1 H1 → RunS K mg W e1 σ G1 H1 (f d e1) E → R v H1) : rdE K mg W de σ H R := by
  refine ⟨env, G, hR, ?_⟩
  cases q : de env with
  | ok d e1 =>
    rw [q] at h
    exact fun v G1 H1 a b c => k d e1 v G1 H1 q a b c (h.shift c)
  | ex x e => rw [q] at h; exact RunXS.toX h
  | stuck => rw [q] at h; exact h.elim
theorem L_thenS {de : DA} {f : List D → DEnv → Fl} {E : Ends} {R : VK} (hR : Rel K env σ G H) (h : RunS K mg W env σ G H ((de env).fl f) E)
    (k : ∀ ds e1 a vs G1 H1, de env = .ok ds e1 → Rel K e1 σ G1 H1 → H1 a = some (.lst vs) → G1 a = none → H a = none → ¬ Own e1 σ a → DvAll K G1 vs ds → Fr env σ G H e1 σ G1 H1 → RunS K mg W env σ G H (f ds e1) E → R (.ref a) H1) : rdL K mg W de σ H R := by
  refine ⟨env, G, hR, ?_⟩
  cases q : de env with
  | ok d e1 =>
    rw [q] at h
    exact fun a vs G1 H1 a1 a2 a3 a4 a5 a6 c => k d e1 a vs G1 H1 q a1 a2 a3 a4 a5 a6 c h
  | ex x e => rw [q] at h; exact RunXS.toX h
  | stuck => rw [q] at h; exact h.elim
theorem T_thenS {dt : DT} {f : Bool → DEnv → Fl} {E : Ends} {R : Bool → Hp → Prop} (hR : Rel K env σ G H) (h : RunS K mg W env σ G H ((dt env).fl f) E)
    (k : ∀ d e1 G1 H1, dt env = .ok d e1 → Rel K e1 σ G1 H1 → Fr env σ G H e1 σ G1 H1 → RunS K mg W e1 σ G1 H1 (f d e1) E → R d H1) : rdT K mg W dt σ H R := by
  refine ⟨env, G, hR, ?_⟩
  cases q : dt env with
  | ok d e1 =>
    rw [q] at h
    exact fun G1 H1 a c => k d e1 G1 H1 q a c (h.shift c)
  | ex x e => rw [q] at h; exact RunXS.toX h
  | stuck => rw [q] at h; exact h.elim
theorem RunS.nx_at {e : DEnv} {E : Ends} (h : RunS K mg W e σ G H (.nx e) E) (R : Rel K e σ G H) : E.nx σ H := h σ G H R (Fr.refl _ _ _ _)
/-- a name gets a value -/
theorem Rel.set {i : Nat} {s s0 : Sl} {v : V} (R : Rel K env σ G H) (hi : env[i]? = some s0) (hp : ∀ xs, s0 ≠ .p xs) (hr : RS K G H s (some v)) (hn : ∀ xs, s ≠ .p xs)
    (ho : s.own = true → ∀ a, v = .ref a → ¬ Own env σ a) : Rel K (env.set i s) (σ.set i (some v)) G H := by
  have li : i < env.length := (List.getElem?_eq_some_iff.mp hi).1
  have li2 : i < σ.length := by rw [← R.len]; exact li
  refine ⟨R.ex, by rw [List.length_set, List.length_set]; exact R.len, fun j t o e1 e2 => ?_, fun j k a ⟨⟨t, e1, e2⟩, e3⟩ ⟨⟨u, e4, e5⟩, e6⟩ => ?_⟩
  · by_cases z : j = i
    · subst z
      rw [List.getElem?_set_self li] at e1
      rw [List.getElem?_set_self li2] at e2
      cases e1; cases e2
      exact hr
    · rw [List.getElem?_set_ne (Ne.symm z)] at e1
      rw [List.getElem?_set_ne (Ne.symm z)] at e2
      exact R.slot j t o e1 e2
  · by_cases z : j = i
    · by_cases y : k = i
      · rw [z, y]
      · subst z
        rw [List.getElem?_set_self li] at e1
        rw [List.getElem?_set_self li2] at e3
        rw [List.getElem?_set_ne (Ne.symm y)] at e4 e6
        cases e1
        injection e3 with e3; injection e3 with e3
        exact absurd ⟨k, ⟨u, e4, e5⟩, e6⟩ (ho e2 a e3)
    · by_cases y : k = i
      · subst y
        rw [List.getElem?_set_self li] at e4
        rw [List.getElem?_set_self li2] at e6
        rw [List.getElem?_set_ne (Ne.symm z)] at e1 e3
        cases e4
        injection e6 with e6; injection e6 with e6
        exact absurd ⟨j, ⟨t, e1, e2⟩, e3⟩ (ho e5 a e6)
      · rw [List.getElem?_set_ne (Ne.symm z)] at e1 e3
        rw [List.getElem?_set_ne (Ne.symm y)] at e4 e6
        exact R.dist j k a ⟨⟨t, e1, e2⟩, e3⟩ ⟨⟨u, e4, e5⟩, e6⟩
theorem Fr.set {i : Nat} {s s0 : Sl} {v : V} (R : Rel K env σ G H) (hi : env[i]? = some s0) (hp : ∀ xs, s0 ≠ .p xs) (hn : ∀ xs, s ≠ .p xs) (ho : s.own = false) : Fr env σ G H (env.set i s) (σ.set i (some v)) G H := by
  have li : i < env.length := (List.getElem?_eq_some_iff.mp hi).1
  refine ⟨Ex.refl _, fun _ _ h _ => h, fun _ h => h, fun _ h => .inl h, fun a ⟨j, ⟨t, e1, e2⟩, e3⟩ => ?_, fun j xs hj => ?_⟩
  · by_cases z : j = i
    · subst z
      rw [List.getElem?_set_self li] at e1
      cases e1
      rw [ho] at e2; cases e2
    · rw [List.getElem?_set_ne (Ne.symm z)] at e1 e3
      exact .inl ⟨j, ⟨t, e1, e2⟩, e3⟩
  · by_cases z : j = i
    · subst z
      rw [List.getElem?_set_self li] at hj
      cases hj
      exact absurd rfl (hn xs)
    · rw [List.getElem?_set_ne (Ne.symm z)] at hj ⊢
      exact ⟨rfl, xs, hj⟩
end
/-! ### targets -/
/-- a name's slot may be stored to -/
def setV (i : Nat) (s : Sl) (env : DEnv) : Option DEnv := match env[i]? with
  | none => none
  | some (.p _) => none
  | some _ => some (env.set i s)
abbrev DG := D → DEnv → Option DEnv
def gN (i : Nat) : DG := fun d env => setV i (.v d) env
def gsN : List DG → List D → DEnv → Option DEnv
  | [], [], env => some env
  | g :: gs, d :: ds, env => (g d env).bind fun e => gsN gs ds e
  | _, _, _ => none
def gT (gs : List DG) : DG := fun d env => match d with
  | .tuple ds => gsN gs ds env
  | .list ds => gsN gs ds env
  | _ => none
/-- only slots of ws were stored to -/
def Tch (ws : List Nat) (σ σ' : L2.St) : Prop := σ'.length = σ.length ∧ ∀ j : Nat, j ∉ ws → σ'[j]? = σ[j]?
def rdG (K : PySem.W.Frag) (g : DG) (ws : List Nat) : TG := fun v σ H Q => ∃ env G d, Rel K env σ G H ∧ Dv K G v d ∧ ∃ env', g d env = some env' ∧ ∀ σ', Rel K env' σ' G H → Fr env σ G H env' σ' G H → Tch ws σ σ' → Q σ' H
def rdGs (K : PySem.W.Frag) (gs : List DG) (ws : List Nat) : TGs := fun vs σ H Q => ∃ env G ds, Rel K env σ G H ∧ DvAll K G vs ds ∧ ∃ env', gsN gs ds env = some env' ∧ ∀ σ', Rel K env' σ' G H → Fr env σ G H env' σ' G H → Tch ws σ σ' → Q σ' H
theorem pg_imp {X : Cx} {e : Expr} {t t' : TG} (h : PG X e t) (k : ∀ v σ H Q, t' v σ H Q → t v σ H Q) : PG X e t' := ⟨fun pins s σ H v u Q I r w => h.run pins s σ H v u Q I r (k v σ H Q w)⟩
theorem pgs_imp {X : Cx} {e : List Expr} {t t' : TGs} (h : PGs X e t) (k : ∀ v σ H Q, t' v σ H Q → t v σ H Q) : PGs X e t' := ⟨fun pins s σ H v u Q I r w => h.run pins s σ H v u Q I r (k v σ H Q w)⟩
theorem setV_some {i : Nat} {s : Sl} {env env' : DEnv} (h : setV i s env = some env') : ∃ s0, env[i]? = some s0 ∧ (∀ xs, s0 ≠ .p xs) ∧ env' = env.set i s := by
  unfold setV at h
  cases q : env[i]? with
  | none => rw [q] at h; cases h
  | some s0 =>
    rw [q] at h
    cases s0 with
    | p xs => cases h
    | no => cases h; exact ⟨_, rfl, fun _ z => (nomatch z), rfl⟩
    | v d => cases h; exact ⟨_, rfl, fun _ z => (nomatch z), rfl⟩
    | l d => cases h; exact ⟨_, rfl, fun _ z => (nomatch z), rfl⟩
    | m d => cases h; exact ⟨_, rfl, fun _ z => (nomatch z), rfl⟩
    | f d => cases h; exact ⟨_, rfl, fun _ z => (nomatch z), rfl⟩
    | a d _ _ => cases h; exact ⟨_, rfl, fun _ z => (nomatch z), rfl⟩
abbrev CG (X : Cx) (e : Expr) (g : DG) (ws : List Nat) : Prop := PG X e (rdG X.K g ws)
abbrev CGs (X : Cx) (es : List Expr) (gs : List DG) (ws : List Nat) : Prop := PGs X es (rdGs X.K gs ws)
section
variable {X : Cx} {W : WX} {pos : Pos}
theorem cg_name {i : Nat} {x : Str} (hN : X.N.Nodup) (hi : X.N[i]? = some x := by rfl) (hx : Loc X.env.scope x := by first | exact Or.inl rfl | exact Or.inr rfl) (hf : X.fn x = true ∨ X.env.scope.names.lookup x = some .local := by first | exact .inl rfl | exact .inr rfl | assumption) : CG X (.Name x pos) (gN i) [i] :=
  pg_imp (pg_name hN hi hx hf) fun v σ H Q h => by
    obtain ⟨env, G, d, R, dv, env', e, k⟩ := h
    obtain ⟨s0, e1, e2, rfl⟩ := setV_some e
    exact k _ (R.set e1 e2 ⟨v, rfl, dv⟩ (fun _ z => nomatch z) fun z => nomatch z) (Fr.set R e1 e2 (fun _ z => nomatch z) rfl) ⟨List.length_set, fun j hj => List.getElem?_set_ne (fun z => hj (by simp [z]))⟩
theorem cgs_nil : CGs X [] [] [] := pgs_imp pgs_nil fun v σ H Q h => by
  obtain ⟨env, G, ds, R, dv, env', e, k⟩ := h
  cases ds with
  | nil =>
    cases e
    cases dv
    exact ⟨rfl, k σ R (Fr.refl _ _ _ _) ⟨rfl, fun _ _ => rfl⟩⟩
  | cons d ds => cases e
theorem cgs_cons {e : Expr} {es : List Expr} {g : DG} {gs : List DG} {ws ws' : List Nat} (h1 : CG X e g ws) (h2 : CGs X es gs ws')
    (hs : (assignEach (e :: es) X.env).map (·.2) = assign e X.env :: (assignEach es X.env).map (·.2) := by rfl) : CGs X (e :: es) (g :: gs) (ws ++ ws') := pgs_imp (pgs_cons h1 h2 hs) fun v σ H Q h => by
  obtain ⟨env, G, ds, R, dv, env', e, k⟩ := h
  cases dv with
  | nil => cases e
  | @cons v1 vs d ds a b =>
    have e' : ((g d env).bind fun e => gsN gs ds e) = some env' := e
    cases q : g d env with
    | none => rw [q] at e'; cases e'
    | some e1 =>
      rw [q] at e'
      exact ⟨v1, vs, rfl, env, G, d, R, a, e1, q, fun σ1 R1 F1 T1 => ⟨e1, G, ds, R1, b, env', e', fun σ2 R2 F2 T2 => k σ2 R2 (F1.trans F2) ⟨T2.1.trans T1.1, fun j hj => (T2.2 j fun z => hj (List.mem_append_right _ z)).trans (T1.2 j fun z => hj (List.mem_append_left _ z))⟩⟩⟩
theorem pg_or {e : Expr} {t u : TG} (h1 : PG X e t) (h2 : PG X e u) : PG X e (fun v σ H Q => t v σ H Q ∨ u v σ H Q) := ⟨fun pins s σ H v w Q I r z => z.elim (fun z => h1.run pins s σ H v w Q I r z) fun z => h2.run pins s σ H v w Q I r z⟩
theorem gsN_len : ∀ {gs : List DG} {ds : List D} {env env' : DEnv}, gsN gs ds env = some env' → ds.length = gs.length
  | [], [], _, _, _ => rfl
  | g :: gs, d :: ds, env, env', h => by
    have h' : ((g d env).bind fun e => gsN gs ds e) = some env' := h
    cases q : g d env with
    | none => rw [q] at h'; cases h'
    | some e1 =>
      rw [q] at h'
      have := gsN_len (gs := gs) (ds := ds) (env := e1) (env' := env') h'
      simp [this]
  | [], _ :: _, _, _, h => by cases h
  | _ :: _, [], _, _, h => by cases h
theorem cg_tup {es : List Expr} {k : Nat} {gs : List DG} {ws : List Nat} (hc : X.calm = true) (h : CGs X es gs ws) (hn : (assignEach es X.env).length = gs.length := by rfl) (hst : (assignEach es X.env).findIdx? (·.1) = none := by rfl) : CG X (.Tuple es k pos) (gT gs) ws :=
  pg_imp (pg_or (pg_tup hc h hn hst) (pg_unl hc h hn hst)) fun v σ H Q w => by
    obtain ⟨env, G, d, R, dv, env', e, k⟩ := w
    cases dv with
    | @tup a xs ds h1 h2 => exact .inl ⟨a, xs, rfl, (R.ex.n h1).t, by rw [h2.length]; exact gsN_len e, env, G, ds, R, h2, env', e, k⟩
    | @lst a xs ds h1 h2 => exact .inr ⟨a, xs, rfl, (R.ex.rl h1).sq, by rw [h2.length]; exact gsN_len e, env, G, ds, R, h2, env', e, k⟩
    | non => cases e
    | bl b => cases e
    | int b => cases e
    | str b => cases e
    | dct _ _ => cases e
/-! ### statements -/
def sNx : DS := fun env => .nx env
def Fl.seq (r : Fl) (t : DS) : Fl := match r with
  | .nx e => t e
  | r => r
def sSeq (s t : DS) : DS := fun env => (s env).seq t
def sAsg (de : DE) (g : DG) : DS := fun env => (de env).fl fun d e1 => match g d e1 with
  | some e2 => .nx e2
  | none => .stuck
def sAsgL (i : Nat) (dl : DA) : DS := fun env => (dl env).fl fun xs e1 => match setV i (.l xs) e1 with
  | some e2 => .nx e2
  | none => .stuck
def sDrop (de : DE) : DS := fun env => (de env).fl fun _ e1 => .nx e1
def sRet (de : DE) : DS := fun env => (de env).fl fun d e1 => .rt d e1
def sRetL (dl : DA) : DS := fun env => (dl env).fl fun d e1 => .rl d e1
def sRetN : DS := fun env => .rt .none env
def sIf (t : DT) (s u : DS) : DS := fun env => (t env).fl fun b e1 => if b then s e1 else u e1
def sBk : DS := fun env => .bk env
def sCt : DS := fun env => .ct env
abbrev CS (X : Cx) (W : WX) (st : Stmt) (ds : DS) : Prop := PS X st (rdS X.K X.mg W ds)
abbrev CSs (X : Cx) (W : WX) (st : List Stmt) (ds : DS) : Prop := PSs X st (rdS X.K X.mg W ds)
variable {st : Stmt} {rest : List Stmt} {ds du : DS} {e : Expr} {de : DE}
theorem css_nil : CSs X W [] sNx := pss_imp pss_nil fun E σ H h => by
  obtain ⟨env, G, R, h⟩ := h
  exact h σ G H R (Fr.refl _ _ _ _)
theorem css_cons (h1 : CS X W st ds) (h2 : CSs X W rest du) : CSs X W (st :: rest) (sSeq ds du) := pss_imp (pss_cons h1 h2) fun E σ H h => by
  obtain ⟨env, G, R, h⟩ := h
  refine ⟨env, G, R, ?_⟩
  have h' : RunS X.K X.mg W env σ G H ((ds env).seq du) E := h
  cases q : ds env with
  | nx e1 =>
    rw [q] at h'
    exact fun σ' G' H' R' F' => ⟨e1, G', R', h'.shift F'⟩
  | bk e1 => rw [q] at h'; exact h'
  | ct e1 => rw [q] at h'; exact h'
  | rt d e1 => rw [q] at h'; exact h'
  | rl d e1 => rw [q] at h'; exact h'
  | ex d e1 => rw [q] at h'; exact h'
  | stuck => rw [q] at h'; exact h'
theorem css_one (h1 : CS X W st ds) : CSs X W [st] ds := pss_one h1
theorem cs_pass : CS X W (.Pass pos) sNx := ps_imp ps_pass fun E σ H h => by
  obtain ⟨env, G, R, h⟩ := h
  exact h σ G H R (Fr.refl _ _ _ _)
theorem cs_break : CS X W (.Break pos) sBk := ps_imp ps_break fun E σ H h => by
  obtain ⟨env, G, R, h⟩ := h
  exact h σ G H R (Fr.refl _ _ _ _)
theorem cs_continue : CS X W (.Continue pos) sCt := ps_imp ps_continue fun E σ H h => by
  obtain ⟨env, G, R, h⟩ := h
  exact h σ G H R (Fr.refl _ _ _ _)
theorem asg_ok {K : PySem.W.Frag} {mg : Str → Option Value} {de : DE} {g : DG} {ws : List Nat} (E : Ends) (σ : L2.St) (H : Hp) (h : rdS K mg W (sAsg de g) E σ H) : tAsg (rdE K mg W de) (rdG K g ws) E σ H := by
  obtain ⟨env, G, R, h⟩ := h
  refine E_thenS R h fun d e1 v G1 H1 _ R1 dv F1 h1 => ?_
  cases q : g d e1 with
  | none => rw [q] at h1; exact h1.elim
  | some e2 =>
    rw [q] at h1
    exact ⟨e1, G1, d, R1, dv, e2, q, fun σ' R' F' _ => h1 σ' G1 H1 R' F'⟩
theorem cs_asg {tg : Expr} {g : DG} {ws : List Nat} (he : CE X W e de) (hg : CG X tg g ws) (hs : swapsWithSole [tg] e pos.line X.env = pure false := by rfl) (hw : swappedStores [tg] e X.env = pure none := by rfl)
    (h1 : (assignEach [tg] X.env).map (·.2) = [assign tg X.env] := by rfl) : CS X W (.Assign [tg] e pos) (sAsg de g) := ps_imp (ps_asg he hg hs hw h1) asg_ok
theorem cs_set {i : Nat} {x : Str} {pos' : Pos} (hN : X.N.Nodup) (he : CE X W e de) (hi : X.N[i]? = some x := by rfl) (hx : Loc X.env.scope x := by first | exact Or.inl rfl | exact Or.inr rfl) (hs : swapsWith e (some (.Name x pos')) pos.line X.env = pure false := by rfl) (hf : X.fn x = true ∨ X.env.scope.names.lookup x = some .local := by first | exact .inl rfl | exact .inr rfl | assumption) :
    CS X W (.Assign [.Name x pos'] e pos) (sAsg de (gN i)) := ps_imp (ps_set hN hi hx he hs hf) fun E σ H h => by
  obtain ⟨env, G, R, h⟩ := h
  refine E_thenS R h fun d e1 v G1 H1 _ R1 dv F1 h1 => ?_
  cases q : gN i d e1 with
  | none => rw [q] at h1; exact h1.elim
  | some e2 =>
    rw [q] at h1
    obtain ⟨s0, a1, a2, rfl⟩ := setV_some q
    exact h1 _ G1 H1 (R1.set a1 a2 ⟨v, rfl, dv⟩ (fun _ z => nomatch z) fun z => nomatch z) (Fr.set R1 a1 a2 (fun _ z => nomatch z) rfl)
theorem setL_ok {K : PySem.W.Frag} {mg : Str → Option Value} {i : Nat} {dl : DA} (E : Ends) (σ : L2.St) (H : Hp) (h : rdS K mg W (sAsgL i dl) E σ H) : tAsg (rdL K mg W dl) (gName i) E σ H := by
  obtain ⟨env, G, R, h⟩ := h
  refine L_thenS R h fun xs e1 a vs G1 H1 _ R1 h1 h2 h3 h4 dv F1 hk => ?_
  cases q : setV i (.l xs) e1 with
  | none => rw [q] at hk; exact hk.elim
  | some e2 =>
    rw [q] at hk
    obtain ⟨s0, a1, a2, rfl⟩ := setV_some q
    have li : i < e1.length := (List.getElem?_eq_some_iff.mp a1).1
    refine hk (σ.set i (some (.ref a))) G1 H1 (R1.set a1 a2 ⟨a, vs, rfl, h1, h2, dv⟩ (fun _ z => nomatch z) fun _ b hb => by cases hb; exact h4) ⟨F1.gg, F1.keep, F1.dom, F1.fresh, fun b ⟨j, ⟨t, e1', e2⟩, e3⟩ => ?_, fun j ys hj => ?_⟩
    · by_cases z : j = i
      · subst z
        rw [List.getElem?_set_self (by rw [← R1.len]; exact li)] at e3
        cases e3
        exact .inr h3
      · rw [List.getElem?_set_ne (Ne.symm z)] at e1' e3
        exact F1.own b ⟨j, ⟨t, e1', e2⟩, e3⟩
    · by_cases z : j = i
      · subst z
        rw [List.getElem?_set_self li] at hj
        cases hj
      · rw [List.getElem?_set_ne (Ne.symm z)] at hj ⊢
        exact F1.par j ys hj
theorem cs_setL {i : Nat} {x : Str} {pos' : Pos} {dl : DA} (hN : X.N.Nodup) (he : CL X W e dl) (hi : X.N[i]? = some x := by rfl) (hx : Loc X.env.scope x := by first | exact Or.inl rfl | exact Or.inr rfl) (hs : swapsWith e (some (.Name x pos')) pos.line X.env = pure false := by rfl) (hf : X.fn x = true ∨ X.env.scope.names.lookup x = some .local := by first | exact .inl rfl | exact .inr rfl | assumption) :
    CS X W (.Assign [.Name x pos'] e pos) (sAsgL i dl) := ps_imp (ps_set hN hi hx he hs hf) setL_ok
theorem cs_drop (he : CE X W e de) (hs : swapsWith e none pos.line X.env = pure false := by rfl) : CS X W (.Expr e pos) (sDrop de) := ps_imp (ps_expr he hs) fun E σ H h => by
  obtain ⟨env, G, R, h⟩ := h
  exact E_thenS R h fun d e1 v G1 H1 _ R1 dv F1 h1 => h1 σ G1 H1 R1 (Fr.refl _ _ _ _)
theorem cs_ret (he : CE X W e de) : CS X W (.Return (some e) pos) (sRet de) := ps_imp (ps_ret he) fun E σ H h => by
  obtain ⟨env, G, R, h⟩ := h
  exact E_thenS R h fun d e1 v G1 H1 _ R1 dv F1 h1 => h1 v σ G1 H1 R1 dv (Fr.refl _ _ _ _)
theorem cs_retL {dl : DA} (he : CL X W e dl) : CS X W (.Return (some e) pos) (sRetL dl) := ps_imp (ps_ret he) fun E σ H h => by
  obtain ⟨env, G, R, h⟩ := h
  exact L_thenS R h fun xs e1 a vs G1 H1 _ R1 h1 h2 h3 h4 dv F1 hk => hk a vs σ G1 H1 R1 h1 h2 h3 h4 dv F1
theorem cs_retN : CS X W (.Return none pos) sRetN := ps_imp ps_retN fun E σ H h => by
  obtain ⟨env, G, R, h⟩ := h
  exact h .non σ G H R .non (Fr.refl _ _ _ _)
theorem cs_if {c : Expr} {a b : List Stmt} {dt : DT} (hc : CT X W c dt) (ha : CSs X W a ds) (hb : CSs X W b du) : CS X W (.If c a b pos) (sIf dt ds du) := ps_imp (ps_if hc ha hb) fun E σ H h => by
  obtain ⟨env, G, R, h⟩ := h
  refine T_thenS R h fun d e1 G1 H1 _ R1 F1 h1 => ?_
  cases d with
  | true => exact ⟨e1, G1, R1, h1⟩
  | false => exact ⟨e1, G1, R1, h1⟩
/-! ### while -/
/-- behind a turn -/
def Fl.turn (r : Fl) (k : DS) : Fl := match r with
  | .nx e2 => k e2
  | .ct e2 => k e2
  | .bk e2 => .nx e2
  | .rt d e2 => .rt d e2
  | .rl d e2 => .rl d e2
  | .ex x e2 => .ex x e2
  | .stuck => .stuck
def whileD (t : DT) (body : DS) : Nat → DS
  | 0 => fun _ => .stuck
  | n + 1 => fun env => (t env).fl fun b e1 => if b then (body e1).turn (whileD t body n) else .nx e1
theorem cs_while {c : Expr} {body : List Stmt} {dt : DT} {db : DS} (n : Nat) (hp : PassesOwn (model X.prog X.w) X.A X.env X.xe) (hc : CT X W c dt) (hb : CSs X W body db) : CS X W (.While c body [] pos) (whileD dt db n) := ps_imp (ps_while hp hc hb) fun E σ H h => by
  refine ⟨fun m σ H => rdS X.K X.mg W (whileD dt db m) E σ H, ⟨n, h⟩, fun m σ H h => ?_⟩
  obtain ⟨env, G, R, h⟩ := h
  cases m with
  | zero => exact h.elim
  | succ m =>
    refine T_thenS R h fun d e1 G1 H1 _ R1 F1 h1 => ?_
    cases d with
    | false => exact h1 σ G1 H1 R1 (Fr.refl _ _ _ _)
    | true =>
      refine ⟨fun σ' H' => rdS X.K X.mg W (whileD dt db m) E σ' H', fun σ' H' z => ⟨m, Nat.lt_succ_self m, z⟩, e1, G1, R1, ?_⟩
      have h1' : RunS X.K X.mg W e1 σ G1 H1 ((db e1).turn (whileD dt db m)) E := h1
      cases q : db e1 with
      | nx e2 => rw [q] at h1'; exact fun σ' G' H' R' F' => ⟨e2, G', R', h1'.shift F'⟩
      | ct e2 => rw [q] at h1'; exact fun σ' G' H' R' F' => ⟨e2, G', R', h1'.shift F'⟩
      | bk e2 => rw [q] at h1'; exact h1'
      | rt d e2 => rw [q] at h1'; exact h1'
      | rl d e2 => rw [q] at h1'; exact h1'
      | ex x e2 => rw [q] at h1'; exact h1'
      | stuck => rw [q] at h1'; exact h1'
/-! ### what is walked -/
/-- J gives ds, one by one, as long as G stands -/
def WalkD (K : PySem.W.Frag) (J : It) (ds : List D) (G : Hp) : Prop := ∀ (i : Nat) (G' H' : Hp), Ex G G' → Ex G' H' →
  (∀ d, ds[i]? = some d → J.go i H' ∧ ∀ x H'', J.yld i H' x H'' → ∃ G'', Grow G' H' G'' H'' ∧ Dv K G'' x d) ∧ (ds.length ≤ i → J.stop i H')
def RunI (K : PySem.W.Frag) (mg : Str → Option Value) (W : WX) (env : DEnv) (σ : L2.St) (G H : Hp) (r : Rs (List D)) (R : It → Hp → Prop) : Prop := match r with
  | .ok ds env' => ∀ J G' H', Rel K env' σ G' H' → WalkD K J ds G' → Fr env σ G H env' σ G' H' → R J H'
  | .ex x env' => RunX K mg W env σ G H x env'
  | .stuck => False
def rdI (K : PySem.W.Frag) (mg : Str → Option Value) (W : WX) (di : DA) : TI := fun σ H R => ∃ env G, Rel K env σ G H ∧ RunI K mg W env σ G H (di env) R
abbrev CI (X : Cx) (W : WX) (tg e : Expr) (di : DA) : Prop := PI X tg e (rdI X.K X.mg W di)
theorem pi_imp {tg e : Expr} {t t' : TI} (h : PI X tg e t) (k : ∀ σ H R, t' σ H R → t σ H R) : PI X tg e t' := ⟨fun pins s σ H R I w => h.run pins s σ H R I (k σ H R w)⟩
theorem pi_or {tg e : Expr} {t u : TI} (h1 : PI X tg e t) (h2 : PI X tg e u) : PI X tg e (fun σ H R => t σ H R ∨ u σ H R) := ⟨fun pins s σ H R I w => w.elim (fun z => h1.run pins s σ H R I z) fun z => h2.run pins s σ H R I z⟩
def forD (g : DG) (body : DS) : List D → DS
  | [] => fun env => .nx env
  | d :: ds => fun env => match g d env with
    | none => .stuck
    | some e1 => (body e1).turn (forD g body ds)
def sFor (di : DA) (g : DG) (body : DS) : DS := fun env => (di env).fl fun ds e1 => forD g body ds e1
theorem cs_for {tg iter : Expr} {body : List Stmt} {di : DA} {g : DG} {ws : List Nat} {db : DS} (hp : PassesOwn (model X.prog X.w) X.A X.env X.xe) (hc : X.calm = true) (hi : CI X W tg iter di) (hg : CG X tg g ws) (hb : CSs X W body db)
    (hs : ∀ x, foldedSetIterable iter X.env x = pure x := by intro _; rfl) : CS X W (.For tg iter body [] pos) (sFor di g db) := ps_imp (ps_for hp hc hi hg hb hs) fun E σ H h => by
  obtain ⟨env, G, R, h⟩ := h
  refine ⟨env, G, R, ?_⟩
  have h' : RunS X.K X.mg W env σ G H ((di env).fl fun ds e1 => forD g db ds e1) E := h
  cases q : di env with
  | ex x e => rw [q] at h'; exact RunXS.toX h'
  | stuck => rw [q] at h'; exact h'
  | ok xs e1 =>
    rw [q] at h'
    intro J G1 H1 R1 wk F1
    refine ⟨fun i m σ' H' => ∃ env' G', Rel X.K env' σ' G' H' ∧ Ex G1 G' ∧ RunS X.K X.mg W env' σ' G' H' (forD g db (xs.drop i) env') E ∧ m + i = xs.length,
      ⟨xs.length, e1, G1, R1, Ex.refl _, h'.shift F1, rfl⟩, ?_⟩
    rintro i m σ' H' ⟨env', G', R', ex', run, em⟩
    obtain ⟨w1, w2⟩ := wk i G' H' ex' R'.ex
    by_cases hi : i < xs.length
    · have hd : xs[i]? = some xs[i] := List.getElem?_eq_getElem hi
      obtain ⟨go, yl⟩ := w1 _ hd
      refine .inr ⟨go, fun σ2 H2 => ∃ env2 G2, Rel X.K env2 σ2 G2 H2 ∧ Ex G1 G2 ∧ RunS X.K X.mg W env2 σ2 G2 H2 (forD g db (xs.drop (i + 1)) env2) E, fun σ2 H2 ⟨env2, G2, r2, x2, s2⟩ => ⟨m - 1, by omega, env2, G2, r2, x2, s2, by omega⟩, fun x H'' y => ?_⟩
      obtain ⟨G'', gr, dv⟩ := yl x H'' y
      have run2 := run.shift (gr.fr env' σ')
      rw [List.drop_eq_getElem_cons hi] at run2
      have run3 : RunS X.K X.mg W env' σ' G'' H'' (match g xs[i] env' with
        | none => .stuck
        | some e1 => (db e1).turn (forD g db (xs.drop (i + 1)))) E := run2
      cases q2 : g xs[i] env' with
      | none => rw [q2] at run3; exact run3.elim
      | some e2 =>
        rw [q2] at run3
        refine ⟨env', G'', xs[i], R'.grow gr, dv, e2, q2, fun σ2 R2 F2 _ => ⟨e2, G'', R2, ?_⟩⟩
        have run4 : RunS X.K X.mg W e2 σ2 G'' H'' ((db e2).turn (forD g db (xs.drop (i + 1)))) E := RunS.shift run3 F2
        cases q3 : db e2 with
        | nx e3 => rw [q3] at run4; exact fun σ3 G3 H3 R3 F3 => ⟨e3, G3, R3, (ex'.trans gr.gg).trans F3.gg, run4.shift F3⟩
        | ct e3 => rw [q3] at run4; exact fun σ3 G3 H3 R3 F3 => ⟨e3, G3, R3, (ex'.trans gr.gg).trans F3.gg, run4.shift F3⟩
        | bk e3 => rw [q3] at run4; exact run4
        | rt d e3 => rw [q3] at run4; exact run4
        | rl d e3 => rw [q3] at run4; exact run4
        | ex x e3 => rw [q3] at run4; exact run4
        | stuck => rw [q3] at run4; exact run4
    · have ei : xs.drop i = [] := List.drop_eq_nil_of_le (by omega)
      rw [ei] at run
      exact .inl ⟨w2 (by omega), run σ' G' H' R' (Fr.refl _ _ _ _)⟩
end
end DL
/- part DL3 -/
set_option Elab.async false
set_option linter.all false
set_option maxRecDepth 100000
set_option autoImplicit false
/-! DL3: what is walked, comprehensions, defs and calls. -/
namespace DL
open PySem L2
/-! ### sequences, ranges -/
def iSeq (de : DE) : DA := fun env => (de env).bind fun d e1 => match d with
  | .list xs => .ok xs e1
  | .tuple xs => .ok xs e1
  | _ => .stuck
def rngD (lo hi : Int) : List D := (List.range (hi - lo).toNat).map fun k => .int (lo + (k : Nat))
def int1 : List D → Option Int
  | [.int j] => some j
  | _ => none
def int2 : List D → Option (Int × Int)
  | [.int i, .int j] => some (i, j)
  | _ => none
theorem int1_some {ds : List D} {j : Int} (h : int1 ds = some j) : ds = [.int j] := by
  unfold int1 at h
  split at h
  · cases h; rfl
  · cases h
theorem int2_some {ds : List D} {p : Int × Int} (h : int2 ds = some p) : ds = [.int p.1, .int p.2] := by
  unfold int2 at h
  split at h
  · cases h; rfl
  · cases h
noncomputable def iRng1 (da : DA) : DA := fun env => (da env).bind fun ds e1 => match int1 ds with
  | some j => if I62 j then .ok (rngD 0 j) e1 else .stuck
  | none => .stuck
noncomputable def iRng2 (da : DA) : DA := fun env => (da env).bind fun ds e1 => match int2 ds with
  | some (i, j) => if I62 i ∧ I62 j then .ok (rngD i j) e1 else .stuck
  | none => .stuck
theorem walk_list {K : PySem.W.Frag} {G : Hp} {a : Addr} {xs : List V} {ds : List D} (h : RL K G a xs) (dv : DvAll K G xs ds) : WalkD K (Itl K a) ds G := fun i G' H' e1 e2 => by
  have hq : SqL K H' a xs := ((e1.trans e2).rl h).sq
  refine ⟨fun d hd => ?_, fun hl => ⟨xs, hq, by rw [dv.length]; exact hl⟩⟩
  obtain ⟨v, hv, dvv⟩ := dv.get hd
  refine ⟨⟨xs, v, hq, hv⟩, fun x H'' ⟨e, y⟩ => ?_⟩
  subst e
  have : x = v := Option.some.inj ((y xs hq).symm.trans hv)
  subst this
  exact ⟨G', Grow.refl e2, dvv.up e1⟩
theorem walk_tup {K : PySem.W.Frag} {G : Hp} {a : Addr} {xs : List V} {ds : List D} (h : SqT K G a xs) (dv : DvAll K G xs ds) : WalkD K (Itt K a) ds G := fun i G' H' e1 e2 => by
  have hq : SqT K H' a xs := (e1.trans e2).t h
  refine ⟨fun d hd => ?_, fun hl => ⟨xs, hq, by rw [dv.length]; exact hl⟩⟩
  obtain ⟨v, hv, dvv⟩ := dv.get hd
  refine ⟨⟨xs, v, hq, hv⟩, fun x H'' ⟨e, y⟩ => ?_⟩
  subst e
  have : x = v := Option.some.inj ((y xs hq).symm.trans hv)
  subst this
  exact ⟨G', Grow.refl e2, dvv.up e1⟩
theorem walk_rng {K : PySem.W.Frag} {G : Hp} (lo hi : Int) : WalkD K (Itr lo (hi - lo).toNat) (rngD lo hi) G := fun i G' H' e1 e2 => by
  have hl : (rngD lo hi).length = (hi - lo).toNat := by simp [rngD]
  refine ⟨fun d hd => ?_, fun hl' => by rw [hl] at hl'; exact hl'⟩
  obtain ⟨h1, h2⟩ := List.getElem?_eq_some_iff.mp hd
  have h1' : i < (hi - lo).toNat := by rw [← hl]; exact h1
  refine ⟨h1', fun x H'' ⟨e, y⟩ => ?_⟩
  subst e
  have ed : d = .int (lo + (i : Nat)) := by rw [← h2]; simp [rngD]
  subst ed
  rw [y]
  exact ⟨G', Grow.refl e2, .int _⟩
section
variable {X : Cx} {W : WX} {pos : Pos} {tg e : Expr} {de : DE}
theorem ci_seq (he : CE X W e de) : CI X W tg e (iSeq de) := pi_imp (pi_or (pi_list he) (pi_tup he)) fun σ H R h => by
  obtain ⟨env, G, R0, h⟩ := h
  have h' : RunI X.K X.mg W env σ G H ((de env).bind fun d e1 => match d with
    | .list xs => .ok xs e1
    | .tuple xs => .ok xs e1
    | _ => .stuck) R := h
  cases q : de env with
  | stuck => rw [q] at h'; exact h'.elim
  | ex x e => rw [q] at h'; exact .inl ⟨env, G, R0, by rw [q]; exact h'⟩
  | ok d e1 =>
    rw [q] at h'
    cases d with
    | list xs =>
      refine .inl ⟨env, G, R0, ?_⟩
      rw [q]
      intro v G1 H1 R1 dv F1
      cases dv with
      | lst a b => exact ⟨_, rfl, ⟨_, (R1.ex.rl a).sq⟩, h' _ G1 H1 R1 (walk_list a b) F1⟩
    | tuple xs =>
      refine .inr ⟨env, G, R0, ?_⟩
      rw [q]
      intro v G1 H1 R1 dv F1
      cases dv with
      | tup a b => exact ⟨_, rfl, ⟨_, (R1.ex.n a).t⟩, h' _ G1 H1 R1 (walk_tup a.t b) F1⟩
    | none => exact h'.elim
    | bool b => exact h'.elim
    | int b => exact h'.elim
    | str b => exact h'.elim
    | dict b => exact h'.elim
theorem A_thenI {K : PySem.W.Frag} {mg : Str → Option Value} {env : DEnv} {σ : L2.St} {G H : Hp} {da : DA} {f : List D → DEnv → Rs (List D)} {R : It → Hp → Prop} {R' : List V → Hp → Prop} (hR : Rel K env σ G H) (h : RunI K mg W env σ G H ((da env).bind f) R)
    (k : ∀ d e1 v G1 H1, da env = .ok d e1 → Rel K e1 σ G1 H1 → DvAll K G1 v d → Fr env σ G H e1 σ G1 H1 → RunI K mg W e1 σ G1 H1 (f d e1) R → R' v H1) : rdA K mg W da σ H R' :=
  A_then hR (P := fun e s G H r => RunI K mg W e s G H r R) h (fun _ _ z => z) (fun z => z) (fun e1 G1 H1 r a b => by
    cases r with
    | ok ds e => exact fun J G' H' x y z => a J G' H' x y (b.trans z)
    | ex x e => exact RunX.shift a b
    | stuck => exact a) k
theorem ci_range1 {a : Expr} {da : DA} {p : Pos} (hm : X.mg "range" = none) (ha : CA X W [a] da) (hg : Gl X "range" := by rfl) (hs : starEach [a] X.env = [(false, eval a X.env)] := by rfl) : CI X W tg (.Call (.Name "range" p) [a] [] pos) (iRng1 da) :=
  pi_imp (pi_range1 hg hm ha hs) fun σ H R h => by
    obtain ⟨env, G, R0, h⟩ := h
    refine A_thenI R0 h fun ds e1 vs G1 H1 q R1 dv F1 h1 => ?_
    cases q2 : int1 ds with
    | none => rw [q2] at h1; exact h1.elim
    | some j =>
      rw [q2] at h1
      have e := int1_some q2
      subst e
      obtain ⟨v, rfl, dv1⟩ := dv.inv1
      obtain rfl : v = .int j := by cases dv1; rfl
      by_cases c : I62 j
      · have h2 : RunI X.K X.mg W e1 σ G1 H1 (if I62 j then .ok (rngD 0 j) e1 else .stuck) R := h1
        rw [if_pos c] at h2
        have w := walk_rng (K := X.K) (G := G1) 0 j
        rw [Int.sub_zero] at w
        exact ⟨j, rfl, c.1, c.2, h2 _ G1 H1 R1 w (Fr.refl _ _ _ _)⟩
      · have h2 : RunI X.K X.mg W e1 σ G1 H1 (if I62 j then .ok (rngD 0 j) e1 else .stuck) R := h1
        rw [if_neg c] at h2
        exact h2.elim
theorem ci_range2 {a b : Expr} {da : DA} {p : Pos} (hm : X.mg "range" = none) (ha : CA X W [a, b] da) (hg : Gl X "range" := by rfl) (hs : starEach [a, b] X.env = [(false, eval a X.env), (false, eval b X.env)] := by rfl) (hs2 : starEach [b] X.env = [(false, eval b X.env)] := by rfl) : CI X W tg (.Call (.Name "range" p) [a, b] [] pos) (iRng2 da) :=
  pi_imp (pi_range2 hg hm ha hs hs2) fun σ H R h => by
    obtain ⟨env, G, R0, h⟩ := h
    refine A_thenI R0 h fun ds e1 vs G1 H1 q R1 dv F1 h1 => ?_
    cases q2 : int2 ds with
    | none => rw [q2] at h1; exact h1.elim
    | some pr =>
      obtain ⟨i, j⟩ := pr
      rw [q2] at h1
      have e := int2_some q2
      subst e
      obtain ⟨v, w, rfl, dv, dw⟩ := dv.inv2
      cases dv
      cases dw
      have h2 : RunI X.K X.mg W e1 σ G1 H1 (if I62 i ∧ I62 j then .ok (rngD i j) e1 else .stuck) R := h1
      by_cases c : I62 i ∧ I62 j
      · rw [if_pos c] at h2
        exact ⟨i, j, rfl, ⟨c.1.1, c.1.2, c.2.1, c.2.2⟩, h2 _ G1 H1 R1 (walk_rng i j) (Fr.refl _ _ _ _)⟩
      · rw [if_neg c] at h2
        exact h2.elim
end
/-! ### comprehensions -/
def wipeD (env : DEnv) : List Nat → DEnv
  | [] => env
  | v :: vs => (wipeD env vs).set v .no
def mergeD (env0 env : DEnv) : List Nat → DEnv
  | [] => env
  | v :: vs => (mergeD env0 env vs).set v (env0.getD v .no)
def noOwn (env : DEnv) (vs : List Nat) : Bool := vs.all fun i => match env[i]? with
  | some s => !s.own
  | none => false
def compD (g : DG) (t : DT) (e : DE) (vs : List Nat) : List D → DA
  | [] => fun env => .ok [] env
  | d :: ds => fun env => match g d env with
    | none => .stuck
    | some e1 => (t e1).bind fun b e2 => if b then (e e2).bind fun y e3 => (compD g t e vs ds (wipeD e3 vs)).bind fun ys e4 => .ok (y :: ys) e4 else compD g t e vs ds (wipeD e2 vs)
def tYesD : DT := fun env => .ok true env
def lComp (di : DA) (g : DG) (t : DT) (e : DE) (vs : List Nat) : DA := fun env => (di env).bind fun ds e1 =>
  if ds.length ≤ 100000 ∧ noOwn e1 vs = true then match compD g t e vs ds (wipeD e1 vs) with
    | .ok ys e2 => .ok ys (mergeD e1 e2 vs)
    | _ => .stuck
  else .stuck
theorem wipe_get (σ : L2.St) (j : Nat) : ∀ vs : List Nat, (wipe σ vs)[j]? = if j ∈ vs then (σ[j]?).map fun _ => none else σ[j]?
  | [] => by simp [wipe]
  | v :: vs => by
    unfold wipe
    by_cases h : j = v
    · subst h
      rw [if_pos (by simp)]
      by_cases hl : j < (wipe σ vs).length
      · rw [List.getElem?_set_self hl]
        rw [wipe_length] at hl
        rw [List.getElem?_eq_getElem hl]; rfl
      · rw [List.getElem?_eq_none (by simpa using hl)]
        rw [wipe_length] at hl
        rw [List.getElem?_eq_none (by omega)]; rfl
    · rw [List.getElem?_set_ne (Ne.symm h), wipe_get σ j vs]
      by_cases hv : j ∈ vs
      · rw [if_pos hv, if_pos (by simp [hv])]
      · rw [if_neg hv, if_neg (by simp [h, hv])]
theorem wipeD_length (env : DEnv) : ∀ vs : List Nat, (wipeD env vs).length = env.length
  | [] => rfl
  | v :: vs => by unfold wipeD; rw [List.length_set, wipeD_length env vs]
theorem wipeD_get (env : DEnv) (j : Nat) : ∀ vs : List Nat, (wipeD env vs)[j]? = if j ∈ vs then (env[j]?).map fun _ => Sl.no else env[j]?
  | [] => by simp [wipeD]
  | v :: vs => by
    unfold wipeD
    by_cases h : j = v
    · subst h
      rw [if_pos (by simp)]
      by_cases hl : j < (wipeD env vs).length
      · rw [List.getElem?_set_self hl]
        rw [wipeD_length] at hl
        rw [List.getElem?_eq_getElem hl]; rfl
      · rw [List.getElem?_eq_none (by simpa using hl)]
        rw [wipeD_length] at hl
        rw [List.getElem?_eq_none (by omega)]; rfl
    · rw [List.getElem?_set_ne (Ne.symm h), wipeD_get env j vs]
      by_cases hv : j ∈ vs
      · rw [if_pos hv, if_pos (by simp [hv])]
      · rw [if_neg hv, if_neg (by simp [h, hv])]
theorem mergeD_length (env0 env : DEnv) : ∀ vs : List Nat, (mergeD env0 env vs).length = env.length
  | [] => rfl
  | v :: vs => by unfold mergeD; rw [List.length_set, mergeD_length env0 env vs]
theorem mergeD_get (env0 env : DEnv) (hl0 : env0.length = env.length) (j : Nat) : ∀ vs : List Nat, (mergeD env0 env vs)[j]? = if j ∈ vs then env0[j]? else env[j]?
  | [] => by simp [mergeD]
  | v :: vs => by
    unfold mergeD
    by_cases h : j = v
    · subst h
      rw [if_pos (by simp)]
      by_cases hl : j < (mergeD env0 env vs).length
      · rw [List.getElem?_set_self hl]
        rw [mergeD_length] at hl
        rw [List.getD_eq_getElem?_getD, List.getElem?_eq_getElem (by omega)]; rfl
      · rw [List.getElem?_eq_none (by simpa using hl)]
        rw [mergeD_length] at hl
        rw [List.getElem?_eq_none (by omega)]
    · rw [List.getElem?_set_ne (Ne.symm h), mergeD_get env0 env hl0 j vs]
      by_cases hv : j ∈ vs
      · rw [if_pos hv, if_pos (by simp [hv])]
      · rw [if_neg hv, if_neg (by simp [h, hv])]
theorem wipe_ext {σ1 σ2 : L2.St} {vs : List Nat} (hl : σ1.length = σ2.length) (h : ∀ j : Nat, j ∉ vs → σ1[j]? = σ2[j]?) : wipe σ1 vs = wipe σ2 vs := by
  refine List.ext_getElem? fun j => ?_
  rw [wipe_get, wipe_get]
  by_cases hv : j ∈ vs
  · rw [if_pos hv, if_pos hv]
    by_cases c : j < σ1.length
    · rw [List.getElem?_eq_getElem c, List.getElem?_eq_getElem (by omega)]; rfl
    · rw [List.getElem?_eq_none (by omega), List.getElem?_eq_none (by omega)]
  · rw [if_neg hv, if_neg hv, h j hv]
theorem wipe_own {env : DEnv} {σ : L2.St} {vs : List Nat} {i : Nat} {a : Addr} (h : OwnAt (wipeD env vs) (wipe σ vs) i a) : OwnAt env σ i a ∧ i ∉ vs := by
  obtain ⟨⟨s, e1, e2⟩, e3⟩ := h
  rw [wipeD_get] at e1
  rw [wipe_get] at e3
  by_cases hv : i ∈ vs
  · rw [if_pos hv] at e1
    cases q : env[i]? with
    | none => rw [q] at e1; cases e1
    | some t => rw [q] at e1; cases e1; cases e2
  · rw [if_neg hv] at e1 e3
    exact ⟨⟨⟨s, e1, e2⟩, e3⟩, hv⟩
theorem Rel.wipe {K : PySem.W.Frag} {env : DEnv} {σ : L2.St} {G H : Hp} (R : Rel K env σ G H) (vs : List Nat) : Rel K (wipeD env vs) (L2.wipe σ vs) G H := by
  refine ⟨R.ex, by rw [wipeD_length, wipe_length]; exact R.len, fun i s o e1 e2 => ?_, fun i j a x y => R.dist i j a (wipe_own x).1 (wipe_own y).1⟩
  rw [wipeD_get] at e1
  rw [wipe_get] at e2
  by_cases hv : i ∈ vs
  · rw [if_pos hv] at e1
    cases q : env[i]? with
    | none => rw [q] at e1; cases e1
    | some t => rw [q] at e1; cases e1; trivial
  · rw [if_neg hv] at e1 e2
    exact R.slot i s o e1 e2
theorem Fr.wipe (env : DEnv) (σ : L2.St) (G H : Hp) (vs : List Nat) : Fr env σ G H (wipeD env vs) (L2.wipe σ vs) G H := by
  refine ⟨Ex.refl _, fun _ _ h _ => h, fun _ h => h, fun _ h => .inl h, fun a ⟨i, h⟩ => .inl ⟨i, (wipe_own h).1⟩, fun i xs h => ?_⟩
  rw [wipeD_get] at h
  by_cases hv : i ∈ vs
  · rw [if_pos hv] at h
    cases q : env[i]? with
    | none => rw [q] at h; cases h
    | some t => rw [q] at h; cases h
  · rw [if_neg hv] at h
    rw [wipe_get, if_neg hv]
    exact ⟨rfl, xs, h⟩
/-- an object that was not there at first is changed -/
theorem Fr.mutNew {env env' : DEnv} {σ σ' : L2.St} {G H G' H' : Hp} {p : Addr} {o : HO} (F : Fr env σ G H env' σ' G' H') (h : H p = none) (hp : H' p ≠ none) : Fr env σ G H env' σ' G' (upd H' p o) :=
  ⟨F.gg, fun a u ha hn => by rw [upd_ne (ne_of_none ha h)]; exact F.keep a u ha hn, fun a ha => by
    by_cases z : a = p
    · subst z; exact h
    · rw [upd_ne z] at ha; exact F.dom a ha, F.fresh, F.own, F.par⟩
theorem Rel.mutFree {K : PySem.W.Frag} {env : DEnv} {σ : L2.St} {G H : Hp} {p : Addr} {o : HO} (R : Rel K env σ G H) (hg : G p = none) (hn : ¬ Own env σ p) : Rel K env σ G (upd H p o) := by
  refine ⟨fun a u ha => ?_, R.len, fun i s o e1 e2 => ?_, R.dist⟩
  · rw [upd_ne (fun z => by subst z; rw [hg] at ha; cases ha)]
    exact R.ex a u ha
  · have q := R.slot i s o e1 e2
    have own : ∀ b, s.own = true → o = some (.ref b) → b ≠ p := fun b hs ho z => by
      subst z
      exact hn ⟨i, ⟨s, e1, hs⟩, by rw [e2, ho]⟩
    cases s with
    | no => trivial
    | v d => exact q
    | l xs => obtain ⟨b, vs', e, q1, q2, q3⟩ := q; exact ⟨b, vs', e, by rw [upd_ne (own b rfl e)]; exact q1, q2, q3⟩
    | p xs => obtain ⟨b, vs', e, q1, q2, q3⟩ := q; exact ⟨b, vs', e, by rw [upd_ne (own b rfl e)]; exact q1, q2, q3⟩
    | m xs => obtain ⟨b, vs', e, q1, q2, q3⟩ := q; exact ⟨b, vs', e, by rw [upd_ne (own b rfl e)]; exact q1, q2, q3⟩
    | f x => exact q
    | a x _ _ => exact q
/-- no exception leaves -/
abbrev WF : WX := fun _ _ _ _ => False
section
variable {X : Cx} {W : WX} {pos : Pos}
theorem lc_ok {K : PySem.W.Frag} {mg : Str → Option Value} {di : DA} {g : DG} {ws : List Nat} {t : DT} {e : DE} {vs : List Nat} (hws : ∀ j ∈ ws, j ∈ vs) (σ : L2.St) (H : Hp) (Q : VK) (hQ : rdL K mg W (lComp di g t e vs) σ H Q) :
    tLc (rdI K mg W di) (rdG K g ws) (rdT K mg WF t) (rdE K mg WF e) vs σ H Q := by
  obtain ⟨env, G, R, h⟩ := hQ
  refine ⟨env, G, R, ?_⟩
  have h' : RunL K mg W env σ G H ((di env).bind fun ds e1 => if ds.length ≤ 100000 ∧ noOwn e1 vs = true then match compD g t e vs ds (wipeD e1 vs) with
    | .ok ys e2 => .ok ys (mergeD e1 e2 vs)
    | _ => .stuck else .stuck) Q := h
  cases q : di env with
  | stuck => rw [q] at h'; exact h'
  | ex x e => rw [q] at h'; exact h'
  | ok ds e1 =>
    rw [q] at h'
    intro J G1 H1 R1 wk F1 A hA
    have h2 : RunL K mg W env σ G H (if ds.length ≤ 100000 ∧ noOwn e1 vs = true then match compD g t e vs ds (wipeD e1 vs) with
      | .ok ys e2 => .ok ys (mergeD e1 e2 vs)
      | _ => .stuck else .stuck) Q := h'
    by_cases c : ds.length ≤ 100000 ∧ noOwn e1 vs = true
    · rw [if_pos c] at h2
      cases qc : compD g t e vs ds (wipeD e1 vs) with
      | stuck => rw [qc] at h2; exact h2.elim
      | ex x e => rw [qc] at h2; exact h2.elim
      | ok ys e2 =>
        rw [qc] at h2
        have Rw := R1.wipe vs
        have gA : G1 A = none := R1.ex.none hA
        have nA : ¬ Own (wipeD e1 vs) (L2.wipe σ vs) A := fun z => (z.there Rw).1 hA
        refine ⟨fun i m H' => ∃ env' G' acc vacc zs, Rel K env' (L2.wipe σ vs) G' H' ∧ Ex G1 G' ∧ Fr (wipeD e1 vs) (L2.wipe σ vs) G1 H1 env' (L2.wipe σ vs) G' H' ∧ H' A = some (.lst vacc) ∧ G' A = none ∧ ¬ Own env' (L2.wipe σ vs) A ∧ DvAll K G' vacc acc ∧ acc.length ≤ i ∧
            compD g t e vs (ds.drop i) env' = .ok zs e2 ∧ ys = acc ++ zs ∧ m + i = ds.length,
          ⟨ds.length, wipeD e1 vs, G1, [], [], ys, Rw.mutFree gA nA, Ex.refl _, ⟨Ex.refl _, fun a u ha _ => by rw [upd_ne (ne_of_none ha hA)]; exact ha, fun a ha => ?_, fun _ z => .inl z, fun _ z => .inl z, fun _ xs z => ⟨rfl, xs, z⟩⟩, upd_same, gA, nA, .nil, Nat.le_refl _, qc, rfl, rfl⟩, ?_⟩
        · by_cases z : a = A
          · subst z; exact hA
          · rw [upd_ne z] at ha; exact ha
        · rintro i m H' ⟨env', G', acc, vacc, zs, R', ex', F', a1, a2, a3, a4, a5, a6, a7, em⟩
          obtain ⟨w1, w2⟩ := wk i G' H' ex' R'.ex
          by_cases hi : i < ds.length
          · have hd : ds[i]? = some ds[i] := List.getElem?_eq_getElem hi
            obtain ⟨go, yl⟩ := w1 _ hd
            refine .inr ⟨go, fun H2 => ∃ env' G' acc vacc zs, Rel K env' (L2.wipe σ vs) G' H2 ∧ Ex G1 G' ∧ Fr (wipeD e1 vs) (L2.wipe σ vs) G1 H1 env' (L2.wipe σ vs) G' H2 ∧ H2 A = some (.lst vacc) ∧ G' A = none ∧ ¬ Own env' (L2.wipe σ vs) A ∧ DvAll K G' vacc acc ∧ acc.length ≤ i + 1 ∧
              compD g t e vs (ds.drop (i + 1)) env' = .ok zs e2 ∧ ys = acc ++ zs, fun H2 ⟨env', G', acc, vacc, zs, b1, b2, b3, b4, b5, b6, b7, b8, b9, b10⟩ => ⟨m - 1, by omega, env', G', acc, vacc, zs, b1, b2, b3, b4, b5, b6, b7, b8, b9, b10, by omega⟩, fun x H'' y => ?_⟩
            obtain ⟨G'', gr, dv⟩ := yl x H'' y
            rw [List.drop_eq_getElem_cons hi] at a6
            have R'' := R'.grow gr
            have F'' := F'.trans (gr.fr env' (L2.wipe σ vs))
            have gA'' : G'' A = none := by
              cases z : G'' A with
              | none => rfl
              | some u =>
                rcases gr.fresh A (by rw [z]; exact fun w => by cases w) with w | w
                · exact absurd a2 w
                · rw [w] at a1; cases a1
            have hA'' : H'' A = some (.lst vacc) := gr.hh _ _ a1
            have a6' : (match g ds[i] env' with
              | none => Rs.stuck
              | some e1 => (t e1).bind fun b e2 => if b then (e e2).bind fun y e3 => (compD g t e vs (ds.drop (i + 1)) (wipeD e3 vs)).bind fun ys e4 => .ok (y :: ys) e4 else compD g t e vs (ds.drop (i + 1)) (wipeD e2 vs)) = .ok zs e2 := a6
            cases qg : g ds[i] env' with
            | none => rw [qg] at a6'; cases a6'
            | some f1 =>
              rw [qg] at a6'
              refine ⟨env', G'', ds[i], R'', dv, f1, qg, fun σ2 R2 F2 T2 => ?_⟩
              have hwipe : L2.wipe σ2 vs = L2.wipe σ vs := by
                have e1 : L2.wipe σ2 vs = L2.wipe (L2.wipe σ vs) vs := wipe_ext T2.1 fun j hj => T2.2 j fun z => hj (hws j z)
                rw [e1]
                refine wipe_ext (wipe_length _ _) fun j hj => ?_
                rw [wipe_get, if_neg hj]
              refine ⟨hwipe, ?_⟩
              have own2 : ¬ Own f1 σ2 A := fun z => by
                rcases F2.own A z with w | w
                · exact a3 w
                · rw [w] at hA''; cases hA''
              have stay : ∀ {f2 : DEnv} {G3 H3 : Hp}, Rel K f2 σ2 G3 H3 → Fr f1 σ2 G'' H'' f2 σ2 G3 H3 → H3 A = some (.lst vacc) ∧ G3 A = none ∧ ¬ Own f2 σ2 A := fun {f2 G3 H3} R3 F3 => by
                have h3 : H3 A = some (.lst vacc) := F3.keep A _ hA'' own2
                refine ⟨h3, ?_, fun z => ?_⟩
                · cases z : G3 A with
                  | none => rfl
                  | some u =>
                    rcases F3.fresh A (by rw [z]; exact fun w => by cases w) with w | w | w
                    · exact absurd gA'' w
                    · rw [w] at hA''; cases hA''
                    · exact absurd w own2
                · rcases F3.own A z with w | w
                  · exact own2 w
                  · rw [w] at hA''; cases hA''
              refine ⟨f1, G'', R2, ?_⟩
              have a6' : ((t f1).bind fun b e2 => if b then (e e2).bind fun y e3 => (compD g t e vs (ds.drop (i + 1)) (wipeD e3 vs)).bind fun ys e4 => .ok (y :: ys) e4 else compD g t e vs (ds.drop (i + 1)) (wipeD e2 vs)) = .ok zs e2 := a6'
              cases qt : t f1 with
              | stuck => rw [qt] at a6'; cases a6'
              | ex x e => rw [qt] at a6'; cases a6'
              | ok b f2 =>
                rw [qt] at a6'
                intro G3 H3 R3 F3
                obtain ⟨s1, s2, s3⟩ := stay R3 F3
                have a7' : (if b then (e f2).bind fun y e3 => (compD g t e vs (ds.drop (i + 1)) (wipeD e3 vs)).bind fun ys e4 => .ok (y :: ys) e4 else compD g t e vs (ds.drop (i + 1)) (wipeD f2 vs)) = .ok zs e2 := a6'
                cases b with
                | false =>
                  have a8 : compD g t e vs (ds.drop (i + 1)) (wipeD f2 vs) = .ok zs e2 := a7'
                  have Rn := R3.wipe vs
                  rw [hwipe] at Rn
                  have Fn := ((F''.trans F2).trans F3).trans (Fr.wipe f2 σ2 G3 H3 vs)
                  rw [hwipe] at Fn
                  refine ⟨wipeD f2 vs, G3, acc, vacc, zs, Rn, (ex'.trans gr.gg).trans F3.gg, Fn, s1, s2, fun z => ?_, a4.up (gr.gg.trans F3.gg), by omega, a8, a7⟩
                  rw [← hwipe] at z
                  obtain ⟨k, hk⟩ := z
                  exact s3 ⟨k, (wipe_own hk).1⟩
                | true =>
                  have a8 : (e f2).bind (fun y e3 => (compD g t e vs (ds.drop (i + 1)) (wipeD e3 vs)).bind fun ys e4 => .ok (y :: ys) e4) = .ok zs e2 := a7'
                  refine ⟨f2, G3, R3, ?_⟩
                  cases qe : e f2 with
                  | stuck => rw [qe] at a8; cases a8
                  | ex x e => rw [qe] at a8; cases a8
                  | ok y0 f3 =>
                    rw [qe] at a8
                    intro v G4 H4 R4 dv4 F4
                    obtain ⟨u1, u2, u3⟩ := stay R4 (F3.trans F4)
                    have a9 : (compD g t e vs (ds.drop (i + 1)) (wipeD f3 vs)).bind (fun ys e4 => .ok (y0 :: ys) e4) = .ok zs e2 := a8
                    cases qn : compD g t e vs (ds.drop (i + 1)) (wipeD f3 vs) with
                    | stuck => rw [qn] at a9; cases a9
                    | ex x e => rw [qn] at a9; cases a9
                    | ok zs' e5 =>
                      rw [qn] at a9
                      cases a9
                      have Rn := R4.wipe vs
                      rw [hwipe] at Rn
                      have Fn := (((F''.trans F2).trans F3).trans F4).trans (Fr.wipe f3 σ2 G4 H4 vs)
                      rw [hwipe] at Fn
                      have nown : ¬ Own (wipeD f3 vs) (L2.wipe σ vs) A := fun z => by
                        rw [← hwipe] at z
                        obtain ⟨k, hk⟩ := z
                        exact u3 ⟨k, (wipe_own hk).1⟩
                      have up4 : Ex G' G4 := (gr.gg.trans F3.gg).trans F4.gg
                      refine ⟨vacc, u1, ?_, wipeD f3 vs, G4, acc ++ [y0], vacc ++ [v], zs', Rn.mutFree u2 nown, ((ex'.trans gr.gg).trans F3.gg).trans F4.gg, Fn.mutNew hA (by rw [u1]; exact fun w => by cases w), upd_same, u2, nown, (a4.up up4).append (.one dv4), ?_, qn, by rw [a7]; simp⟩
                      · rw [a4.length]
                        exact Nat.lt_of_lt_of_le (show acc.length < 100000 by omega) (by decide)
                      · simp; omega
          · have ei : ds.drop i = [] := List.drop_eq_nil_of_le (by omega)
            rw [ei] at a6
            have a6' : Rs.ok ([] : List D) env' = Rs.ok zs e2 := a6
            injection a6' with z1 z2
            refine .inl ⟨w2 (by omega), ?_⟩
            rw [← z1, List.append_nil] at a7
            subst a7
            rw [← z2] at h2
            have hl0 : e1.length = env'.length := by rw [R1.len, R'.len, wipe_length]
            have ownM : ∀ i b, OwnAt (mergeD e1 env' vs) σ i b → OwnAt env' (L2.wipe σ vs) i b ∧ i ∉ vs := fun i b ⟨⟨s, x1, x2⟩, x3⟩ => by
              rw [mergeD_get e1 env' hl0] at x1
              by_cases hv : i ∈ vs
              · rw [if_pos hv] at x1
                have := List.all_eq_true.mp c.2 i hv
                rw [x1] at this
                simp [x2] at this
              · rw [if_neg hv] at x1
                exact ⟨⟨⟨s, x1, x2⟩, by rw [wipe_get, if_neg hv]; exact x3⟩, hv⟩
            refine h2 A vacc G' H' ⟨R'.ex, by rw [mergeD_length, ← hl0]; exact R1.len, fun i s o x1 x2 => ?_, fun i j b x y => R'.dist i j b (ownM i b x).1 (ownM j b y).1⟩ a1 a2 (F1.dom A hA) (fun ⟨i, z⟩ => a3 ⟨i, (ownM i A z).1⟩) a4
              (F1.trans ⟨F'.gg, fun a u ha hn => F'.keep a u ha fun ⟨i, z⟩ => hn ⟨i, (wipe_own z).1⟩, F'.dom, fun a ha => ?_, fun a ⟨i, z⟩ => ?_, fun i xs hx => ?_⟩)
            · rw [mergeD_get e1 env' hl0] at x1
              by_cases hv : i ∈ vs
              · rw [if_pos hv] at x1
                have hno := List.all_eq_true.mp c.2 i hv
                rw [x1] at hno
                have qs := R1.slot i s o x1 x2
                cases s with
                | no => trivial
                | v d => obtain ⟨v, e, qs⟩ := qs; exact ⟨v, e, qs.up F'.gg⟩
                | l xs => simp [Sl.own] at hno
                | p xs => simp [Sl.own] at hno
                | m xs => simp [Sl.own] at hno
                | f x => exact qs
                | a x _ _ => exact ⟨qs.1, qs.2.up F'.gg⟩
              · rw [if_neg hv] at x1
                exact R'.slot i s o x1 (by rw [wipe_get, if_neg hv]; exact x2)
            · rcases F'.fresh a ha with w | w | ⟨i, w⟩
              · exact .inl w
              · exact .inr (.inl w)
              · exact .inr (.inr ⟨i, (wipe_own w).1⟩)
            · rcases F'.own a ⟨i, (ownM i a z).1⟩ with ⟨k, w⟩ | w
              · exact .inl ⟨k, (wipe_own w).1⟩
              · exact .inr w
            · rw [mergeD_get e1 env' hl0] at hx
              by_cases hv : i ∈ vs
              · rw [if_pos hv] at hx
                have hno := List.all_eq_true.mp c.2 i hv
                rw [hx] at hno
                simp [Sl.own] at hno
              · rw [if_neg hv] at hx
                obtain ⟨p1, ys, p2⟩ := F'.par i xs hx
                rw [wipeD_get, if_neg hv] at p2
                exact ⟨rfl, ys, p2⟩
    · rw [if_neg c] at h2
      exact h2.elim
end
end DL
/- part DL4 -/
set_option Elab.async false
set_option linter.all false
set_option maxRecDepth 100000
set_option autoImplicit false
/-! DL4: comprehensions as rules; defs and calls. -/
namespace DL
open PySem L2
theorem pts_imp {X : Cx} {e : List Expr} {t t' : TT} (h : PTs X e t) (k : ∀ σ H Q, t' σ H Q → t σ H Q) : PTs X e t' := ⟨fun pins s σ H Q I w => h.run pins s σ H Q I (k σ H Q w)⟩
section
variable {X : Cx} {W : WX} {pos : Pos} {K : PySem.W.Frag} {mg : Str → Option Value}
theorem cts_nil : PTs X [] (rdT X.K X.mg W tYesD) := pts_imp pts_nil fun σ H Q h => by
  obtain ⟨env, G, R, h⟩ := h
  exact h G H R (Fr.refl _ _ _ _)
theorem cts_one {c : Expr} {dt : DT} (h : CT X W c dt) : PTs X [c] (rdT X.K X.mg W dt) := pts_one h
theorem cl_comp {elt tg iter : Expr} {ifs : List Expr} {scope : Scope} {own : List (Str × Nat)} {di : DA} {g : DG} {ws : List Nat} {t : DT} {de : DE} (hc : X.calm = true) (hN : X.N.Nodup) (hi : CI X W tg iter di) (ok : BlkOk X.N X.env.scope scope own)
    (hg : ∀ (s : Shared) (H : Hp) (C : Addr) (cl : List (Str × Addr)) (fp : List Addr), CG (X.blk s H scope (compEnvC scope cl C X.env) fp) tg g ws)
    (ht : ∀ (s : Shared) (H : Hp) (C : Addr) (cl : List (Str × Addr)) (fp : List Addr), PTs (X.blk s H scope (compEnvC scope cl C X.env) fp) ifs (rdT X.K X.mg WF t))
    (he : ∀ (s : Shared) (H : Hp) (C : Addr) (cl : List (Str × Addr)) (fp : List Addr), CE (X.blk s H scope (compEnvC scope cl C X.env) fp) WF elt de)
    (hws : ∀ j ∈ ws, j ∈ own.map (·.2) := by decide) (hs : ∀ x, foldedSetIterable iter X.env x = pure x := by intro _; rfl) : CL X W (.ListComp elt [⟨tg, iter, ifs, 0⟩] scope pos) (lComp di g t de (own.map (·.2))) :=
  pe_imp (pe_lc hc hN hi ok hg ht he hs) fun σ H Q h => lc_ok hws σ H Q h
/-- y = [..], y's list stands still -/
theorem cs_setComp {i : Nat} {y : Str} {py spos : Pos} {elt tg iter : Expr} {ifs : List Expr} {scope : Scope} {own : List (Str × Nat)} {di : DA} {g : DG} {ws : List Nat} {t : DT} {de : DE} (hc : X.calm = true) (hN : X.N.Nodup) (hy : X.N[i]? = some y) (hyl : X.env.scope.names.lookup y = some .local)
    (hsw : swapsWith (.ListComp elt [⟨tg, iter, ifs, 0⟩] scope pos) (some (.Name y py)) spos.line X.env = pure true) (hi : CI X W tg iter di) (ok : BlkOk X.N X.env.scope scope own)
    (hg : ∀ (s : Shared) (H : Hp) (C : Addr) (cl : List (Str × Addr)) (fp : List Addr), CG (X.blk s H scope (compEnvC scope cl C X.env) fp) tg g ws)
    (ht : ∀ (s : Shared) (H : Hp) (C : Addr) (cl : List (Str × Addr)) (fp : List Addr), PTs (X.blk s H scope (compEnvC scope cl C X.env) fp) ifs (rdT X.K X.mg WF t))
    (he : ∀ (s : Shared) (H : Hp) (C : Addr) (cl : List (Str × Addr)) (fp : List Addr), CE (X.blk s H scope (compEnvC scope cl C X.env) fp) WF elt de)
    (hws : ∀ j ∈ ws, j ∈ own.map (·.2) := by decide) (hs : ∀ x, foldedSetIterable iter X.env x = pure x := by intro _; rfl) :
    CS X W (.Assign [.Name y py] (.ListComp elt [⟨tg, iter, ifs, 0⟩] scope pos) spos) (sAsg (eLst (lComp di g t de (own.map (·.2)))) (gN i)) := ps_imp (ps_setLc hc hN hy hyl hsw hi ok hg ht he hs) fun E σ H h => by
  obtain ⟨env, G, R, h⟩ := h
  refine lc_ok hws σ H _ (L_to_E σ H _ (E_thenS R h fun d e1 v G1 H1 _ R1 dv F1 h1 => ?_))
  cases q : gN i d e1 with
  | none => rw [q] at h1; exact h1.elim
  | some e2 =>
    rw [q] at h1
    obtain ⟨s0, a1, a2, rfl⟩ := setV_some q
    exact h1 _ G1 H1 (R1.set a1 a2 ⟨v, rfl, dv⟩ (fun _ z => nomatch z) fun z => nomatch z) (Fr.set R1 a1 a2 (fun _ z => nomatch z) rfl)
/-- y = [..], y's list is changed later -/
theorem cs_setCompL {i : Nat} {y : Str} {py spos : Pos} {elt tg iter : Expr} {ifs : List Expr} {scope : Scope} {own : List (Str × Nat)} {di : DA} {g : DG} {ws : List Nat} {t : DT} {de : DE} (hc : X.calm = true) (hN : X.N.Nodup) (hy : X.N[i]? = some y) (hyl : X.env.scope.names.lookup y = some .local)
    (hsw : swapsWith (.ListComp elt [⟨tg, iter, ifs, 0⟩] scope pos) (some (.Name y py)) spos.line X.env = pure true) (hi : CI X W tg iter di) (ok : BlkOk X.N X.env.scope scope own)
    (hg : ∀ (s : Shared) (H : Hp) (C : Addr) (cl : List (Str × Addr)) (fp : List Addr), CG (X.blk s H scope (compEnvC scope cl C X.env) fp) tg g ws)
    (ht : ∀ (s : Shared) (H : Hp) (C : Addr) (cl : List (Str × Addr)) (fp : List Addr), PTs (X.blk s H scope (compEnvC scope cl C X.env) fp) ifs (rdT X.K X.mg WF t))
    (he : ∀ (s : Shared) (H : Hp) (C : Addr) (cl : List (Str × Addr)) (fp : List Addr), CE (X.blk s H scope (compEnvC scope cl C X.env) fp) WF elt de)
    (hws : ∀ j ∈ ws, j ∈ own.map (·.2) := by decide) (hs : ∀ x, foldedSetIterable iter X.env x = pure x := by intro _; rfl) :
    CS X W (.Assign [.Name y py] (.ListComp elt [⟨tg, iter, ifs, 0⟩] scope pos) spos) (sAsgL i (lComp di g t de (own.map (·.2)))) := ps_imp (ps_setLc hc hN hy hyl hsw hi ok hg ht he hs) fun E σ H h => lc_ok hws σ H _ (setL_ok E σ H h)
end
/-! ### defs -/
inductive Fo where
  | ok (d : D) (outs : DEnv)
  | okl (xs : List D) (outs : DEnv)
  | ex (x : Xc) (outs : DEnv)
  | stuck
abbrev Df := DEnv → Fo
section
variable (K : PySem.W.Frag) (mg : Str → Option Value)
def RunF (args : DEnv) (σ : L2.St) (G H : Hp) (r : Fo) (Q : VK) (E : XK) : Prop := match r with
  | .ok d outs => ∀ v G' H', Rel K outs σ G' H' → Dv K G' v d → Fr args σ G H outs σ G' H' → Q v H'
  | .okl xs outs => ∀ a vs G' H', Rel K outs σ G' H' → H' a = some (.lst vs) → G' a = none → H a = none → ¬ Own outs σ a → DvAll K G' vs xs → Fr args σ G H outs σ G' H' → Q (.ref a) H'
  | .ex x outs => ∀ cls dd G' H', XRel K mg x cls dd G' H' → Rel K outs σ G' H' → Fr args σ G H outs σ G' H' → E cls dd H'
  | .stuck => False
/-- the promise of a def by a function on data -/
def spD (np : Nat) (F : Df) : Sp := fun vs H Q E => vs.length = np ∧ ∃ args G, Rel K args (vs.map some) G H ∧ RunF K mg args (vs.map some) G H (F args) Q E
end
/-- what comes back of the arguments -/
def outOf : Sl → Sl → Sl
  | .p _, .p ys => .p ys
  | _, _ => .no
def outsOf (args env : DEnv) : DEnv := args.mapIdx fun i a => outOf a (env.getD i Sl.no)
/-- a def by its body: n slots -/
def bodyF (n : Nat) (ds : DS) : Df := fun args => match ds (args ++ List.replicate (n - args.length) Sl.no) with
  | .nx e => .ok .none (outsOf args e)
  | .rt d e => .ok d (outsOf args e)
  | .rl xs e => .okl xs (outsOf args e)
  | .ex x e => .ex x (outsOf args e)
  | _ => .stuck
section
variable {K : PySem.W.Frag} {mg : Str → Option Value}
theorem outs_get {args env : DEnv} {i : Nat} {s : Sl} (h : (outsOf args env)[i]? = some s) : s = Sl.no ∨ ∃ xs ys, args[i]? = some (Sl.p xs) ∧ env[i]? = some (Sl.p ys) ∧ s = Sl.p ys := by
  unfold outsOf at h
  rw [List.getElem?_mapIdx] at h
  cases q1 : args[i]? with
  | none => simp [q1] at h
  | some a =>
    simp only [q1, Option.map_some, Option.some.injEq] at h
    cases q2 : env[i]? with
    | none =>
      have e : env.getD i Sl.no = Sl.no := by rw [List.getD_eq_getElem?_getD, q2]; rfl
      rw [e] at h
      cases a <;> exact .inl h.symm
    | some b =>
      have e : env.getD i Sl.no = b := by rw [List.getD_eq_getElem?_getD, q2]; rfl
      rw [e] at h
      cases a <;> cases b <;> first | exact .inl h.symm | exact .inr ⟨_, _, rfl, rfl, h.symm⟩
theorem rel_start {args : DEnv} {vs : List V} {G H : Hp} {N : List Str} (R : Rel K args (vs.map some) G H) (hn : vs.length ≤ N.length) : Rel K (args ++ List.replicate (N.length - args.length) Sl.no) (start N vs) G H := by
  have hl : args.length = vs.length := by simpa using R.len
  have own : ∀ i a, OwnAt (args ++ List.replicate (N.length - args.length) Sl.no) (start N vs) i a → OwnAt args (vs.map some) i a := fun i a ⟨⟨s, e1, e2⟩, e3⟩ => by
    by_cases c : i < args.length
    · rw [List.getElem?_append_left c] at e1
      unfold L2.start at e3
      rw [List.getElem?_append_left (by simpa [← hl] using c)] at e3
      exact ⟨⟨s, e1, e2⟩, e3⟩
    · rw [List.getElem?_append_right (by omega)] at e1
      obtain ⟨_, e⟩ := List.getElem?_eq_some_iff.mp e1
      simp at e
      rw [← e] at e2
      cases e2
  refine ⟨R.ex, ?_, fun i s o e1 e2 => ?_, fun i j a x y => R.dist i j a (own i a x) (own j a y)⟩
  · unfold L2.start
    simp
    omega
  · by_cases c : i < args.length
    · rw [List.getElem?_append_left c] at e1
      unfold L2.start at e2
      rw [List.getElem?_append_left (by simpa [← hl] using c)] at e2
      exact R.slot i s o e1 e2
    · rw [List.getElem?_append_right (by omega)] at e1
      obtain ⟨_, e⟩ := List.getElem?_eq_some_iff.mp e1
      simp at e
      rw [← e]
      trivial
theorem start_get {N : List Str} {vs : List V} {i : Nat} (h : i < vs.length) : (start N vs)[i]? = (vs.map some)[i]? := by
  unfold L2.start
  rw [List.getElem?_append_left (by simpa using h)]
/-- the frame at the def's end, as the caller sees it -/
theorem ends_fr {args env : DEnv} {vs : List V} {σ' : L2.St} {G H G' H' : Hp} {N : List Str} (R : Rel K args (vs.map some) G H) (hn : vs.length ≤ N.length) (R' : Rel K env σ' G' H')
    (F : Fr (args ++ List.replicate (N.length - args.length) Sl.no) (start N vs) G H env σ' G' H') :
    Rel K (outsOf args env) (vs.map some) G' H' ∧ Fr args (vs.map some) G H (outsOf args env) (vs.map some) G' H' ∧ (∀ a, Own (outsOf args env) (vs.map some) a → Own env σ' a) := by
  have hl : args.length = vs.length := by simpa using R.len
  have up : ∀ i a, OwnAt args (vs.map some) i a ↔ OwnAt (args ++ List.replicate (N.length - args.length) Sl.no) (start N vs) i a := fun i a => by
    constructor
    · rintro ⟨⟨s, e1, e2⟩, e3⟩
      have c : i < args.length := (List.getElem?_eq_some_iff.mp e1).1
      exact ⟨⟨s, by rw [List.getElem?_append_left c]; exact e1, e2⟩, by rw [start_get (by omega)]; exact e3⟩
    · rintro ⟨⟨s, e1, e2⟩, e3⟩
      by_cases c : i < args.length
      · rw [List.getElem?_append_left c] at e1
        rw [start_get (by omega)] at e3
        exact ⟨⟨s, e1, e2⟩, e3⟩
      · rw [List.getElem?_append_right (by omega)] at e1
        obtain ⟨_, e⟩ := List.getElem?_eq_some_iff.mp e1
        simp at e
        rw [← e] at e2
        cases e2
  -- a slot of outs that is a parameter's list: it stands where it stood
  have back : ∀ (i : Nat) (s : Sl), (outsOf args env)[i]? = some s → s = Sl.no ∨ ∃ ys, s = Sl.p ys ∧ env[i]? = some (Sl.p ys) ∧ σ'[i]? = (vs.map some)[i]? := fun i s h => by
    rcases outs_get h with h | ⟨xs, ys, h1, h2, h3⟩
    · exact .inl h
    · obtain ⟨e, _⟩ := F.par i ys h2
      have c : i < args.length := (List.getElem?_eq_some_iff.mp h1).1
      rw [start_get (by omega)] at e
      exact .inr ⟨ys, h3, h2, e⟩
  have ownO : ∀ i a, OwnAt (outsOf args env) (vs.map some) i a → OwnAt env σ' i a := fun i a ⟨⟨s, e1, e2⟩, e3⟩ => by
    rcases back i s e1 with h | ⟨ys, h1, h2, h3⟩
    · subst h; cases e2
    · subst h1
      exact ⟨⟨_, h2, rfl⟩, by rw [h3]; exact e3⟩
  have hlo : (outsOf args env).length = (vs.map some).length := by
    unfold outsOf
    rw [List.length_mapIdx, List.length_map]
    exact hl
  refine ⟨⟨R'.ex, hlo, fun i s o e1 e2 => ?_, fun i j a x y => R'.dist i j a (ownO i a x) (ownO j a y)⟩, ⟨F.gg, fun a o ha hn => F.keep a o ha fun ⟨i, z⟩ => hn ⟨i, (up i a).mpr z⟩, F.dom, fun a ha => ?_, fun a ⟨i, z⟩ => ?_, fun i xs hi => ?_⟩, fun a ⟨i, z⟩ => ⟨i, ownO i a z⟩⟩
  · rcases back i s e1 with h | ⟨ys, h1, h2, h3⟩
    · subst h; trivial
    · subst h1
      exact R'.slot i _ o h2 (by rw [h3]; exact e2)
  · rcases F.fresh a ha with w | w | ⟨i, w⟩
    · exact .inl w
    · exact .inr (.inl w)
    · exact .inr (.inr ⟨i, (up i a).mpr w⟩)
  · rcases F.own a ⟨i, ownO i a z⟩ with ⟨k, w⟩ | w
    · exact .inl ⟨k, (up k a).mpr w⟩
    · exact .inr w
  · rcases outs_get hi with h | ⟨xs', ys, h1, h2, h3⟩
    · cases h
    · exact ⟨rfl, xs', h1⟩
end
section
variable {P : Program} {w : World} {K : PySem.W.Frag} {mg : Str → Option Value} {base : Heap}
end
end DL
/- part DL5 -/
set_option Elab.async false
set_option linter.all false
set_option maxRecDepth 100000
set_option autoImplicit false
/-! DL5: calls of defs; lists changed in place. -/
namespace DL
open PySem L2
/-- an argument: data, or a slot's own list lent out -/
inductive Ar where
  | d (x : D)
  | g (x : Str)
  | s (i : Nat)
abbrev DAr := DEnv → Rs (List Ar)
def rNil : DAr := fun env => .ok [] env
def rCons (de : DE) (da : DAr) : DAr := fun env => (de env).bind fun x e1 => (da e1).bind fun xs e2 => .ok (.d x :: xs) e2
def lent (i : Nat) (env : DEnv) : Bool := match env[i]? with
  | some (.l _) => true
  | some (.p _) => true
  | _ => false
def rLend (i : Nat) (da : DAr) : DAr := fun env => if lent i env then (da env).bind fun xs e2 => .ok (.s i :: xs) e2 else .stuck
def ArRel (K : PySem.W.Frag) (G : Hp) (σ : L2.St) : List V → List Ar → Prop
  | [], [] => True
  | v :: vs, .d x :: as => Dv K G v x ∧ ArRel K G σ vs as
  | v :: vs, .g x :: as => v = .ref (He.ga K x) ∧ ArRel K G σ vs as
  | v :: vs, .s i :: as => σ[i]? = some (some v) ∧ ArRel K G σ vs as
  | _, _ => False
theorem ArRel.up {K : PySem.W.Frag} {G G' : Hp} {σ : L2.St} (e : Ex G G') : ∀ {vs : List V} {as : List Ar}, ArRel K G σ vs as → ArRel K G' σ vs as
  | [], [], _ => trivial
  | v :: vs, .d x :: as, h => ⟨h.1.up e, ArRel.up e h.2⟩
  | v :: vs, .g x :: as, h => ⟨h.1, ArRel.up e h.2⟩
  | v :: vs, .s i :: as, h => ⟨h.1, ArRel.up e h.2⟩
theorem ArRel.length {K : PySem.W.Frag} {G : Hp} {σ : L2.St} : ∀ {vs : List V} {as : List Ar}, ArRel K G σ vs as → vs.length = as.length
  | [], [], _ => rfl
  | v :: vs, .d x :: as, h => by simp [ArRel.length h.2]
  | v :: vs, .g x :: as, h => by simp [ArRel.length h.2]
  | v :: vs, .s i :: as, h => by simp [ArRel.length h.2]
theorem ArRel.getD {K : PySem.W.Frag} {G : Hp} {σ : L2.St} : ∀ {vs : List V} {as : List Ar} {j : Nat} {x : D}, ArRel K G σ vs as → as[j]? = some (.d x) → ∃ v, vs[j]? = some v ∧ Dv K G v x
  | [], [], _, _, _, e => by simp at e
  | v :: vs, .d y :: as, 0, x, h, e => by simp at e; subst e; exact ⟨v, rfl, h.1⟩
  | v :: vs, .s i :: as, 0, x, h, e => by simp at e
  | v :: vs, .g i :: as, 0, x, h, e => by simp at e
  | v :: vs, .g y :: as, j + 1, x, h, e => by simpa using ArRel.getD (j := j) (x := x) h.2 (by simpa using e)
  | v :: vs, .d y :: as, j + 1, x, h, e => by simpa using ArRel.getD (j := j) (x := x) h.2 (by simpa using e)
  | v :: vs, .s i :: as, j + 1, x, h, e => by simpa using ArRel.getD (j := j) (x := x) h.2 (by simpa using e)
theorem ArRel.getS {K : PySem.W.Frag} {G : Hp} {σ : L2.St} : ∀ {vs : List V} {as : List Ar} {j i : Nat}, ArRel K G σ vs as → as[j]? = some (.s i) → ∃ v, vs[j]? = some v ∧ σ[i]? = some (some v)
  | [], [], _, _, _, e => by simp at e
  | v :: vs, .s i :: as, 0, x, h, e => by simp at e; subst e; exact ⟨v, rfl, h.1⟩
  | v :: vs, .d i :: as, 0, x, h, e => by simp at e
  | v :: vs, .g i :: as, 0, x, h, e => by simp at e
  | v :: vs, .g y :: as, j + 1, x, h, e => by simpa using ArRel.getS (j := j) (i := x) h.2 (by simpa using e)
  | v :: vs, .d y :: as, j + 1, x, h, e => by simpa using ArRel.getS (j := j) (i := x) h.2 (by simpa using e)
  | v :: vs, .s i :: as, j + 1, x, h, e => by simpa using ArRel.getS (j := j) (i := x) h.2 (by simpa using e)
theorem ArRel.getG {K : PySem.W.Frag} {G : Hp} {σ : L2.St} : ∀ {vs : List V} {as : List Ar} {j : Nat} {x : Str}, ArRel K G σ vs as → as[j]? = some (.g x) → vs[j]? = some (.ref (He.ga K x))
  | [], [], _, _, _, e => by simp at e
  | v :: vs, .g y :: as, 0, x, h, e => by simp at e; subst e; have := h.1; subst this; rfl
  | v :: vs, .s i :: as, 0, x, h, e => by simp at e
  | v :: vs, .d i :: as, 0, x, h, e => by simp at e
  | v :: vs, .d y :: as, j + 1, x, h, e => by simpa using ArRel.getG (j := j) (x := x) h.2 (by simpa using e)
  | v :: vs, .g y :: as, j + 1, x, h, e => by simpa using ArRel.getG (j := j) (x := x) h.2 (by simpa using e)
  | v :: vs, .s i :: as, j + 1, x, h, e => by simpa using ArRel.getG (j := j) (x := x) h.2 (by simpa using e)
section
variable (K : PySem.W.Frag) (mg : Str → Option Value) (W : WX)
def RunR (env : DEnv) (σ : L2.St) (G H : Hp) (r : Rs (List Ar)) (Q : List V → Hp → Prop) : Prop := match r with
  | .ok as env' => ∀ vs G' H', Rel K env' σ G' H' → ArRel K G' σ vs as → (∀ i, Ar.s i ∈ as → lent i env' = true) → Fr env σ G H env' σ G' H' → Q vs H'
  | .ex x env' => RunX K mg W env σ G H x env'
  | .stuck => False
def rdR (de : DAr) : TA := fun σ H Q => ∃ env G, Rel K env σ G H ∧ RunR K mg W env σ G H (de env) Q
end
abbrev CR (X : Cx) (W : WX) (es : List Expr) (da : DAr) : Prop := PA X es (rdR X.K X.mg W da)
theorem RunR.shift {K : PySem.W.Frag} {mg : Str → Option Value} {W : WX} {env env1 : DEnv} {σ : L2.St} {G H G1 H1 : Hp} {r : Rs (List Ar)} {Q : List V → Hp → Prop} (h : RunR K mg W env σ G H r Q) (f : Fr env σ G H env1 σ G1 H1) : RunR K mg W env1 σ G1 H1 r Q := by
  cases r with
  | ok d e => exact fun v G' H' a b l c => h v G' H' a b l (f.trans c)
  | ex x e => exact RunX.shift h f
  | stuck => exact h
theorem lent_some {i : Nat} {env : DEnv} (h : lent i env = true) : ∃ xs, env[i]? = some (.l xs) ∨ env[i]? = some (.p xs) := by
  unfold lent at h
  cases q : env[i]? with
  | none => rw [q] at h; cases h
  | some s =>
    rw [q] at h
    cases s with
    | l xs => exact ⟨xs, .inl rfl⟩
    | p xs => exact ⟨xs, .inr rfl⟩
    | no => cases h
    | v d => cases h
    | m d => cases h
    | f d => cases h
    | a d _ _ => cases h
section
variable {X : Cx} {W : WX} {pos : Pos} {e : Expr} {es : List Expr} {de : DE} {da : DAr}
theorem R_then {K : PySem.W.Frag} {mg : Str → Option Value} {env : DEnv} {σ : L2.St} {G H : Hp} {da : DAr} {β : Type} {f : List Ar → DEnv → Rs β} {R : List V → Hp → Prop} (hR : Rel K env σ G H) {P : DEnv → L2.St → Hp → Hp → Rs β → Prop}
    (h : P env σ G H ((da env).bind f)) (hx : ∀ x e, P env σ G H (.ex x e) → RunX K mg W env σ G H x e) (hst : ¬ P env σ G H .stuck)
    (hsh : ∀ e1 G1 H1 r, P env σ G H r → Fr env σ G H e1 σ G1 H1 → P e1 σ G1 H1 r)
    (k : ∀ as e1 vs G1 H1, da env = .ok as e1 → Rel K e1 σ G1 H1 → ArRel K G1 σ vs as → (∀ i, Ar.s i ∈ as → lent i e1 = true) → Fr env σ G H e1 σ G1 H1 → P e1 σ G1 H1 (f as e1) → R vs H1) : rdR K mg W da σ H R := by
  refine ⟨env, G, hR, ?_⟩
  cases q : da env with
  | ok d e1 =>
    rw [q] at h
    exact fun v G1 H1 a b l c => k d e1 v G1 H1 q a b l c (hsh _ _ _ _ h c)
  | ex x e => rw [q] at h; exact hx x e h
  | stuck => rw [q] at h; exact (hst h).elim
theorem cr_nil : CR X W [] rNil := pa_imp pa_nil fun σ H Q h => by
  obtain ⟨env, G, R, h⟩ := h
  exact h [] G H R trivial (fun i z => nomatch z) (Fr.refl _ _ _ _)
theorem E_thenR {K : PySem.W.Frag} {mg : Str → Option Value} {env : DEnv} {σ : L2.St} {G H : Hp} {de : DE} {f : D → DEnv → Rs (List Ar)} {Q : List V → Hp → Prop} {R : VK} (hR : Rel K env σ G H) (h : RunR K mg W env σ G H ((de env).bind f) Q)
    (k : ∀ d e1 v G1 H1, de env = .ok d e1 → Rel K e1 σ G1 H1 → Dv K G1 v d → Fr env σ G H e1 σ G1 H1 → RunR K mg W e1 σ G1 H1 (f d e1) Q → R v H1) : rdE K mg W de σ H R :=
  E_then hR (P := fun e s G H r => RunR K mg W e s G H r Q) h (fun _ _ z => z) (fun z => z) (fun _ _ _ _ a b => a.shift b) k
theorem cr_cons (ha : CE X W e de) (hr : CR X W es da) (hs : starEach (e :: es) X.env = (false, eval e X.env) :: starEach es X.env := by rfl) : CR X W (e :: es) (rCons de da) := pa_imp (pa_cons ha hr hs) fun σ H Q h => by
  obtain ⟨env, G, R, h⟩ := h
  refine E_thenR R h fun d e1 v G1 H1 _ R1 dv F1 h1 => R_then R1 (P := fun e s G H r => RunR X.K X.mg W e s G H r Q) h1 (fun _ _ z => z) (fun z => z) (fun _ _ _ _ a b => a.shift b) fun as e2 vs G2 H2 _ R2 ar le F2 h2 => ?_
  exact h2 (v :: vs) G2 H2 R2 ⟨dv.up F2.gg, ar⟩ (fun i z => by
    rcases List.mem_cons.mp z with z | z
    · cases z
    · exact le i z) (Fr.refl _ _ _ _)
/-- a name whose list is lent out: what comes behind does not take it away -/
theorem cr_lend (i : Nat) {x : Str} {p : Pos} (hr : CR X W es da) (hN : X.N[i]? = some x := by rfl) (hv : Vis X.env.scope x := by first | exact Or.inl rfl | exact Or.inr (Or.inl rfl) | exact Or.inr (Or.inr rfl)) (hd : (x == ("__debug__" : Str)) = false := by decide)
    (hcd : (x == ("__classdict__" : Str)) = false := by decide) (hs : starEach (.Name x p :: es) X.env = (false, eval (.Name x p) X.env) :: starEach es X.env := by rfl) : CR X W (.Name x p :: es) (fun env => if lent i env then (da env).bind fun xs e2 => if lent i e2 then .ok (.s i :: xs) e2 else .stuck else .stuck) := pa_imp (pa_cons (pe_var hN hv hd hcd) hr hs) fun σ H Q h => by
  obtain ⟨env, G, R, h⟩ := h
  by_cases c : lent i env = true
  · have h' : RunR X.K X.mg W env σ G H ((da env).bind fun xs e2 => if lent i e2 then .ok (.s i :: xs) e2 else .stuck) Q := by
      have h2 : RunR X.K X.mg W env σ G H (if lent i env = true then (da env).bind fun xs e2 => if lent i e2 then .ok (.s i :: xs) e2 else .stuck else .stuck) Q := h
      rw [if_pos c] at h2
      exact h2
    obtain ⟨xs, hx⟩ := lent_some c
    have li : i < σ.length := by
      rw [← R.len]
      rcases hx with hx | hx <;> exact (List.getElem?_eq_some_iff.mp hx).1
    have ho : σ[i]? = some σ[i] := List.getElem?_eq_getElem li
    obtain ⟨v, hv⟩ : ∃ v, σ[i]? = some (some v) := by
      rcases hx with hx | hx
      · obtain ⟨a, vs, e, _⟩ := R.slot i _ _ hx ho
        exact ⟨_, by rw [ho, e]⟩
      · obtain ⟨a, vs, e, _⟩ := R.slot i _ _ hx ho
        exact ⟨_, by rw [ho, e]⟩
    refine ⟨v, hv, R_then R (P := fun e s G H r => RunR X.K X.mg W e s G H r Q) h' (fun _ _ z => z) (fun z => z) (fun _ _ _ _ a b => a.shift b) fun as e2 vs G2 H2 _ R2 ar le F2 h2 => ?_⟩
    by_cases c2 : lent i e2 = true
    · have h3 : RunR X.K X.mg W e2 σ G2 H2 (if lent i e2 = true then .ok (.s i :: as) e2 else .stuck) Q := h2
      rw [if_pos c2] at h3
      exact h3 (v :: vs) G2 H2 R2 ⟨hv, ar⟩ (fun j z => by
        rcases List.mem_cons.mp z with z | z
        · cases z; exact c2
        · exact le j z) (Fr.refl _ _ _ _)
    · have h3 : RunR X.K X.mg W e2 σ G2 H2 (if lent i e2 = true then .ok (.s i :: as) e2 else .stuck) Q := h2
      rw [if_neg c2] at h3
      exact h3.elim
  · have h2 : RunR X.K X.mg W env σ G H (if lent i env = true then (da env).bind fun xs e2 => if lent i e2 then .ok (.s i :: xs) e2 else .stuck else .stuck) Q := h
    rw [if_neg c] at h2
    exact h2.elim
end
/-! ### the callee's slots; what comes back -/
def toSl (env : DEnv) : Ar → Sl
  | .d x => .v x
  | .g x => .f x
  | .s i => match env[i]? with
    | some (.l xs) => .p xs
    | some (.p xs) => .p xs
    | _ => .no
def lookS (j : Nat) : List Ar → DEnv → Option Sl
  | .s i :: as, o :: os => if i = j then some o else lookS j as os
  | .d _ :: as, _ :: os => lookS j as os
  | .g _ :: as, _ :: os => lookS j as os
  | _, _ => none
def conv : Sl → Sl → Sl
  | .l _, .p ys => .l ys
  | .p _, .p ys => .p ys
  | _, _ => .no
def backD (as : List Ar) (outs env : DEnv) : DEnv := env.mapIdx fun j s => match lookS j as outs with
  | some o => conv s o
  | none => s
def slotsOf : List Ar → List Nat
  | [] => []
  | .s i :: as => i :: slotsOf as
  | .d _ :: as => slotsOf as
  | .g _ :: as => slotsOf as
def callD (F : Df) (as : List Ar) (env : DEnv) : Fo := if (slotsOf as).Nodup then match F (as.map (toSl env)) with
    | .ok d outs => .ok d (backD as outs env)
    | .okl xs outs => .okl xs (backD as outs env)
    | .ex x outs => .ex x (backD as outs env)
    | .stuck => .stuck
  else .stuck
def Fo.rs : Fo → Rs D
  | .ok d env => .ok d env
  | .okl xs env => .ok (.list xs) env
  | .ex x env => .ex x env
  | .stuck => .stuck
def Fo.rl : Fo → Rs (List D)
  | .okl xs env => .ok xs env
  | .ex x env => .ex x env
  | _ => .stuck
def eCall (F : Df) (da : DAr) : DE := fun env => (da env).bind fun as e1 => (callD F as e1).rs
def lCall (F : Df) (da : DAr) : DA := fun env => (da env).bind fun as e1 => (callD F as e1).rl
theorem slots_mem : ∀ {as : List Ar} {i : Nat}, i ∈ slotsOf as ↔ Ar.s i ∈ as
  | [], i => by simp [slotsOf]
  | .s j :: as, i => by simp [slotsOf, slots_mem (as := as)]
  | .d x :: as, i => by simp [slotsOf, slots_mem (as := as)]
  | .g x :: as, i => by simp [slotsOf, slots_mem (as := as)]
theorem slots_inj : ∀ {as : List Ar}, (slotsOf as).Nodup → ∀ {j k i : Nat}, as[j]? = some (.s i) → as[k]? = some (.s i) → j = k
  | [], _, _, _, _, e, _ => by simp at e
  | .d x :: as, h, 0, _, _, e, _ => by simp at e
  | .d x :: as, h, _, 0, _, _, e => by simp at e
  | .d x :: as, h, j + 1, k + 1, i, e1, e2 => by
    have := slots_inj (as := as) (by simpa [slotsOf] using h) (j := j) (k := k) (i := i) (by simpa using e1) (by simpa using e2)
    omega
  | .g x :: as, h, 0, _, _, e, _ => by simp at e
  | .g x :: as, h, _, 0, _, _, e => by simp at e
  | .g x :: as, h, j + 1, k + 1, i, e1, e2 => by
    have := slots_inj (as := as) (by simpa [slotsOf] using h) (j := j) (k := k) (i := i) (by simpa using e1) (by simpa using e2)
    omega
  | .s x :: as, h, 0, 0, _, _, _ => rfl
  | .s x :: as, h, 0, k + 1, i, e1, e2 => by
    simp at e1 e2
    subst e1
    have h' : x ∉ slotsOf as ∧ (slotsOf as).Nodup := by simpa [slotsOf] using h
    exact absurd (slots_mem.mpr (List.mem_of_getElem? e2)) h'.1
  | .s x :: as, h, j + 1, 0, i, e1, e2 => by
    simp at e1 e2
    subst e2
    have h' : x ∉ slotsOf as ∧ (slotsOf as).Nodup := by simpa [slotsOf] using h
    exact absurd (slots_mem.mpr (List.mem_of_getElem? e1)) h'.1
  | .s x :: as, h, j + 1, k + 1, i, e1, e2 => by
    have h' : x ∉ slotsOf as ∧ (slotsOf as).Nodup := by simpa [slotsOf] using h
    have := slots_inj (as := as) h'.2 (j := j) (k := k) (i := i) (by simpa using e1) (by simpa using e2)
    omega
theorem lookS_some : ∀ {as : List Ar} {os : DEnv} {j : Nat} {o : Sl}, lookS j as os = some o → ∃ k : Nat, as[k]? = some (Ar.s j) ∧ os[k]? = some o
  | [], _, _, _, h => by simp [lookS] at h
  | .s i :: as, [], _, _, h => by simp [lookS] at h
  | .d i :: as, [], _, _, h => by simp [lookS] at h
  | .g i :: as, [], _, _, h => by simp [lookS] at h
  | .s i :: as, o' :: os, j, o, h => by
    unfold lookS at h
    by_cases c : i = j
    · rw [if_pos c] at h
      cases h
      subst c
      exact ⟨0, rfl, rfl⟩
    · rw [if_neg c] at h
      obtain ⟨k, a, b⟩ := lookS_some h
      exact ⟨k + 1, by simpa using a, by simpa using b⟩
  | .d i :: as, o' :: os, j, o, h => by
    unfold lookS at h
    obtain ⟨k, a, b⟩ := lookS_some h
    exact ⟨k + 1, by simpa using a, by simpa using b⟩
  | .g i :: as, o' :: os, j, o, h => by
    unfold lookS at h
    obtain ⟨k, a, b⟩ := lookS_some h
    exact ⟨k + 1, by simpa using a, by simpa using b⟩
theorem lookS_none : ∀ {as : List Ar} {os : DEnv} {j : Nat}, as.length = os.length → lookS j as os = none → Ar.s j ∉ as
  | [], _, _, _, _ => by simp
  | .s i :: as, [], _, h, _ => by simp at h
  | .d i :: as, [], _, h, _ => by simp at h
  | .g i :: as, [], _, h, _ => by simp at h
  | .s i :: as, o' :: os, j, hl, h => by
    unfold lookS at h
    by_cases c : i = j
    · rw [if_pos c] at h; cases h
    · rw [if_neg c] at h
      have := lookS_none (by simpa using hl) h
      simp [this, Ne.symm c]
  | .d i :: as, o' :: os, j, hl, h => by
    unfold lookS at h
    have := lookS_none (by simpa using hl) h
    simp [this]
  | .g i :: as, o' :: os, j, hl, h => by
    unfold lookS at h
    have := lookS_none (by simpa using hl) h
    simp [this]
section
variable {K : PySem.W.Frag} {mg : Str → Option Value} {env : DEnv} {σ : L2.St} {G H : Hp} {as : List Ar} {vs : List V}
theorem toSl_own {i : Nat} {a : Addr} (ar : ArRel K G σ vs as) (h : OwnAt (as.map (toSl env)) (vs.map some) i a) : ∃ k, as[i]? = some (.s k) ∧ OwnAt env σ k a ∧ ∃ xs, (as.map (toSl env))[i]? = some (.p xs) := by
  obtain ⟨⟨s, e1, e2⟩, e3⟩ := h
  rw [List.getElem?_map] at e1 e3
  cases q : as[i]? with
  | none => rw [q] at e1; cases e1
  | some x =>
    rw [q] at e1
    cases x with
    | d y => cases e1; cases e2
    | g y => cases e1; cases e2
    | s k =>
      obtain ⟨v, hv, hs⟩ := ar.getS q
      rw [hv] at e3
      cases e3
      have e1' : toSl env (.s k) = s := by simpa using e1
      unfold toSl at e1'
      cases q2 : env[k]? with
      | none => simp [q2] at e1'; subst e1'; cases e2
      | some t =>
        simp only [q2] at e1'
        cases t with
        | l xs => exact ⟨k, rfl, ⟨⟨_, q2, rfl⟩, hs⟩, xs, by rw [List.getElem?_map, q]; simp [toSl, q2]⟩
        | p xs => exact ⟨k, rfl, ⟨⟨_, q2, rfl⟩, hs⟩, xs, by rw [List.getElem?_map, q]; simp [toSl, q2]⟩
        | no => subst e1'; cases e2
        | v d => subst e1'; cases e2
        | m d => subst e1'; cases e2
        | f d => subst e1'; cases e2
        | a d _ _ => subst e1'; cases e2
theorem rel_args (R : Rel K env σ G H) (ar : ArRel K G σ vs as) (nd : (slotsOf as).Nodup) : Rel K (as.map (toSl env)) (vs.map some) G H := by
  refine ⟨R.ex, by simp [ar.length], fun i s o e1 e2 => ?_, fun i j a x y => ?_⟩
  · rw [List.getElem?_map] at e1 e2
    cases q : as[i]? with
    | none => rw [q] at e1; cases e1
    | some x =>
      rw [q] at e1
      have e1' : toSl env x = s := by simpa using e1
      cases x with
      | d y =>
        obtain ⟨v, hv, dv⟩ := ar.getD q
        rw [hv] at e2
        have e2' : some v = o := by simpa using e2
        subst e1'
        exact ⟨v, e2'.symm, dv⟩
      | g y =>
        have hv := ar.getG q
        rw [hv] at e2
        have e2' : some (V.ref (He.ga K y)) = o := by simpa using e2
        subst e1'
        exact e2'.symm
      | s k =>
        obtain ⟨v, hv, hs⟩ := ar.getS q
        rw [hv] at e2
        have e2' : some v = o := by simpa using e2
        unfold toSl at e1'
        cases q2 : env[k]? with
        | none => simp [q2] at e1'; subst e1'; trivial
        | some t =>
          simp only [q2] at e1'
          cases t with
          | l xs => have z := R.slot k (.l xs) (some v) q2 hs; subst e1'; rw [← e2']; exact z
          | p xs => have z := R.slot k (.p xs) (some v) q2 hs; subst e1'; rw [← e2']; exact z
          | no => subst e1'; trivial
          | v d => subst e1'; trivial
          | m d => subst e1'; trivial
          | f d => subst e1'; trivial
          | a d _ _ => subst e1'; trivial
  · obtain ⟨k1, a1, a2, _⟩ := toSl_own ar x
    obtain ⟨k2, b1, b2, _⟩ := toSl_own ar y
    have e := R.dist k1 k2 a a2 b2
    subst e
    exact slots_inj nd a1 b1
/-- behind the call -/
theorem back_ok {outs : DEnv} {G' H' : Hp} (R : Rel K env σ G H) (ar : ArRel K G σ vs as) (nd : (slotsOf as).Nodup) (R' : Rel K outs (vs.map some) G' H') (F : Fr (as.map (toSl env)) (vs.map some) G H outs (vs.map some) G' H') :
    Rel K (backD as outs env) σ G' H' ∧ Fr env σ G H (backD as outs env) σ G' H' ∧ ∀ a, Own (backD as outs env) σ a → Own outs (vs.map some) a ∨ Own env σ a := by
  have hlo : as.length = outs.length := by rw [R'.len]; simp [ar.length]
  have ownA : ∀ a, Own (as.map (toSl env)) (vs.map some) a → Own env σ a := fun a ⟨i, z⟩ => let ⟨k, _, b, _⟩ := toSl_own ar z; ⟨k, b⟩
  -- a slot of ours that is not lent stays
  have keepS : ∀ (j : Nat) (a : Addr), OwnAt env σ j a → Ar.s j ∉ as → ¬ Own (as.map (toSl env)) (vs.map some) a := fun j a o hn ⟨i, z⟩ => by
    obtain ⟨k, b1, b2, _⟩ := toSl_own ar z
    have e := R.dist j k a o b2
    subst e
    exact hn (List.mem_of_getElem? b1)
  have gnone : ∀ (j : Nat) (a : Addr), OwnAt env σ j a → Ar.s j ∉ as → G' a = none := fun j a o hn => by
    cases z : G' a with
    | none => rfl
    | some u =>
      rcases F.fresh a (by rw [z]; exact fun w => by cases w) with w | w | w
      · exact absurd (o.there R).2 w
      · exact absurd w (o.there R).1
      · exact absurd w (keepS j a o hn)
  have getB : ∀ (j : Nat) (s : Sl), (backD as outs env)[j]? = some s → ∃ s0, env[j]? = some s0 ∧ ((lookS j as outs = none ∧ s = s0) ∨ ∃ o, lookS j as outs = some o ∧ s = conv s0 o) := fun j s h => by
    unfold backD at h
    rw [List.getElem?_mapIdx] at h
    cases q : env[j]? with
    | none => rw [q] at h; cases h
    | some s0 =>
      rw [q] at h
      have h' : (match lookS j as outs with | some o => conv s0 o | none => s0) = s := by simpa using h
      refine ⟨s0, rfl, ?_⟩
      cases q2 : lookS j as outs with
      | none => rw [q2] at h'; exact .inl ⟨rfl, h'.symm⟩
      | some o => rw [q2] at h'; exact .inr ⟨o, rfl, h'.symm⟩
  have ownB : ∀ (j : Nat) (a : Addr), OwnAt (backD as outs env) σ j a → (OwnAt env σ j a ∧ Ar.s j ∉ as) ∨ ∃ k, as[k]? = some (.s j) ∧ OwnAt outs (vs.map some) k a := fun j a ⟨⟨s, e1, e2⟩, e3⟩ => by
    obtain ⟨s0, h0, h1 | ⟨o, h1, h2⟩⟩ := getB j s e1
    · obtain ⟨h1, h2⟩ := h1
      subst h2
      exact .inl ⟨⟨⟨_, h0, e2⟩, e3⟩, lookS_none hlo h1⟩
    · obtain ⟨k, b1, b2⟩ := lookS_some h1
      obtain ⟨v, hv, hs⟩ := ar.getS b1
      rw [e3] at hs
      cases hs
      have oo : o.own = true := by
        subst h2
        cases s0 <;> cases o <;> first | rfl | (cases e2)
      exact .inr ⟨k, b1, ⟨⟨o, b2, oo⟩, by rw [List.getElem?_map, hv]; rfl⟩⟩
  refine ⟨⟨R'.ex, by unfold backD; rw [List.length_mapIdx]; exact R.len, fun j s o e1 e2 => ?_, fun j k a x y => ?_⟩, ⟨F.gg, fun a o ha hn => F.keep a o ha fun z => hn (ownA a z), F.dom, fun a ha => ?_, fun a ⟨j, z⟩ => ?_, fun j xs hj => ?_⟩, fun a ⟨j, z⟩ => ?_⟩
  · obtain ⟨s0, h0, ⟨h1, h2⟩ | ⟨oo, h1, h2⟩⟩ := getB j s e1
    · subst h2
      have hn := lookS_none hlo h1
      have q := R.slot j _ o h0 e2
      have kp : ∀ (b : Addr) (u : HO), s.own = true → o = some (.ref b) → H b = some u → H' b = some u ∧ G' b = none := fun b u hs ho hb => by
        have ow : OwnAt env σ j b := ⟨⟨_, h0, hs⟩, by rw [e2, ho]⟩
        exact ⟨F.keep b u hb (keepS j b ow hn), gnone j b ow hn⟩
      cases s with
      | no => trivial
      | v d => obtain ⟨v, e, q⟩ := q; exact ⟨v, e, q.up F.gg⟩
      | l xs => obtain ⟨b, vs', e, q1, q2, q3⟩ := q; obtain ⟨z1, z2⟩ := kp b _ rfl e q1; exact ⟨b, vs', e, z1, z2, q3.up F.gg⟩
      | p xs => obtain ⟨b, vs', e, q1, q2, q3⟩ := q; obtain ⟨z1, z2⟩ := kp b _ rfl e q1; exact ⟨b, vs', e, z1, z2, q3.up F.gg⟩
      | m xs => obtain ⟨b, vs', e, q1, q2, q3⟩ := q; obtain ⟨z1, z2⟩ := kp b _ rfl e q1; exact ⟨b, vs', e, z1, z2, q3.up F.gg⟩
      | f x => exact q
      | a x _ _ => exact ⟨q.1, q.2.up F.gg⟩
    · obtain ⟨k, b1, b2⟩ := lookS_some h1
      obtain ⟨v, hv, hs⟩ := ar.getS b1
      have q := R'.slot k oo (some v) b2 (by rw [List.getElem?_map, hv]; rfl)
      rw [hs] at e2
      cases e2
      subst h2
      cases s0 <;> cases oo <;> first | trivial | exact q
  · rcases ownB j a x with ⟨x1, x2⟩ | ⟨i1, x1, x2⟩
    · rcases ownB k a y with ⟨y1, y2⟩ | ⟨i2, y1, y2⟩
      · exact R.dist j k a x1 y1
      · rcases F.own a ⟨i2, y2⟩ with w | w
        · exact absurd w (keepS j a x1 x2)
        · exact absurd w (x1.there R).1
    · rcases ownB k a y with ⟨y1, y2⟩ | ⟨i2, y1, y2⟩
      · rcases F.own a ⟨i1, x2⟩ with w | w
        · exact absurd w (keepS k a y1 y2)
        · exact absurd w (y1.there R).1
      · have e := R'.dist i1 i2 a x2 y2
        subst e
        rw [x1] at y1
        cases y1
        rfl
  · rcases F.fresh a ha with w | w | w
    · exact .inl w
    · exact .inr (.inl w)
    · exact .inr (.inr (ownA a w))
  · rcases ownB j a z with ⟨x1, _⟩ | ⟨i1, x1, x2⟩
    · exact .inl ⟨j, x1⟩
    · rcases F.own a ⟨i1, x2⟩ with w | w
      · exact .inl (ownA a w)
      · exact .inr w
  · obtain ⟨s0, h0, ⟨h1, h2⟩ | ⟨oo, h1, h2⟩⟩ := getB j _ hj
    · subst h2
      exact ⟨rfl, xs, h0⟩
    · cases s0 <;> cases oo <;> simp [conv] at h2 <;> exact ⟨rfl, _, h0⟩
  · rcases ownB j a z with ⟨x1, _⟩ | ⟨i1, x1, x2⟩
    · exact .inr ⟨j, x1⟩
    · exact .inl ⟨i1, x2⟩
end
section
variable {X : Cx} {W : WX} {pos p : Pos} {e : Expr} {es : List Expr} {da : DAr} {k : Nat} {f : Addr} {fd : FuncData} {ps : List Str} {F : Df} {x : Str}
theorem ar_np {K : PySem.W.Frag} {G : Hp} {σ : L2.St} {vs : List V} {as : List Ar} (ar : ArRel K G σ vs as) {np : Nat} (h : as.length = np) : vs.length = np := by rw [ar.length]; exact h
/-- f(e, ..): how many arguments come is told by the def's own rows -/
def eCallN (np : Nat) (F : Df) (da : DAr) : DE := fun env => (da env).bind fun as e1 => if as.length = np then (callD F as e1).rs else .stuck
def lCallN (np : Nat) (F : Df) (da : DAr) : DA := fun env => (da env).bind fun as e1 => if as.length = np then (callD F as e1).rl else .stuck
theorem ce_call (Fn : FnOk X.prog X.w X.K X.mg X.base (L2N.CX X.prog X.w) k f fd ps (spD X.K X.mg ps.length F)) (hr : Room k X.A) (hm : X.mg x = some (.ref f)) (hk : PySem.W.keepIn X.K (.ref f) = true) (hb : Binds X.K fd ps []) (tk : ∀ σ, PassesAt (L2N.CX X.prog X.w) X σ (WE W σ)) (ha : CR X W (e :: es) da) (hg : Gl X x := by rfl)
    (hdb : (x == ("__debug__" : Str)) = false := by decide) (he : starEach (e :: es) X.env = (false, eval e X.env) :: starEach es X.env := by rfl) (hpl : (backTo pos (starEach es X.env)).any (·.1) = false := by rfl) :
    CE X W (.Call (.Name x p) (e :: es) [] pos) (eCallN ps.length F da) := pe_imp (pe_callS Fn hr hg hm hk hb tk ha hdb he hpl) fun σ H Q h => by
  obtain ⟨env, G, R, h⟩ := h
  refine R_then R (P := fun e s G H r => RunE X.K X.mg W e s G H r Q) h (fun _ _ z => z) (fun z => z) (fun _ _ _ _ a b => a.shift b) fun as e1 vs G1 H1 _ R1 ar le F1 h1 => ?_
  by_cases cn : as.length = ps.length
  · rw [if_pos cn] at h1
    by_cases c : (slotsOf as).Nodup
    · have h2 : RunE X.K X.mg W e1 σ G1 H1 (Fo.rs (match F (as.map (toSl e1)) with
        | .ok d outs => .ok d (backD as outs e1)
        | .okl xs outs => .okl xs (backD as outs e1)
        | .ex x outs => .ex x (backD as outs e1)
        | .stuck => .stuck)) Q := by
        have h3 : RunE X.K X.mg W e1 σ G1 H1 (callD F as e1).rs Q := h1
        unfold callD at h3
        rw [if_pos c] at h3
        exact h3
      refine ⟨ar_np ar cn, as.map (toSl e1), G1, rel_args R1 ar c, ?_⟩
      cases q : F (as.map (toSl e1)) with
      | stuck => rw [q] at h2; exact h2
      | ok d outs =>
        rw [q] at h2
        exact fun v G' H' R' dv F' => let ⟨a, b, _⟩ := back_ok R1 ar c R' F'; h2 v G' H' a dv b
      | okl xs outs =>
        rw [q] at h2
        intro a vs' G' H' R' h3 h4 h5 h6 dv F'
        obtain ⟨r, b, o⟩ := back_ok R1 ar c R' F'
        have na : ¬ Own (backD as outs e1) σ a := fun z => by
          rcases o a z with z | z
          · exact h6 z
          · exact (z.there R1).1 h5
        have hl : RunL X.K X.mg W e1 σ G1 H1 (Rs.ok xs (backD as outs e1)) Q := RunL.of h2
        exact hl a vs' G' H' r h3 h4 h5 na dv b
      | ex x outs =>
        rw [q] at h2
        exact fun cls dd G' H' xr R' F' => let ⟨a, b, _⟩ := back_ok R1 ar c R' F'; h2 cls dd G' H' xr a b
    · have h3 : RunE X.K X.mg W e1 σ G1 H1 (callD F as e1).rs Q := h1
      unfold callD at h3
      rw [if_neg c] at h3
      exact h3.elim
  · rw [if_neg cn] at h1
    exact h1.elim
theorem cl_call (Fn : FnOk X.prog X.w X.K X.mg X.base (L2N.CX X.prog X.w) k f fd ps (spD X.K X.mg ps.length F)) (hr : Room k X.A) (hm : X.mg x = some (.ref f)) (hk : PySem.W.keepIn X.K (.ref f) = true) (hb : Binds X.K fd ps []) (tk : ∀ σ, PassesAt (L2N.CX X.prog X.w) X σ (WE W σ)) (ha : CR X W (e :: es) da) (hg : Gl X x := by rfl)
    (hdb : (x == ("__debug__" : Str)) = false := by decide) (he : starEach (e :: es) X.env = (false, eval e X.env) :: starEach es X.env := by rfl) (hpl : (backTo pos (starEach es X.env)).any (·.1) = false := by rfl) :
    CL X W (.Call (.Name x p) (e :: es) [] pos) (lCallN ps.length F da) := pe_imp (pe_callS Fn hr hg hm hk hb tk ha hdb he hpl) fun σ H Q h => by
  obtain ⟨env, G, R, h⟩ := h
  refine R_then R (P := fun e s G H r => RunL X.K X.mg W e s G H r Q) h (fun _ _ z => z) (fun z => z) (fun _ _ _ _ a b => a.shift b) fun as e1 vs G1 H1 _ R1 ar le F1 h1 => ?_
  by_cases cn : as.length = ps.length
  · rw [if_pos cn] at h1
    by_cases c : (slotsOf as).Nodup
    · have h2 : RunL X.K X.mg W e1 σ G1 H1 (Fo.rl (match F (as.map (toSl e1)) with
        | .ok d outs => .ok d (backD as outs e1)
        | .okl xs outs => .okl xs (backD as outs e1)
        | .ex x outs => .ex x (backD as outs e1)
        | .stuck => .stuck)) Q := by
        have h3 : RunL X.K X.mg W e1 σ G1 H1 (callD F as e1).rl Q := h1
        unfold callD at h3
        rw [if_pos c] at h3
        exact h3
      refine ⟨ar_np ar cn, as.map (toSl e1), G1, rel_args R1 ar c, ?_⟩
      cases q : F (as.map (toSl e1)) with
      | stuck => rw [q] at h2; exact h2
      | ok d outs => rw [q] at h2; exact h2.elim
      | okl xs outs =>
        rw [q] at h2
        intro a vs' G' H' R' h3 h4 h5 h6 dv F'
        obtain ⟨r, b, o⟩ := back_ok R1 ar c R' F'
        exact h2 a vs' G' H' r h3 h4 h5 (fun z => by
          rcases o a z with z | z
          · exact h6 z
          · exact (z.there R1).1 h5) dv b
      | ex x outs =>
        rw [q] at h2
        exact fun cls dd G' H' xr R' F' => let ⟨a, b, _⟩ := back_ok R1 ar c R' F'; h2 cls dd G' H' xr a b
    · have h3 : RunL X.K X.mg W e1 σ G1 H1 (callD F as e1).rl Q := h1
      unfold callD at h3
      rw [if_neg c] at h3
      exact h3.elim
  · rw [if_neg cn] at h1
    exact h1.elim
end
end DL
/- part DL6 -/
set_option Elab.async false
set_option linter.all false
set_option maxRecDepth 100000
set_option autoImplicit false
/-! DL6: operations on data. -/
namespace DL
open PySem L2
/-- below this all lengths stay -/
abbrev LIM : Nat := 100000
theorem lim_size {n : Nat} (h : n ≤ 100000) : n ≤ sizeLine := Nat.le_trans h (by decide)
/-! ### ints -/
def dAdd : D → D → Option D
  | .int i, .int j => some (.int (i + j))
  | .str x, .str y => if x.length + y.length ≤ 100000 then some (.str (x ++ y)) else none
  | .tuple xs, .tuple ys => if xs.length + ys.length ≤ 100000 then some (.tuple (xs ++ ys)) else none
  | _, _ => none
def dSub : D → D → Option D
  | .int i, .int j => some (.int (i - j))
  | _, _ => none
/-- one factor small, or both of a size that is told -/
def mulOk (i j : Int) : Bool := (decide (-(2 ^ 64) < i) && decide (i < 2 ^ 64)) || (decide (-(2 ^ 64) < j) && decide (j < 2 ^ 64)) || (decide (i.natAbs < 2 ^ 4000) && decide (j.natAbs < 2 ^ 4000))
def dMul : D → D → Option D
  | .int i, .int j => if mulOk i j then some (.int (i * j)) else none
  | _, _ => none
def divOk (j : Int) : Bool := decide (0 < j) && decide (j.natAbs < 2 ^ 4000)
def powOk (i j : Int) : Bool := decide (0 ≤ j) && decide (j ≤ 1000000) && decide (i.natAbs < 2 ^ 64)
def dFdiv : D → D → Option D
  | .int i, .int j => if divOk j = true then some (.int (i / j)) else none
  | _, _ => none
def dMod : D → D → Option D
  | .int i, .int j => if 0 < j then some (.int (i % j)) else none
  | _, _ => none
def dPow : D → D → Option D
  | .int i, .int j => if powOk i j = true then some (.int (i ^ j.toNat)) else none
  | _, _ => none
def dLt : D → D → Option D
  | .int i, .int j => some (.bool (decide (i < j)))
  | _, _ => none
def dLe : D → D → Option D
  | .int i, .int j => some (.bool (decide (i ≤ j)))
  | _, _ => none
def dGt : D → D → Option D
  | .int i, .int j => some (.bool (decide (j < i)))
  | _, _ => none
def dGe : D → D → Option D
  | .int i, .int j => some (.bool (decide (j ≤ i)))
  | _, _ => none
def dEq (a b : D) : Option D := if SeqAt.shaped a = true ∧ SeqAt.shaped b = true then some (.bool (PyData.eqv a b)) else none
def dNe (a b : D) : Option D := if SeqAt.shaped a = true ∧ SeqAt.shaped b = true then some (.bool (!PyData.eqv a b)) else none
def isNone : D → Bool
  | .none => true
  | _ => false
def dIs (a b : D) : Option D := match b with
  | .none => some (.bool (isNone a))
  | .bool y => match a with
    | .bool x => some (.bool (decide (x = y)))
    | _ => none
  | _ => none
def dIsnt (a b : D) : Option D := match b with
  | .none => some (.bool (!isNone a))
  | .bool y => match a with
    | .bool x => some (.bool (!decide (x = y)))
    | _ => none
  | _ => none
def flatD : D → Bool
  | .none => true
  | .bool _ => true
  | .int _ => true
  | .str _ => true
  | _ => false
def seqOf : D → Option (List D)
  | .list xs => some xs
  | .tuple xs => some xs
  | _ => none
/-- x in a list or tuple of flat things -/
def dIn (x s : D) : Option D := match seqOf s with
  | some xs => if flatD x && xs.all flatD then some (.bool (xs.any fun z => PyData.eqv z x)) else none
  | none => none
def dNotIn (x s : D) : Option D := match seqOf s with
  | some xs => if flatD x && xs.all flatD then some (.bool (!xs.any fun z => PyData.eqv z x)) else none
  | none => none
def dIx (s i : D) : Option D := match s, i with
  | .list xs, .int k => atI xs k
  | .tuple xs, .int k => atI xs k
  | .str z, .int k => if z.length ≤ 100000 then (atI z.cps.toList k).map fun c => .str ⟨#[c]⟩ else none
  | _, _ => none
section
variable {X : Cx} {K : PySem.W.Frag}
/-- an operation that makes nothing -/
theorem opd_pure {r : R2} {f : D → D → Option D} (h : ∀ x y d e z G H Q, Dv K G x d → Dv K G y e → Ex G H → f d e = some z → (∀ v, Dv K G v z → Q v H) → r x y H Q) : OpD K r f :=
  fun x y d e z G H Q hx hy ex hf k => h x y d e z G H Q hx hy ex hf fun v dv => k v G H dv (Grow.refl ex)
theorem od_I0 {g : Int → Int → V} {f : D → D → Option D} {gd : Int → Int → D} (hg : ∀ G i j, Dv K G (g i j) (gd i j)) (hf : ∀ d e z, f d e = some z → ∃ i j, d = .int i ∧ e = .int j ∧ z = gd i j) : OpD K (rI0 g) f := opd_pure fun x y d e z G H Q hx hy ex h k => by
  obtain ⟨i, j, rfl, rfl, rfl⟩ := hf d e z h
  cases hx
  cases hy
  exact ⟨i, j, rfl, rfl, k _ (hg G i j)⟩
theorem od_I {C : Int → Int → Prop} {g : Int → Int → V} {f : D → D → Option D} {gd : Int → Int → D} (hg : ∀ G i j, Dv K G (g i j) (gd i j)) (hf : ∀ d e z, f d e = some z → ∃ i j, d = .int i ∧ e = .int j ∧ C i j ∧ z = gd i j) : OpD K (rI C g) f := opd_pure fun x y d e z G H Q hx hy ex h k => by
  obtain ⟨i, j, rfl, rfl, c, rfl⟩ := hf d e z h
  cases hx
  cases hy
  exact ⟨i, j, rfl, rfl, c, k _ (hg G i j)⟩
theorem od_sub : OpD K (rI0 fun i j => .int (i - j)) dSub := od_I0 (gd := fun i j => .int (i - j)) (fun _ _ _ => .int _) fun d e z h => by
  cases d <;> cases e <;> simp [dSub] at h <;> exact ⟨_, _, rfl, rfl, h.symm⟩
theorem od_lt : OpD K (rI0 fun i j => .bl (decide (i < j))) dLt := od_I0 (gd := fun i j => .bool (decide (i < j))) (fun _ _ _ => .bl _) fun d e z h => by
  cases d <;> cases e <;> simp [dLt] at h <;> exact ⟨_, _, rfl, rfl, h.symm⟩
theorem od_le : OpD K (rI0 fun i j => .bl (decide (i ≤ j))) dLe := od_I0 (gd := fun i j => .bool (decide (i ≤ j))) (fun _ _ _ => .bl _) fun d e z h => by
  cases d <;> cases e <;> simp [dLe] at h <;> exact ⟨_, _, rfl, rfl, h.symm⟩
theorem od_gt : OpD K (rI0 fun i j => .bl (decide (j < i))) dGt := od_I0 (gd := fun i j => .bool (decide (j < i))) (fun _ _ _ => .bl _) fun d e z h => by
  cases d <;> cases e <;> simp [dGt] at h <;> exact ⟨_, _, rfl, rfl, h.symm⟩
theorem od_ge : OpD K (rI0 fun i j => .bl (decide (j ≤ i))) dGe := od_I0 (gd := fun i j => .bool (decide (j ≤ i))) (fun _ _ _ => .bl _) fun d e z h => by
  cases d <;> cases e <;> simp [dGe] at h <;> exact ⟨_, _, rfl, rfl, h.symm⟩
theorem mulOk_wide {i j : Int} (h : mulOk i j = true) : CMulW i j ∨ CMul i j := by
  unfold mulOk at h
  simp only [Bool.or_eq_true, Bool.and_eq_true, decide_eq_true_eq] at h
  rcases h with (h | h) | h
  · exact .inr (.inl h)
  · exact .inr (.inr h)
  · exact .inl (wide_mul h.1 h.2 (by decide) (by decide) (by decide))
def rMulA : R2 := fun x y H Q => rI CMulW (fun i j => .int (i * j)) x y H Q ∨ rI CMul (fun i j => .int (i * j)) x y H Q
theorem op_mulA : OpR X (binaryOp .Mult) rMulA := op_mulW.or op_mul
theorem od_mul : OpD K rMulA dMul := opd_pure fun x y d e z G H Q hx hy ex h k => by
  cases d <;> cases e <;> first | (simp [dMul] at h; done) | skip
  rename_i i j
  have h' : (if mulOk i j = true then some (PyData.int (i * j)) else none) = some z := h
  by_cases c : mulOk i j = true
  · rw [if_pos c] at h'
    cases h'
    cases hx
    cases hy
    rcases mulOk_wide c with w | w
    · exact .inl ⟨i, j, rfl, rfl, w, k _ (.int _)⟩
    · exact .inr ⟨i, j, rfl, rfl, w, k _ (.int _)⟩
  · rw [if_neg c] at h'
    cases h'
theorem od_fdiv : OpD K (rI CDivW fun i j => .int (i / j)) dFdiv := od_I (gd := fun i j => .int (i / j)) (fun _ _ _ => .int _) fun d e z h => by
  cases d <;> cases e <;> first | (simp [dFdiv] at h; done) | skip
  rename_i i j
  have h' : (if divOk j = true then some (PyData.int (i / j)) else none) = some z := h
  by_cases c : divOk j = true
  · rw [if_pos c] at h'
    cases h'
    unfold divOk at c
    simp only [Bool.and_eq_true, decide_eq_true_eq] at c
    exact ⟨i, j, rfl, rfl, wide_div c.1 c.2 (by decide) (by decide), rfl⟩
  · rw [if_neg c] at h'
    cases h'
theorem od_mod : OpD K (rI (fun _ j => 0 < j) fun i j => .int (i % j)) dMod := od_I (gd := fun i j => .int (i % j)) (fun _ _ _ => .int _) fun d e z h => by
  cases d <;> cases e <;> first | (simp [dMod] at h; done) | skip
  rename_i i j
  have h' : (if 0 < j then some (PyData.int (i % j)) else none) = some z := h
  by_cases c : 0 < j
  · rw [if_pos c] at h'
    cases h'
    exact ⟨i, j, rfl, rfl, c, rfl⟩
  · rw [if_neg c] at h'
    cases h'
theorem od_pow : OpD K (rI CPow fun i j => .int (i ^ j.toNat)) dPow := od_I (gd := fun i j => .int (i ^ j.toNat)) (fun _ _ _ => .int _) fun d e z h => by
  cases d <;> cases e <;> first | (simp [dPow] at h; done) | skip
  rename_i i j
  have h' : (if powOk i j = true then some (PyData.int (i ^ j.toNat)) else none) = some z := h
  by_cases c : powOk i j = true
  · rw [if_pos c] at h'
    cases h'
    unfold powOk at c
    simp only [Bool.and_eq_true, decide_eq_true_eq] at c
    exact ⟨i, j, rfl, rfl, ⟨c.1.1, c.1.2, c.2⟩, rfl⟩
  · rw [if_neg c] at h'
    cases h'
/-! ### + -/
def rAddStr : R2 := fun x y H Q => ∃ i j, x = .str i ∧ y = .str j ∧ i.length + j.length ≤ sizeLine ∧ Q (.str (i ++ j)) H
def rAddA (K : PySem.W.Frag) : R2 := fun x y H Q => rI0 (fun i j => .int (i + j)) x y H Q ∨ rAddStr x y H Q ∨ rCatF K x y H Q
theorem op_addA : OpR X (binaryOp .Add) (rAddA X.K) := op_add.or (OpR.or op_add_str op_catF)
theorem od_add : OpD K (rAddA K) dAdd := fun x y d e z G H Q hx hy ex h k => by
  cases d <;> cases e <;> first | (simp [dAdd] at h; done) | skip
  · rename_i i j
    cases h
    cases hx
    cases hy
    exact .inl ⟨i, j, rfl, rfl, k _ G H (.int _) (Grow.refl ex)⟩
  · rename_i i j
    have h' : (if i.length + j.length ≤ 100000 then some (PyData.str (i ++ j)) else none) = some z := h
    by_cases c : i.length + j.length ≤ 100000
    · rw [if_pos c] at h'
      cases h'
      cases hx
      cases hy
      exact .inr (.inl ⟨i, j, rfl, rfl, lim_size c, k _ G H (.str _) (Grow.refl ex)⟩)
    · rw [if_neg c] at h'
      cases h'
  · rename_i xs ys
    have h' : (if xs.length + ys.length ≤ 100000 then some (PyData.tuple (xs ++ ys)) else none) = some z := h
    by_cases c : xs.length + ys.length ≤ 100000
    · rw [if_pos c] at h'
      cases h'
      cases hx with
      | @tup a vs _ h1 h2 =>
        cases hy with
        | @tup b ws _ h3 h4 =>
          refine .inr (.inr ⟨a, b, vs, ws, rfl, rfl, (ex.n h1).t, (ex.n h3).t, by rw [h2.length, h4.length]; exact lim_size c, fun e => ?_, fun _ e => ?_, fun _ _ p o hp hd => ?_⟩)
          · subst e
            cases h2
            exact k _ G H (.tup h3 h4) (Grow.refl ex)
          · subst e
            cases h4
            rw [List.append_nil] at k
            exact k _ G H (.tup h1 h2) (Grow.refl ex)
          · have g : Grow G H (upd G p (.frz o (.tup (vs ++ ws)))) (upd H p (.frz o (.tup (vs ++ ws)))) := Grow.one ex hp
            exact k _ _ _ (.tup (.inl ⟨o, upd_same, hd⟩) ((h2.append h4).up g.gg)) g
    · rw [if_neg c] at h'
      cases h'
/-! ### ==, is, in -/
theorem od_eq : OpD K (rEqD K) dEq := opd_pure fun x y d e z G H Q hx hy ex h k => by
  unfold dEq at h
  by_cases c : SeqAt.shaped d = true ∧ SeqAt.shaped e = true
  · rw [if_pos c] at h
    cases h
    exact ⟨d, e, Dv.dp ex d x (SeqAt.canLay_of_shaped c.1) hx, Dv.dp ex e y (SeqAt.canLay_of_shaped c.2) hy, c.1, c.2, k _ (.bl _)⟩
  · rw [if_neg c] at h
    cases h
theorem od_ne : OpD K (rNeD K) dNe := opd_pure fun x y d e z G H Q hx hy ex h k => by
  unfold dNe at h
  by_cases c : SeqAt.shaped d = true ∧ SeqAt.shaped e = true
  · rw [if_pos c] at h
    cases h
    exact ⟨d, e, Dv.dp ex d x (SeqAt.canLay_of_shaped c.1) hx, Dv.dp ex e y (SeqAt.canLay_of_shaped c.2) hy, c.1, c.2, k _ (.bl _)⟩
  · rw [if_neg c] at h
    cases h
theorem dv_none {G : Hp} {x : V} {d : D} (h : Dv K G x d) : decide (x = .non) = isNone d := by
  cases h <;> rfl
def rIsA : R2 := fun x y H Q => (y = .non ∧ Q (.bl (decide (x = .non))) H) ∨ rIsB x y H Q
def rIsntA : R2 := fun x y H Q => (y = .non ∧ Q (.bl (!decide (x = .non))) H) ∨ rNotB x y H Q
theorem op_isA : OpR X (compareOp .Is) rIsA := op_isN.or op_isBl
theorem op_isntA : OpR X (compareOp .IsNot) rIsntA := op_notN.or op_notBl
theorem od_is : OpD K rIsA dIs := opd_pure fun x y d e z G H Q hx hy ex h k => by
  have e0 := dv_none hx
  cases e with
  | none =>
    cases hy
    cases h
    exact .inl ⟨rfl, by rw [e0]; exact k _ (.bl _)⟩
  | bool b =>
    cases d <;> simp [dIs] at h
    subst h
    cases hx
    cases hy
    exact .inr ⟨_, _, rfl, rfl, k _ (.bl _)⟩
  | int i => cases h
  | str i => cases h
  | list i => cases h
  | tuple i => cases h
  | dict i => cases h
theorem od_isnt : OpD K rIsntA dIsnt := opd_pure fun x y d e z G H Q hx hy ex h k => by
  have e0 := dv_none hx
  cases e with
  | none =>
    cases hy
    cases h
    exact .inl ⟨rfl, by rw [e0]; exact k _ (.bl _)⟩
  | bool b =>
    cases d <;> simp [dIsnt] at h
    subst h
    cases hx
    cases hy
    exact .inr ⟨_, _, rfl, rfl, k _ (.bl _)⟩
  | int i => cases h
  | str i => cases h
  | list i => cases h
  | tuple i => cases h
  | dict i => cases h
theorem dv_flat {G : Hp} {x : V} {d : D} (h : Dv K G x d) : flatV x = flatD d := by
  cases h <;> rfl
theorem dv_flats {G : Hp} : ∀ {xs : List V} {ds : List D}, DvAll K G xs ds → xs.all flatV = ds.all flatD
  | _, _, .nil => rfl
  | _, _, .cons a b => by rw [List.all_cons, List.all_cons, dv_flat a, dv_flats b]
theorem eqv_flat {G : Hp} {x y : V} {d e : D} (hx : Dv K G x d) (hy : Dv K G y e) (fx : flatD d = true) (fy : flatD e = true) : eqV x y = PyData.eqv d e := by
  cases hx <;> first | cases fx | skip
  all_goals (cases hy <;> first | cases fy | skip)
  all_goals first | rfl | simp [eqV, PyData.eqv]
theorem any_flat {G : Hp} {x : V} {d : D} (hx : Dv K G x d) (fx : flatD d = true) : ∀ {xs : List V} {ds : List D}, DvAll K G xs ds → ds.all flatD = true → inV x xs = ds.any fun z => PyData.eqv z d
  | _, _, .nil, _ => rfl
  | _, _, .cons a b, f => by
    rw [List.all_cons, Bool.and_eq_true] at f
    have ih := any_flat hx fx b f.2
    unfold inV at ih ⊢
    rw [List.any_cons, List.any_cons, ih, eqv_flat a hx f.1 fx]
theorem seqOf_dv {G H : Hp} (ex : Ex G H) {y : V} {s : D} {ds : List D} (h : Dv K G y s) (e : seqOf s = some ds) : ∃ p xs, y = .ref p ∧ (SqL K H p xs ∨ SqT K H p xs) ∧ DvAll K G xs ds := by
  cases h with
  | lst a b => cases e; exact ⟨_, _, rfl, .inl (ex.rl a).sq, b⟩
  | tup a b => cases e; exact ⟨_, _, rfl, .inr (ex.n a).t, b⟩
  | non => cases e
  | bl _ => cases e
  | int _ => cases e
  | str _ => cases e
  | dct _ _ => cases e
theorem od_in : OpD K (rIn K false) dIn := opd_pure fun x y d e z G H Q hx hy ex h k => by
  unfold dIn at h
  cases q : seqOf e with
  | none => rw [q] at h; cases h
  | some ds =>
    rw [q] at h
    obtain ⟨p, xs, rfl, sq, dv⟩ := seqOf_dv ex hy q
    have h' : (if (flatD d && ds.all flatD) = true then some (PyData.bool (ds.any fun z => PyData.eqv z d)) else none) = some z := h
    by_cases c : (flatD d && ds.all flatD) = true
    · rw [if_pos c] at h'
      cases h'
      rw [Bool.and_eq_true] at c
      refine ⟨p, xs, rfl, sq, by rw [dv_flat hx]; exact c.1, by rw [dv_flats dv]; exact c.2, ?_⟩
      show Q (.bl (inV x xs)) H
      rw [any_flat hx c.1 dv c.2]
      exact k _ (.bl _)
    · rw [if_neg c] at h'
      cases h'
theorem od_notIn : OpD K (rIn K true) dNotIn := opd_pure fun x y d e z G H Q hx hy ex h k => by
  unfold dNotIn at h
  cases q : seqOf e with
  | none => rw [q] at h; cases h
  | some ds =>
    rw [q] at h
    obtain ⟨p, xs, rfl, sq, dv⟩ := seqOf_dv ex hy q
    have h' : (if (flatD d && ds.all flatD) = true then some (PyData.bool (!ds.any fun z => PyData.eqv z d)) else none) = some z := h
    by_cases c : (flatD d && ds.all flatD) = true
    · rw [if_pos c] at h'
      cases h'
      rw [Bool.and_eq_true] at c
      refine ⟨p, xs, rfl, sq, by rw [dv_flat hx]; exact c.1, by rw [dv_flats dv]; exact c.2, ?_⟩
      show Q (.bl (!inV x xs)) H
      rw [any_flat hx c.1 dv c.2]
      exact k _ (.bl _)
    · rw [if_neg c] at h'
      cases h'
theorem atI_dv {G : Hp} {xs : List V} {ds : List D} {i : Int} {z : D} (dv : DvAll K G xs ds) (h : atI ds i = some z) : ∃ v, atI xs i = some v ∧ Dv K G v z := by
  unfold atI at h ⊢
  rw [dv.length]
  cases q : ixN ds.length i with
  | none => rw [q] at h; cases h
  | some j =>
    rw [q] at h
    exact dv.get h
theorem od_ix : OpD K (rIx K) dIx := opd_pure fun x y d e z G H Q hx hy ex h k => by
  cases d <;> cases e <;> first | (simp [dIx] at h; done) | skip
  · rename_i s i
    have h' : (if s.length ≤ 100000 then (atI s.cps.toList i).map (fun c => PyData.str ⟨#[c]⟩) else none) = some z := h
    by_cases c : s.length ≤ 100000
    · rw [if_pos c] at h'
      cases q : atI s.cps.toList i with
      | none => rw [q] at h'; cases h'
      | some ch =>
        rw [q] at h'
        cases h'
        cases hx
        cases hy
        exact .inr (.inr ⟨s, i, ch, rfl, rfl, lim_size c, q, k _ (.str _)⟩)
    · rw [if_neg c] at h'
      cases h'
  · rename_i ds i
    cases hx with
    | @lst a xs _ h1 h2 =>
      cases hy
      obtain ⟨v, hv, dv⟩ := atI_dv h2 h
      exact .inl ⟨a, xs, i, v, rfl, rfl, (ex.rl h1).sq, hv, k v dv⟩
  · rename_i ds i
    cases hx with
    | @tup a xs _ h1 h2 =>
      cases hy
      obtain ⟨v, hv, dv⟩ := atI_dv h2 h
      exact .inr (.inl ⟨a, xs, i, v, rfl, rfl, (ex.n h1).t, hv, k v dv⟩)
/-! ### built-ins -/
def fLen : List D → Option D
  | [.list xs] => some (.int xs.length)
  | [.tuple xs] => some (.int xs.length)
  | [.str x] => if x.length ≤ 100000 then some (.int x.length) else none
  | _ => none
def rLenA (K : PySem.W.Frag) : List V → Hp → VK → Prop := fun xs H Q => (∃ p ys, xs = [.ref p] ∧ (SqL K H p ys ∨ SqT K H p ys) ∧ Q (.int ys.length) H) ∨ (∃ z, xs = [.str z] ∧ z.length ≤ sizeLine ∧ Q (.int z.length) H)
theorem cr_lenA : CallR X (.builtin "len") (rLenA X.K) := call_len_seq.or call_len_str
theorem cd_len : CbD K (rLenA K) fLen := fun xs ds z G H Q hx ex hf k => by
  match ds, hx, hf with
  | [.list ys], .cons (.lst a b) .nil, hf => cases hf; exact .inl ⟨_, _, rfl, .inl (ex.rl a).sq, by rw [b.length]; exact k _ G H (.int _) (Grow.refl ex)⟩
  | [.tuple ys], .cons (.tup a b) .nil, hf => cases hf; exact .inl ⟨_, _, rfl, .inr (ex.n a).t, by rw [b.length]; exact k _ G H (.int _) (Grow.refl ex)⟩
  | [.str s], .cons (.str _) .nil, hf =>
    have h' : (if s.length ≤ 100000 then some (PyData.int s.length) else none) = some z := hf
    by_cases c : s.length ≤ 100000
    · rw [if_pos c] at h'
      cases h'
      exact .inr ⟨s, rfl, lim_size c, k _ G H (.int _) (Grow.refl ex)⟩
    · rw [if_neg c] at h'; cases h'
def fMin : List D → Option D
  | [.int i, .int j] => some (.int (if j < i then j else i))
  | _ => none
def fMax : List D → Option D
  | [.int i, .int j] => some (.int (if j > i then j else i))
  | _ => none
theorem cd_min : CbD K (fun xs H Q => ∃ i j, xs = [.int i, .int j] ∧ Q (.int (if j < i then j else i)) H) fMin := fun xs ds z G H Q hx ex hf k => by
  match ds, hx, hf with
  | [.int i, .int j], .cons (.int _) (.cons (.int _) .nil), hf => cases hf; exact ⟨i, j, rfl, k _ G H (.int _) (Grow.refl ex)⟩
theorem cd_max : CbD K (fun xs H Q => ∃ i j, xs = [.int i, .int j] ∧ Q (.int (if j > i then j else i)) H) fMax := fun xs ds z G H Q hx ex hf k => by
  match ds, hx, hf with
  | [.int i, .int j], .cons (.int _) (.cons (.int _) .nil), hf => cases hf; exact ⟨i, j, rfl, k _ G H (.int _) (Grow.refl ex)⟩
/-- int(x) of an int or a truth -/
def fInt : List D → Option D
  | [.int i] => some (.int i)
  | [.bool b] => some (.int (if b then 1 else 0))
  | _ => none
theorem cd_int : CbD K (fun xs H Q => (∃ i, xs = [.int i] ∧ Q (.int i) H) ∨ ∃ k, xs = [.bl k] ∧ Q (.int (if k then 1 else 0)) H) fInt := fun xs ds z G H Q hx ex hf k => by
  match ds, hx, hf with
  | [.int i], .cons (.int _) .nil, hf => cases hf; exact .inl ⟨i, rfl, k _ G H (.int _) (Grow.refl ex)⟩
  | [.bool i], .cons (.bl _) .nil, hf => cases hf; exact .inr ⟨i, rfl, k _ G H (.int _) (Grow.refl ex)⟩
def bools : List D → Option (List Bool)
  | [] => some []
  | .bool b :: ds => (bools ds).map (b :: ·)
  | _ :: _ => none
theorem bools_dv {G : Hp} : ∀ {xs : List V} {ds : List D} {bs : List Bool}, DvAll K G xs ds → bools ds = some bs → xs = bs.map V.bl
  | _, [], _, .nil, h => by cases h; rfl
  | _, .bool b :: ds, bs, .cons (.bl _) t, h => by
    have h' : (bools ds).map (b :: ·) = some bs := h
    cases q : bools ds with
    | none => rw [q] at h'; cases h'
    | some cs =>
      rw [q] at h'
      cases h'
      rw [bools_dv t q]; rfl
  | _, .none :: ds, _, _, h => by cases h
  | _, .int _ :: ds, _, _, h => by cases h
  | _, .str _ :: ds, _, _, h => by cases h
  | _, .list _ :: ds, _, _, h => by cases h
  | _, .tuple _ :: ds, _, _, h => by cases h
  | _, .dict _ :: ds, _, _, h => by cases h
def fAll : List D → Option D
  | [.list ds] => (bools ds).map fun bs => .bool (bs.all id)
  | _ => none
theorem cd_all : CbD K (rAll K) fAll := fun xs ds z G H Q hx ex hf k => by
  match ds, hx, hf with
  | [.list ys], .cons (.lst a b) .nil, hf =>
    have h' : (bools ys).map (fun bs => PyData.bool (bs.all id)) = some z := hf
    cases q : bools ys with
    | none => rw [q] at h'; cases h'
    | some bs =>
      rw [q] at h'
      cases h'
      have e := bools_dv b q
      subst e
      exact ⟨_, bs, rfl, (ex.rl a).sq, k _ G H (.bl _) (Grow.refl ex)⟩
/-- list(x), tuple(x) -/
def fList : List D → Option (List D)
  | [.list xs] => some xs
  | [.tuple xs] => some xs
  | _ => none
theorem cd_list : ClD K (fun xs H Q => ∃ p ys, xs = [.ref p] ∧ (SqL K H p ys ∨ SqT K H p ys) ∧ ∀ l, H l = none → Q (.ref l) (upd H l (.lst ys))) fList := fun xs ds zs G H Q hx ex hf k => by
  match ds, hx, hf with
  | [.list ys], .cons (.lst a b) .nil, hf => cases hf; exact ⟨_, _, rfl, .inl (ex.rl a).sq, fun l hl => k l _ hl b⟩
  | [.tuple ys], .cons (.tup a b) .nil, hf => cases hf; exact ⟨_, _, rfl, .inr (ex.n a).t, fun l hl => k l _ hl b⟩
def fTup : List D → Option D
  | [.list xs] => some (.tuple xs)
  | [.tuple xs] => some (.tuple xs)
  | _ => none
theorem cd_tup : CbD K (fun xs H Q => ∃ p ys, xs = [.ref p] ∧ ((SqL K H p ys ∧ ∀ (l : Addr) (o : Obj), H l = none → o.dict = none → Q (.ref l) (upd H l (.frz o (.tup ys)))) ∨ (SqT K H p ys ∧ Q (.ref p) H))) fTup := fun xs ds z G H Q hx ex hf k => by
  match ds, hx, hf with
  | [.list ys], .cons (.lst a b) .nil, hf =>
    cases hf
    refine ⟨_, _, rfl, .inl ⟨(ex.rl a).sq, fun l o hl hd => ?_⟩⟩
    rename_i vs
    have g : Grow G H (upd G l (.frz o (.tup vs))) (upd H l (.frz o (.tup vs))) := Grow.one ex hl
    exact k _ _ _ (.tup (.inl ⟨o, upd_same, hd⟩) (b.up g.gg)) g
  | [.tuple ys], .cons (.tup a b) .nil, hf => cases hf; exact ⟨_, _, rfl, .inr ⟨(ex.n a).t, k _ G H (.tup a b) (Grow.refl ex)⟩⟩
end
end DL
/- part DL7 -/
set_option Elab.async false
set_option linter.all false
set_option maxRecDepth 100000
set_option autoImplicit false
/-! DL7: lists changed in place; slices, isinstance, chains, constants. -/
namespace DL
open PySem L2
def getL (i : Nat) (env : DEnv) : Option (List D) := match env[i]? with
  | some (.l xs) => some xs
  | some (.p xs) => some xs
  | _ => none
def putL (i : Nat) (xs : List D) (env : DEnv) : DEnv := match env[i]? with
  | some (.l _) => env.set i (.l xs)
  | some (.p _) => env.set i (.p xs)
  | _ => env
section
variable {K : PySem.W.Frag} {mg : Str → Option Value} {W : WX} {env : DEnv} {σ : L2.St} {G H : Hp} {i : Nat} {xs : List D}
theorem getL_some (h : getL i env = some xs) : env[i]? = some (.l xs) ∨ env[i]? = some (.p xs) := by
  unfold getL at h
  cases q : env[i]? with
  | none => rw [q] at h; cases h
  | some s =>
    rw [q] at h
    cases s with
    | l ys => cases h; exact .inl rfl
    | p ys => cases h; exact .inr rfl
    | no => cases h
    | v d => cases h
    | m d => cases h
    | f d => cases h
    | a d _ _ => cases h
theorem own_get (R : Rel K env σ G H) (h : getL i env = some xs) : ∃ a vs, σ[i]? = some (some (.ref a)) ∧ H a = some (.lst vs) ∧ G a = none ∧ DvAll K G vs xs ∧ OwnAt env σ i a := by
  rcases getL_some h with q | q
  · have li : i < σ.length := by rw [← R.len]; exact (List.getElem?_eq_some_iff.mp q).1
    have ho : σ[i]? = some σ[i] := List.getElem?_eq_getElem li
    obtain ⟨a, vs, e, h1, h2, h3⟩ := R.slot i _ _ q ho
    rw [e] at ho
    exact ⟨a, vs, ho, h1, h2, h3, ⟨_, q, rfl⟩, ho⟩
  · have li : i < σ.length := by rw [← R.len]; exact (List.getElem?_eq_some_iff.mp q).1
    have ho : σ[i]? = some σ[i] := List.getElem?_eq_getElem li
    obtain ⟨a, vs, e, h1, h2, h3⟩ := R.slot i _ _ q ho
    rw [e] at ho
    exact ⟨a, vs, ho, h1, h2, h3, ⟨_, q, rfl⟩, ho⟩
def reL (o : Option Sl) (ys : List D) : Sl := match o with
  | some (.l _) => .l ys
  | _ => .p ys
theorem putL_get (h : getL i env = some xs) (ys : List D) (j : Nat) : (putL i ys env)[j]? = if j = i then some (reL (env[i]?) ys) else env[j]? := by
  unfold putL
  rcases getL_some h with q | q
  · have li : i < env.length := (List.getElem?_eq_some_iff.mp q).1
    rw [q]
    by_cases c : j = i
    · subst c
      rw [if_pos rfl]
      exact List.getElem?_set_self li
    · rw [if_neg c]
      exact List.getElem?_set_ne (Ne.symm c)
  · have li : i < env.length := (List.getElem?_eq_some_iff.mp q).1
    rw [q]
    by_cases c : j = i
    · subst c
      rw [if_pos rfl]
      exact List.getElem?_set_self li
    · rw [if_neg c]
      exact List.getElem?_set_ne (Ne.symm c)
theorem putL_length (ys : List D) : (putL i ys env).length = env.length := by
  unfold putL
  split <;> simp
theorem putL_own (h : getL i env = some xs) {ys : List D} {j : Nat} {a : Addr} (o : OwnAt (putL i ys env) σ j a) : OwnAt env σ j a := by
  obtain ⟨⟨s, e1, e2⟩, e3⟩ := o
  rw [putL_get h] at e1
  by_cases c : j = i
  · subst c
    rcases getL_some h with q | q
    · exact ⟨⟨_, q, rfl⟩, e3⟩
    · exact ⟨⟨_, q, rfl⟩, e3⟩
  · rw [if_neg c] at e1
    exact ⟨⟨s, e1, e2⟩, e3⟩
/-- the list of slot i is changed -/
theorem own_put (R : Rel K env σ G H) (h : getL i env = some xs) {a : Addr} {vs vs' : List V} {ys : List D} (ho : σ[i]? = some (some (.ref a))) (h1 : H a = some (.lst vs)) (h2 : G a = none) (o : OwnAt env σ i a) (dv : DvAll K G vs' ys) :
    Rel K (putL i ys env) σ G (upd H a (.lst vs')) ∧ Fr env σ G H (putL i ys env) σ G (upd H a (.lst vs')) := by
  refine ⟨⟨fun b u hb => ?_, by rw [putL_length]; exact R.len, fun j s u e1 e2 => ?_, fun j k b x y => R.dist j k b (putL_own h x) (putL_own h y)⟩,
    ⟨Ex.refl _, fun b u hb hn => ?_, fun b hb => ?_, fun b hb => .inl hb, fun b ⟨j, z⟩ => .inl ⟨j, putL_own h z⟩, fun j zs hj => ?_⟩⟩
  · rw [upd_ne (fun z => by subst z; rw [h2] at hb; cases hb)]
    exact R.ex b u hb
  · rw [putL_get h] at e1
    by_cases c : j = i
    · subst c
      rw [ho] at e2
      cases e2
      rw [if_pos rfl] at e1
      rcases getL_some h with q | q
      · rw [q] at e1; cases e1; exact ⟨a, vs', rfl, upd_same, h2, dv⟩
      · rw [q] at e1; cases e1; exact ⟨a, vs', rfl, upd_same, h2, dv⟩
    · rw [if_neg c] at e1
      have q := R.slot j s u e1 e2
      have nb : ∀ b, s.own = true → u = some (.ref b) → b ≠ a := fun b hs hb z => by
        subst z
        exact c (R.dist j i b ⟨⟨s, e1, hs⟩, by rw [e2, hb]⟩ o)
      cases s with
      | no => trivial
      | v d => exact q
      | l ys => obtain ⟨b, ws, e, q1, q2, q3⟩ := q; exact ⟨b, ws, e, by rw [upd_ne (nb b rfl e)]; exact q1, q2, q3⟩
      | p ys => obtain ⟨b, ws, e, q1, q2, q3⟩ := q; exact ⟨b, ws, e, by rw [upd_ne (nb b rfl e)]; exact q1, q2, q3⟩
      | m ys => obtain ⟨b, ws, e, q1, q2, q3⟩ := q; exact ⟨b, ws, e, by rw [upd_ne (nb b rfl e)]; exact q1, q2, q3⟩
      | f x => exact q
      | a x _ _ => exact q
  · rw [upd_ne (fun z => by subst z; exact hn ⟨i, o⟩)]
    exact hb
  · by_cases c : b = a
    · subst c; rw [upd_same] at hb; cases hb
    · rw [upd_ne c] at hb; exact hb
  · rw [putL_get h] at hj
    by_cases c : j = i
    · subst c
      rw [if_pos rfl] at hj
      rcases getL_some h with q | q
      · rw [q] at hj; cases hj
      · exact ⟨rfl, xs, q⟩
    · rw [if_neg c] at hj
      exact ⟨rfl, zs, hj⟩
end
/-! ### x[k], x a name -/
def known (i : Nat) (env : DEnv) : Bool := match env[i]? with
  | some .no => false
  | some _ => true
  | none => false
def ixAt (i : Nat) (k : D) (e1 : DEnv) : Rs D := match e1[i]? with
  | some (.v d) => put (dIx d k) e1
  | some (.l xs) => put (dIx (.list xs) k) e1
  | some (.p xs) => put (dIx (.list xs) k) e1
  | _ => .stuck
def eIxN (i : Nat) (db : DE) : DE := fun env => if known i env then (db env).bind fun k e1 => ixAt i k e1 else .stuck
section
variable {X : Cx} {W : WX} {pos : Pos} {b e : Expr} {db de : DE}
/-- a name's value as it stands: data, or a list of the def's own (to be read at once) -/
theorem peekV {K : PySem.W.Frag} {env : DEnv} {σ : L2.St} {G H : Hp} {i : Nat} {s : Sl} (R : Rel K env σ G H) (h : env[i]? = some s) : ∃ o, σ[i]? = some o ∧ RS K G H s o := by
  have li : i < σ.length := by rw [← R.len]; exact (List.getElem?_eq_some_iff.mp h).1
  exact ⟨_, List.getElem?_eq_getElem li, R.slot i s _ h (List.getElem?_eq_getElem li)⟩
theorem known_v {K : PySem.W.Frag} {env : DEnv} {σ : L2.St} {G H : Hp} {i : Nat} (R : Rel K env σ G H) (h : known i env = true) : ∃ v, σ[i]? = some (some v) := by
  unfold known at h
  cases q : env[i]? with
  | none => rw [q] at h; cases h
  | some s =>
    rw [q] at h
    obtain ⟨o, ho, rs⟩ := peekV R q
    cases s with
    | no => cases h
    | v d => obtain ⟨v, e, _⟩ := rs; exact ⟨v, by rw [ho, e]⟩
    | l d => obtain ⟨v, _, e, _⟩ := rs; exact ⟨_, by rw [ho, e]⟩
    | p d => obtain ⟨v, _, e, _⟩ := rs; exact ⟨_, by rw [ho, e]⟩
    | m d => obtain ⟨v, _, e, _⟩ := rs; exact ⟨_, by rw [ho, e]⟩
    | f d => exact ⟨_, by rw [ho, rs]⟩
    | a d _ _ => exact ⟨_, by rw [ho, rs.1]⟩
theorem ixAt_ok {K : PySem.W.Frag} {mg : Str → Option Value} {e1 : DEnv} {σ : L2.St} {G1 H1 : Hp} {i : Nat} {k : D} {v y : V} {Q : VK} (R1 : Rel K e1 σ G1 H1) (hv : σ[i]? = some (some v)) (dv : Dv K G1 y k) (h1 : RunE K mg W e1 σ G1 H1 (ixAt i k e1) Q) : rIx K v y H1 Q := by
  unfold ixAt at h1
  cases q : e1[i]? with
  | none => rw [q] at h1; exact h1.elim
  | some s =>
    rw [q] at h1
    obtain ⟨o, ho, rs⟩ := peekV R1 q
    rw [hv] at ho
    cases ho
    have own : ∀ xs : List D, (∃ a vs, some v = some (V.ref a) ∧ H1 a = some (.lst vs) ∧ G1 a = none ∧ DvAll K G1 vs xs) → RunE K mg W e1 σ G1 H1 (put (dIx (.list xs) k) e1) Q → rIx K v y H1 Q := fun xs rs h1 => by
      obtain ⟨a, vs, e, g1, g2, g3⟩ := rs
      cases e
      obtain ⟨z, ez, kk⟩ := RunE.put R1 h1
      cases k with
      | int n =>
        cases dv
        obtain ⟨u, hu, du⟩ := atI_dv g3 ez
        exact .inl ⟨a, vs, n, u, rfl, rfl, .inl (.inl g1), hu, kk u G1 H1 du (Grow.refl R1.ex)⟩
      | none => cases ez
      | bool _ => cases ez
      | str _ => cases ez
      | list _ => cases ez
      | tuple _ => cases ez
      | dict _ => cases ez
    cases s with
    | no => exact h1.elim
    | m xs => exact h1.elim
    | f xs => exact h1.elim
    | a xs _ _ => exact h1.elim
    | v d =>
      obtain ⟨w, e, dw⟩ := rs
      cases e
      obtain ⟨z, ez, kk⟩ := RunE.put R1 h1
      exact od_ix v y d k z G1 H1 Q dw dv R1.ex ez kk
    | l xs => exact own xs rs h1
    | p xs => exact own xs rs h1
theorem if_run {α : Type} {c : Bool} {r : Rs α} {P : Rs α → Prop} (h : P (if c = true then r else .stuck)) (hst : ¬ P .stuck) : c = true ∧ P r := by
  cases c with
  | true => exact ⟨rfl, h⟩
  | false => exact (hst h).elim
theorem ce_ixN (i : Nat) {x : Str} {p : Pos} (hb : CE X W b db) (hs : PlainIx b) (hN : X.N[i]? = some x := by rfl) (hv : Vis X.env.scope x := by first | exact Or.inl rfl | exact Or.inr (Or.inl rfl) | exact Or.inr (Or.inr rfl)) (hd : (x == ("__debug__" : Str)) = false := by decide)
    (hcd : (x == ("__classdict__" : Str)) = false := by decide) : CE X W (.Subscript (.Name x p) b pos) (eIxN i db) := pe_imp (pe_ix ix_seq (pe_var hN hv hd hcd) hb hs) fun σ H Q h => by
  obtain ⟨env, G, R, h⟩ := h
  obtain ⟨c, h⟩ := if_run (P := fun r => RunE X.K X.mg W env σ G H r Q) h fun z => z
  obtain ⟨v, hv⟩ := known_v R c
  exact ⟨v, hv, E_thenE R h fun k e1 y G1 H1 _ R1 dv F1 h1 => ixAt_ok R1 hv dv h1⟩
/-! ### x[k] = e -/
def sSetO (i : Nat) (dk dv : DE) : DS := fun env => (dv env).fl fun v e1 => if known i e1 then (dk e1).fl fun k e2 => match getL i e2, k with
  | some xs, .int n => match ixN xs.length n with
    | some j => .nx (putL i (xs.set j v) e2)
    | none => .stuck
  | _, _ => .stuck else .stuck
theorem cs_setO (i : Nat) {x : Str} {p p2 : Pos} (hk : CE X W b db) (he : CE X W e de) (hN : X.N[i]? = some x := by rfl) (hv : Vis X.env.scope x := by first | exact Or.inl rfl | exact Or.inr (Or.inl rfl) | exact Or.inr (Or.inr rfl)) (hd : (x == ("__debug__" : Str)) = false := by decide)
    (hcd : (x == ("__classdict__" : Str)) = false := by decide) (hs : swapsWithSole [.Subscript (.Name x p) b p2] e pos.line X.env = pure false := by rfl) (hw : swappedStores [.Subscript (.Name x p) b p2] e X.env = pure none := by rfl)
    (h1 : (assignEach [.Subscript (.Name x p) b p2] X.env).map (·.2) = [assign (.Subscript (.Name x p) b p2) X.env] := by rfl)
    (ha : ∀ v, assign (.Subscript (.Name x p) b p2) X.env v = (do
      let ov ← holding [v] (eval (.Name x p) X.env)
      let iv ← holding [v, ov] (eval b X.env)
      standAt p2
      holding [v, ov, iv] (setItem ov iv v)
      release [v, ov, iv] []) := by intro _; rfl) : CS X W (.Assign [.Subscript (.Name x p) b p2] e pos) (sSetO i db de) :=
  ps_imp (ps_asg he (pg_sub (pe_var hN hv hd hcd) hk set_list ha) hs hw h1) fun E σ H h => by
    obtain ⟨env, G, R, h⟩ := h
    refine E_thenS R h fun d e1 v G1 H1 _ R1 dv F1 h1 => ?_
    by_cases c : known i e1 = true
    · rw [if_pos c] at h1
      obtain ⟨o, ho⟩ := known_v R1 c
      refine ⟨o, ho, E_thenS R1 h1 fun k e2 y G2 H2 _ R2 dk F2 h2 => ?_⟩
      cases q : getL i e2 with
      | none => rw [q] at h2; exact h2.elim
      | some xs =>
        rw [q] at h2
        cases k with
        | int n =>
          cases dk
          obtain ⟨a, vs, x1, x2, x3, x4, x5⟩ := own_get R2 q
          rw [ho] at x1
          cases x1
          have h3 : RunS X.K X.mg W e2 σ G2 H2 (match ixN xs.length n with
            | some j => .nx (putL i (xs.set j d) e2)
            | none => .stuck) E := h2
          cases q2 : ixN xs.length n with
          | none => rw [q2] at h3; exact h3.elim
          | some j =>
            rw [q2] at h3
            obtain ⟨r1, r2⟩ := own_put R2 q ho x2 x3 x5 (x4.set (dv.up F2.gg) j)
            exact ⟨a, vs, n, j, rfl, rfl, x2, by rw [x4.length]; exact q2, h3 σ G2 _ r1 r2⟩
        | none => exact h2.elim
        | bool _ => exact h2.elim
        | str _ => exact h2.elim
        | list _ => exact h2.elim
        | tuple _ => exact h2.elim
        | dict _ => exact h2.elim
    · rw [if_neg c] at h1
      exact h1.elim
/-! ### x.m(e, ..), x a list of the def's own -/
def OwnM (K : PySem.W.Frag) (r : V → List V → Hp → VK → Prop) (f : List D → List D → Option (D × List D)) : Prop := ∀ (l : Addr) (vs ws : List V) (xs args : List D) (z : D) (ys : List D) (G H : Hp) (Q : VK),
  H l = some (.lst vs) → DvAll K G vs xs → DvAll K G ws args → Ex G H → G l = none → f xs args = some (z, ys) → (∀ v vs', Dv K G v z → DvAll K G vs' ys → Q v (upd H l (.lst vs'))) → r (.ref l) ws H Q
def eMO (i : Nat) (f : List D → List D → Option (D × List D)) (da : DA) : DE := fun env => if (getL i env).isSome then (da env).bind fun args e1 => match getL i e1 with
  | some xs => match f xs args with
    | some (z, ys) => .ok z (putL i ys e1)
    | none => .stuck
  | none => .stuck else .stuck
theorem mo_ok {K : PySem.W.Frag} {mg : Str → Option Value} {r : V → List V → Hp → VK → Prop} {f : List D → List D → Option (D × List D)} (o : OwnM K r f) {i : Nat} {e1 : DEnv} {σ : L2.St} {G1 H1 : Hp} {args : List D} {ws : List V} {l : Addr} {Q : VK} (R1 : Rel K e1 σ G1 H1)
    (hl : σ[i]? = some (some (.ref l))) (dw : DvAll K G1 ws args) (h1 : RunE K mg W e1 σ G1 H1 (match getL i e1 with
      | some xs => match f xs args with
        | some (z, ys) => .ok z (putL i ys e1)
        | none => .stuck
      | none => .stuck) Q) : r (.ref l) ws H1 Q := by
  cases q : getL i e1 with
  | none => rw [q] at h1; exact h1.elim
  | some xs =>
    rw [q] at h1
    obtain ⟨a, vs, x1, x2, x3, x4, x5⟩ := own_get R1 q
    rw [hl] at x1
    cases x1
    have h2 : RunE K mg W e1 σ G1 H1 (match f xs args with
      | some (z, ys) => .ok z (putL i ys e1)
      | none => .stuck) Q := h1
    cases q2 : f xs args with
    | none => rw [q2] at h2; exact h2.elim
    | some p =>
      obtain ⟨z, ys⟩ := p
      rw [q2] at h2
      refine o l vs ws xs args z ys G1 H1 Q x2 x4 dw R1.ex x3 q2 fun v vs' dz dvs => ?_
      obtain ⟨r1, r2⟩ := own_put R1 q hl x2 x3 x5 dvs
      exact h2 v G1 _ r1 dz r2
theorem ce_mo (i : Nat) {x name : Str} {p apos : Pos} {id : String} {r : V → List V → Hp → VK → Prop} {f : List D → List D → Option (D × List D)} {es : List Expr} {da : DA} (o : OwnM X.K r f) (slot : Slot "list" name id) (hty : typeOf (.builtin id) = pure (.type "method_descriptor")) (hm : MtR X id r) (ha : CA X W (e :: es) da)
    (hN : X.N[i]? = some x := by rfl) (hv : Vis X.env.scope x := by first | exact Or.inl rfl | exact Or.inr (Or.inl rfl) | exact Or.inr (Or.inr rfl)) (hd : (x == ("__debug__" : Str)) = false := by decide) (hcd : (x == ("__classdict__" : Str)) = false := by decide)
    (hbase : attributeBase (.Name x p) name X.env (eval (.Name x p) X.env) = eval (.Name x p) X.env := by rfl)
    (hfew : ((backTo pos (starEach (e :: es) X.env)).all (fun x => !x.1) && (backToKw pos (keywordEach [] X.env)).all (fun x => x.1.isSome)
      && decide ((e :: es).length + ([] : List Keyword).length + (if ([] : List Keyword).isEmpty then 0 else 1) < 30)) = true := by rfl)
    (hline : (apos.endLine == pos.line) = true := by rfl) (hs : starEach (e :: es) X.env = (false, eval e X.env) :: starEach es X.env := by rfl) (hplain : (backTo pos (starEach es X.env)).any (·.1) = false := by rfl) :
    CE X W (.Call (.Attribute (.Name x p) name apos) (e :: es) [] pos) (eMO i f da) := pe_imp (pe_bm PySem.F.plainAttrs_list slot hty hm (pe_var hN hv hd hcd) ha hbase hfew hline hs hplain) fun σ H Q h => by
  obtain ⟨env, G, R, h⟩ := h
  obtain ⟨c, h⟩ := if_run (P := fun r => RunE X.K X.mg W env σ G H r Q) h fun z => z
  cases q : getL i env with
  | none => rw [q] at c; cases c
  | some xs =>
    obtain ⟨a, vs, x1, x2, x3, x4, x5⟩ := own_get R q
    exact ⟨_, x1, .inl ⟨rfl, _, .inl (.inl x2)⟩, A_thenE R h fun args e1 ws G1 H1 _ R1 dw F1 h1 => mo_ok o R1 x1 dw h1⟩
theorem ce_mo0 (i : Nat) {x name : Str} {p apos : Pos} {id : String} {r : V → List V → Hp → VK → Prop} {f : List D → List D → Option (D × List D)} (o : OwnM X.K r f) (slot : Slot "list" name id) (hty : typeOf (.builtin id) = pure (.type "method_descriptor")) (hm : MtR X id r)
    (hN : X.N[i]? = some x := by rfl) (hv : Vis X.env.scope x := by first | exact Or.inl rfl | exact Or.inr (Or.inl rfl) | exact Or.inr (Or.inr rfl)) (hd : (x == ("__debug__" : Str)) = false := by decide) (hcd : (x == ("__classdict__" : Str)) = false := by decide)
    (hbase : attributeBase (.Name x p) name X.env (eval (.Name x p) X.env) = eval (.Name x p) X.env := by rfl) (hline : (apos.endLine == pos.line) = true := by rfl) :
    CE X W (.Call (.Attribute (.Name x p) name apos) [] [] pos) (eMO i f aNil) := pe_imp (pe_bm0 PySem.F.plainAttrs_list slot hty hm (pe_var hN hv hd hcd) hbase hline) fun σ H Q h => by
  obtain ⟨env, G, R, h⟩ := h
  obtain ⟨c, h⟩ := if_run (P := fun r => RunE X.K X.mg W env σ G H r Q) h fun z => z
  cases q : getL i env with
  | none => rw [q] at c; cases c
  | some xs =>
    obtain ⟨a, vs, x1, x2, x3, x4, x5⟩ := own_get R q
    exact ⟨_, x1, .inl ⟨rfl, _, .inl (.inl x2)⟩, mo_ok o R x1 .nil h⟩
def mAppend : List D → List D → Option (D × List D)
  | xs, [d] => if xs.length < 100000 then some (.none, xs ++ [d]) else none
  | _, _ => none
noncomputable def mInsert : List D → List D → Option (D × List D)
  | xs, [.int i, d] => if xs.length < 100000 ∧ 0 ≤ i ∧ I63 i then some (.none, xs.take i.toNat ++ [d] ++ xs.drop i.toNat) else none
  | _, _ => none
def mPop : List D → List D → Option (D × List D)
  | xs, [] => match xs[xs.length - 1]? with
    | some y => some (y, xs.dropLast)
    | none => none
  | _, _ => none
noncomputable def mPopAt : List D → List D → Option (D × List D)
  | xs, [.int i] => if I63 i then match seqIndex? i xs.length with
      | some k => match xs[k]? with
        | some y => some (y, xs.eraseIdx k)
        | none => none
      | none => none
    else none
  | _, _ => none
theorem lt_size {n : Nat} (h : n < 100000) : n < sizeLine := Nat.lt_of_lt_of_le h (by decide)
theorem om_append {K : PySem.W.Frag} : OwnM K rAppend mAppend := fun l vs ws xs args z ys G H Q h1 h2 h3 ex hg hf k => by
  match args, h3, hf with
  | [d], .cons (v := v) a .nil, hf =>
    have hf' : (if xs.length < 100000 then some (PyData.none, xs ++ [d]) else none) = some (z, ys) := hf
    by_cases c : xs.length < 100000
    · rw [if_pos c] at hf'
      cases hf'
      exact ⟨l, vs, v, rfl, rfl, h1, by rw [h2.length]; exact lt_size c, k _ _ .non (h2.append (.one a))⟩
    · rw [if_neg c] at hf'; cases hf'
theorem om_insert {K : PySem.W.Frag} : OwnM K (fun x vs H Q => ∃ (l : Addr) (xs : List V) (i : Int) (y : V), x = .ref l ∧ vs = [.int i, y] ∧ H l = some (.lst xs) ∧ xs.length < sizeLine ∧ 0 ≤ i ∧ i < 2 ^ 63 ∧
    Q .non (upd H l (.lst (xs.take i.toNat ++ [y] ++ xs.drop i.toNat)))) mInsert := fun l vs ws xs args z ys G H Q h1 h2 h3 ex hg hf k => by
  match args, h3, hf with
  | [.int i, d], .cons (.int _) (.cons (v := v) a .nil), hf =>
    have hf' : (if xs.length < 100000 ∧ 0 ≤ i ∧ I63 i then some (PyData.none, xs.take i.toNat ++ [d] ++ xs.drop i.toNat) else none) = some (z, ys) := hf
    by_cases c : xs.length < 100000 ∧ 0 ≤ i ∧ I63 i
    · rw [if_pos c] at hf'
      cases hf'
      exact ⟨l, vs, i, v, rfl, rfl, h1, by rw [h2.length]; exact lt_size c.1, c.2.1, c.2.2.2, k _ _ .non (((h2.take _).append (.one a)).append (h2.drop _))⟩
    · rw [if_neg c] at hf'; cases hf'
theorem om_pop {K : PySem.W.Frag} : OwnM K rPop mPop := fun l vs ws xs args z ys G H Q h1 h2 h3 ex hg hf k => by
  match args, h3, hf with
  | [], .nil, hf =>
    have hf' : (match xs[xs.length - 1]? with
      | some y => some (y, xs.dropLast)
      | none => none) = some (z, ys) := hf
    cases q : xs[xs.length - 1]? with
    | none => rw [q] at hf'; cases hf'
    | some y =>
      rw [q] at hf'
      cases hf'
      obtain ⟨v, hv, dv⟩ := h2.get q
      exact ⟨l, vs, v, rfl, rfl, h1, by rw [h2.length]; exact hv, k _ _ dv h2.dropLast⟩
theorem om_popAt {K : PySem.W.Frag} : OwnM K rPopAt mPopAt := fun l vs ws xs args z ys G H Q h1 h2 h3 ex hg hf k => by
  match args, h3, hf with
  | [.int i], .cons (.int _) .nil, hf =>
    have hf' : (if I63 i then match seqIndex? i xs.length with
      | some k => match xs[k]? with
        | some y => some (y, xs.eraseIdx k)
        | none => none
      | none => none
      else none) = some (z, ys) := hf
    by_cases c : I63 i
    · rw [if_pos c] at hf'
      cases q : seqIndex? i xs.length with
      | none => rw [q] at hf'; cases hf'
      | some j =>
        rw [q] at hf'
        have hf2 : (match xs[j]? with
          | some y => some (y, xs.eraseIdx j)
          | none => none) = some (z, ys) := hf'
        cases q2 : xs[j]? with
        | none => rw [q2] at hf2; cases hf2
        | some y =>
          rw [q2] at hf2
          cases hf2
          obtain ⟨v, hv, dv⟩ := h2.get q2
          exact ⟨l, vs, i, j, v, rfl, rfl, h1, c.1, c.2, by rw [h2.length]; exact q, hv, k _ _ dv (h2.eraseIdx j)⟩
    · rw [if_neg c] at hf'; cases hf'
/-! ### reading a list of the def's own without giving it away -/
def seeL (i : Nat) (env : DEnv) : Option (List D) := match env[i]? with
  | some (.l xs) => some xs
  | some (.p xs) => some xs
  | some (.v (.list xs)) => some xs
  | _ => none
theorem see_list {K : PySem.W.Frag} {env : DEnv} {σ : L2.St} {G H : Hp} {i : Nat} {xs : List D} (R : Rel K env σ G H) (h : seeL i env = some xs) : ∃ a vs, σ[i]? = some (some (.ref a)) ∧ SqL K H a vs ∧ DvAll K G vs xs := by
  unfold seeL at h
  cases q : env[i]? with
  | none => rw [q] at h; cases h
  | some s =>
    rw [q] at h
    obtain ⟨o, ho, rs⟩ := peekV R q
    cases s with
    | l ys =>
      cases h
      obtain ⟨a, vs, e, h1, h2, h3⟩ := rs
      exact ⟨a, vs, by rw [ho, e], .inl (.inl h1), h3⟩
    | p ys =>
      cases h
      obtain ⟨a, vs, e, h1, h2, h3⟩ := rs
      exact ⟨a, vs, by rw [ho, e], .inl (.inl h1), h3⟩
    | no => cases h
    | m d => cases h
    | f d => cases h
    | a d _ _ => cases h
    | v d =>
      cases d with
      | list ys =>
        cases h
        obtain ⟨v, e, dv⟩ := rs
        cases dv with
        | @lst a ws _ h2 h3 => exact ⟨a, ws, by rw [ho, e], (R.ex.rl h2).sq, h3⟩
      | none => cases h
      | bool _ => cases h
      | int _ => cases h
      | str _ => cases h
      | dict _ => cases h
      | tuple _ => cases h
/-- len(x) -/
def eLenO (i : Nat) : DE := fun env => match seeL i env with
  | some xs => .ok (.int xs.length) env
  | none => .stuck
theorem ce_lenO (i : Nat) {x : Str} {p p2 : Pos} (hm : X.mg "len" = none) (hN : X.N[i]? = some x := by rfl) (hv : Vis X.env.scope x := by first | exact Or.inl rfl | exact Or.inr (Or.inl rfl) | exact Or.inr (Or.inr rfl)) (hd : (x == ("__debug__" : Str)) = false := by decide) (hcd : (x == ("__classdict__" : Str)) = false := by decide)
    (hg : Gl X "len" := by rfl) (hs : starEach [.Name x p] X.env = (false, eval (.Name x p) X.env) :: starEach [] X.env := by rfl) (hpl : (backTo pos (starEach [] X.env)).any (·.1) = false := by rfl) : CE X W (.Call (.Name "len" p2) [.Name x p] [] pos) (eLenO i) :=
  pe_imp (pe_callB call_len_seq hg hm PySem.boot_len (pa_cons (pe_var hN hv hd hcd) pa_nil hs) (by decide) (by decide) hs hpl) fun σ H Q h => by
    obtain ⟨env, G, R, h⟩ := h
    unfold eLenO at h
    cases q : seeL i env with
    | none => rw [q] at h; exact h.elim
    | some xs =>
      rw [q] at h
      obtain ⟨a, vs, x1, x2, x4⟩ := see_list R q
      exact ⟨_, x1, a, vs, rfl, .inl x2, by rw [x4.length]; exact h _ G H R (.int _) (Fr.refl _ _ _ _)⟩
/-- tuple(x) -/
def eTupO (i : Nat) : DE := fun env => match seeL i env with
  | some xs => .ok (.tuple xs) env
  | none => .stuck
theorem ce_tupO (i : Nat) {x : Str} {p p2 : Pos} (hm : X.mg "tuple" = none) (hN : X.N[i]? = some x := by rfl) (hv : Vis X.env.scope x := by first | exact Or.inl rfl | exact Or.inr (Or.inl rfl) | exact Or.inr (Or.inr rfl)) (hd : (x == ("__debug__" : Str)) = false := by decide) (hcd : (x == ("__classdict__" : Str)) = false := by decide)
    (hg : Gl X "tuple" := by rfl) (hs : starEach [.Name x p] X.env = (false, eval (.Name x p) X.env) :: starEach [] X.env := by rfl) (hpl : (backTo pos (starEach [] X.env)).any (·.1) = false := by rfl) : CE X W (.Call (.Name "tuple" p2) [.Name x p] [] pos) (eTupO i) :=
  pe_imp (pe_callTy call_tuple_ofF hg hm (by decide +kernel) (pa_cons (pe_var hN hv hd hcd) pa_nil hs) (by decide) (by decide) hs hpl) fun σ H Q h => by
    obtain ⟨env, G, R, h⟩ := h
    unfold eTupO at h
    cases q : seeL i env with
    | none => rw [q] at h; exact h.elim
    | some xs =>
      rw [q] at h
      obtain ⟨a, vs, x1, x2, x4⟩ := see_list R q
      refine ⟨_, x1, a, vs, rfl, .inl ⟨x2, fun l o hl hd => ?_⟩⟩
      have g : Grow G H (upd G l (.frz o (.tup vs))) (upd H l (.frz o (.tup vs))) := Grow.one R.ex hl
      exact h _ _ _ (R.grow g) (.tup (.inl ⟨o, upd_same, hd⟩) (x4.up g.gg)) (g.fr _ _)
/-- list(x) -/
def lListO (i : Nat) : DA := fun env => match seeL i env with
  | some xs => .ok xs env
  | none => .stuck
theorem cl_listO (i : Nat) {x : Str} {p p2 : Pos} (hm : X.mg "list" = none) (hN : X.N[i]? = some x := by rfl) (hv : Vis X.env.scope x := by first | exact Or.inl rfl | exact Or.inr (Or.inl rfl) | exact Or.inr (Or.inr rfl)) (hd : (x == ("__debug__" : Str)) = false := by decide) (hcd : (x == ("__classdict__" : Str)) = false := by decide)
    (hg : Gl X "list" := by rfl) (hs : starEach [.Name x p] X.env = (false, eval (.Name x p) X.env) :: starEach [] X.env := by rfl) (hpl : (backTo pos (starEach [] X.env)).any (·.1) = false := by rfl) : CL X W (.Call (.Name "list" p2) [.Name x p] [] pos) (lListO i) :=
  pe_imp (pe_callTy call_list_of hg hm (by decide +kernel) (pa_cons (pe_var hN hv hd hcd) pa_nil hs) (by decide) (by decide) hs hpl) fun σ H Q h => by
    obtain ⟨env, G, R, h⟩ := h
    unfold lListO at h
    cases q : seeL i env with
    | none => rw [q] at h; exact h.elim
    | some xs =>
      rw [q] at h
      obtain ⟨a, vs, x1, x2, x4⟩ := see_list R q
      exact ⟨_, x1, a, vs, rfl, .inl x2, fun l hl => RunL.new R h hl x4⟩
end
end DL
/- part DL8 -/
set_option Elab.async false
set_option linter.all false
set_option maxRecDepth 100000
set_option autoImplicit false
/-! DL8: slices, isinstance, chains, constants of the module, new lists by + and *, list(range(..)). -/
namespace DL
open PySem L2
/-! ### slices -/
def cutD (xs : List D) (lo hi : Option Int) : List D := (xs.drop (HT.sIx xs.length 0 lo)).take (HT.sIx xs.length xs.length hi - HT.sIx xs.length 0 lo)
def dSl (d : D) (lo hi : Option Int) : Option D := match d with
  | .list xs => some (.list (cutD xs lo hi))
  | .tuple xs => some (.tuple (cutD xs lo hi))
  | .str z => if z.length ≤ 100000 then some (.str (cutS z lo hi)) else none
  | _ => none
/-- an end of a slice -/
inductive Pt where
  | no
  | of (de : DE)
def Pt.run (p : Pt) (env : DEnv) : Rs (Option Int) := match p with
  | .no => .ok none env
  | .of de => (de env).bind fun d e1 => match d with
    | .int i => .ok (some i) e1
    | _ => .stuck
def eSl (de : DE) (lo hi : Pt) : DE := fun env => (de env).bind fun d e1 => (lo.run e1).bind fun l e2 => (hi.run e2).bind fun u e3 => put (dSl d l u) e3
section
variable {K : PySem.W.Frag} {mg : Str → Option Value} {W : WX}
def RunO (env : DEnv) (σ : L2.St) (G H : Hp) (r : Rs (Option Int)) (Q : Option Int → Hp → Prop) (K : PySem.W.Frag) (mg : Str → Option Value) (W : WX) : Prop := match r with
  | .ok o env' => ∀ G' H', Rel K env' σ G' H' → Fr env σ G H env' σ G' H' → Q o H'
  | .ex x env' => RunX K mg W env σ G H x env'
  | .stuck => False
def rdO (K : PySem.W.Frag) (mg : Str → Option Value) (W : WX) (p : Pt) : TO := fun σ H Q => ∃ env G, Rel K env σ G H ∧ RunO env σ G H (p.run env) Q K mg W
theorem O_thenE {env : DEnv} {σ : L2.St} {G H : Hp} {p : Pt} {f : Option Int → DEnv → Rs D} {Q : VK} {R : Option Int → Hp → Prop} (hR : Rel K env σ G H) (h : RunE K mg W env σ G H ((p.run env).bind f) Q)
    (k : ∀ o e1 G1 H1, p.run env = .ok o e1 → Rel K e1 σ G1 H1 → Fr env σ G H e1 σ G1 H1 → RunE K mg W e1 σ G1 H1 (f o e1) Q → R o H1) : rdO K mg W p σ H R := by
  refine ⟨env, G, hR, ?_⟩
  cases q : p.run env with
  | ok d e1 =>
    rw [q] at h
    exact fun G1 H1 a c => k d e1 G1 H1 q a c (RunE.shift h c)
  | ex x e => rw [q] at h; exact h
  | stuck => rw [q] at h; exact h
def rSlAny (K : PySem.W.Frag) : V → Option Int → Option Int → Hp → VK → Prop := fun x lo hi H Q => rSlF K x lo hi H Q ∨ rSlL K x lo hi H Q ∨ rSlS x lo hi H Q
theorem sl_any {X : Cx} : SlR X (rSlAny X.K) := sl_tupF.or (sl_list.or sl_str)
theorem cut_dv {G : Hp} {xs : List V} {ds : List D} (dv : DvAll K G xs ds) (lo hi : Option Int) : DvAll K G (cutV xs lo hi) (cutD ds lo hi) := by
  unfold cutV cutD
  rw [dv.length]
  exact (dv.drop _).take _
theorem cut_whole (ds : List D) (lo hi : Option Int) (h : HT.sIx ds.length 0 lo = 0 ∧ HT.sIx ds.length ds.length hi = ds.length) : cutD ds lo hi = ds := by
  unfold cutD
  rw [h.1, h.2]
  simp
theorem sl_d {x : V} {d z : D} {lo hi : Option Int} {G H : Hp} {Q : VK} (hx : Dv K G x d) (ex : Ex G H) (hf : dSl d lo hi = some z) (k : ∀ v G' H', Dv K G' v z → Grow G H G' H' → Q v H') : rSlAny K x lo hi H Q := by
  cases hx with
  | @tup a xs ds h1 h2 =>
    cases hf
    refine .inl ⟨a, xs, rfl, (ex.n h1).t, fun w => ?_, fun w p o hp hd => ?_⟩
    · rw [h2.length] at w
      rw [cut_whole ds lo hi w] at k
      exact k _ G H (.tup h1 h2) (Grow.refl ex)
    · have g : Grow G H (upd G p (.frz o (.tup (cutV xs lo hi)))) (upd H p (.frz o (.tup (cutV xs lo hi)))) := Grow.one ex hp
      exact k _ _ _ (.tup (.inl ⟨o, upd_same, hd⟩) ((cut_dv h2 lo hi).up g.gg)) g
  | @lst a xs ds h1 h2 =>
    cases hf
    refine .inr (.inl ⟨a, xs, rfl, (ex.rl h1).sq, fun p hp => ?_⟩)
    have g : Grow G H (upd G p (.lst (cutV xs lo hi))) (upd H p (.lst (cutV xs lo hi))) := Grow.one ex hp
    exact k _ _ _ (.lst (.of upd_same) ((cut_dv h2 lo hi).up g.gg)) g
  | str s =>
    have hf' : (if s.length ≤ 100000 then some (PyData.str (cutS s lo hi)) else none) = some z := hf
    by_cases c : s.length ≤ 100000
    · rw [if_pos c] at hf'
      cases hf'
      exact .inr (.inr ⟨s, rfl, lim_size c, k _ G H (.str _) (Grow.refl ex)⟩)
    · rw [if_neg c] at hf'; cases hf'
  | non => cases hf
  | bl _ => cases hf
  | int _ => cases hf
  | dct _ _ => cases hf
end
section
variable {X : Cx} {W : WX} {pos : Pos} {e : Expr} {de : DE}
abbrev CO (X : Cx) (W : WX) (e : Option Expr) (p : Pt) : Prop := PO X e (rdO X.K X.mg W p)
theorem po_imp {e : Option Expr} {t t' : TO} (h : PO X e t) (k : ∀ σ H Q, t' σ H Q → t σ H Q) : PO X e t' := ⟨fun pins s σ H Q I w => h.run pins s σ H Q I (k σ H Q w)⟩
theorem co_none : CO X W none .no := po_imp po_none fun σ H Q h => by
  obtain ⟨env, G, R, h⟩ := h
  exact h G H R (Fr.refl _ _ _ _)
theorem co_some (h : CE X W e de) : CO X W (some e) (.of de) := po_imp (po_some h) fun σ H Q h => by
  obtain ⟨env, G, R, h⟩ := h
  refine ⟨env, G, R, ?_⟩
  have h' : RunO env σ G H ((de env).bind fun d e1 => match d with
    | .int i => .ok (some i) e1
    | _ => .stuck) Q X.K X.mg W := h
  cases q : de env with
  | stuck => rw [q] at h'; exact h'
  | ex x e => rw [q] at h'; exact h'
  | ok d e1 =>
    rw [q] at h'
    intro v G1 H1 R1 dv F1
    cases dv with
    | int i => exact ⟨i, rfl, h' G1 H1 R1 F1⟩
    | non => exact h'.elim
    | bl _ => exact h'.elim
    | str _ => exact h'.elim
    | lst _ _ => exact h'.elim
    | tup _ _ => exact h'.elim
    | dct _ _ => exact h'.elim
theorem ce_sl {lo hi : Option Expr} {pl ph : Pt} {p2 : Pos} (he : CE X W e de) (hl : CO X W lo pl) (hh : CO X W hi ph) : CE X W (.Subscript e (.Slice lo hi none p2) pos) (eSl de pl ph) := pe_imp (pe_slice sl_any he hl hh) fun σ H Q h => by
  obtain ⟨env, G, R, h⟩ := h
  refine E_thenE R h fun d e1 v G1 H1 _ R1 dv F1 h1 => O_thenE R1 h1 fun l e2 G2 H2 _ R2 F2 h2 => O_thenE R2 h2 fun u e3 G3 H3 _ R3 F3 h3 => ?_
  obtain ⟨z, ez, k⟩ := RunE.put R3 h3
  exact sl_d ((dv.up F2.gg).up F3.gg) R3.ex ez k
/-! ### isinstance(e, T), T a built-in class by its name -/
def tyD : D → String
  | .none => "NoneType"
  | .bool _ => "bool"
  | .int _ => "int"
  | .str _ => "str"
  | .list _ => "list"
  | .tuple _ => "tuple"
  | .dict _ => "dict"
def isiD (T : String) (d : D) : Option D := (kitB (tyD d) T).map .bool
def eIsi (T : String) (de : DE) : DE := fun env => (de env).bind fun d e1 => put (isiD T d) e1
theorem ty_dv {K : PySem.W.Frag} {G H : Hp} {x : V} {d : D} (hx : Dv K G x d) (ex : Ex G H) : TyX K H x (.type (tyD d)) := by
  cases hx with
  | non => exact .base .non
  | bl b => exact .base (.bl b)
  | int b => exact .base (.int b)
  | str b => exact .base (.str b)
  | lst a b =>
    rcases ex.rl a with (h | ⟨o, h⟩) | ⟨its, n, h, _⟩
    · exact .base (.lst h)
    · exact .base (.frz h)
    · exact .kList h rfl
  | tup a b =>
    rcases (ex.n a).t with (h | ⟨o, h⟩) | ⟨o, its, n, h1, h2, _⟩
    · exact .base (.tup h)
    · exact .fTuple h
    · exact .kTuple h1 h2
  | dct a b =>
    rcases ex.rd a with h | ⟨o, h⟩
    · exact .base (.dK h)
    · exact .fDict h
theorem ce_isi (T : String) {x : Str} {p p2 : Pos} (hT : bootBuiltins x = some (.type T)) (hmT : X.mg x = none) (hm : X.mg "isinstance" = none) (he : CE X W e de) (hb : bootBuiltins "isinstance" = some (.builtin "isinstance") := by decide +kernel) (hg : Gl X "isinstance" := by rfl) (hgT : Gl X x := by rfl) (hn : x ≠ "__name__" := by decide) (hd : (x == ("__debug__" : Str)) = false := by decide)
    (hs : starEach (e :: [.Name x p]) X.env = (false, eval e X.env) :: starEach [.Name x p] X.env := by rfl) (hs2 : starEach [.Name x p] X.env = (false, eval (.Name x p) X.env) :: starEach [] X.env := by rfl) (hpl : (backTo pos (starEach [.Name x p] X.env)).any (·.1) = false := by rfl) :
    CE X W (.Call (.Name "isinstance" p2) [e, .Name x p] [] pos) (eIsi T de) := pe_imp (pe_callB call_isi hg hm hb (pa_cons he (pa_cons (pe_bltn (v := .ty T) hgT hmT hT rfl hn hd) pa_nil hs2) hs) (by decide) (by decide) hs hpl) fun σ H Q h => by
  obtain ⟨env, G, R, h⟩ := h
  refine E_thenE R h fun d e1 v G1 H1 _ R1 dv F1 h1 => ?_
  obtain ⟨z, ez, k⟩ := RunE.put R1 h1
  unfold isiD at ez
  cases q : kitB (tyD d) T with
  | none => rw [q] at ez; cases ez
  | some b =>
    rw [q] at ez
    cases ez
    exact ⟨v, .ty T, .type (tyD d), .type T, b, rfl, .ty T, ty_dv dv R1.ex, kit_ty q, k _ G1 H1 (.bl b) (Grow.refl R1.ex)⟩
/-! ### a < b <= c -/
def eChain (f g : D → D → Option D) (da db dc : DE) : DE := fun env => (da env).bind fun x e1 => (db e1).bind fun y e2 => match f x y with
  | some (.bool true) => (dc e2).bind fun z e3 => put (g y z) e3
  | some (.bool false) => .ok (.bool false) e2
  | _ => .stuck
variable {a b c : Expr} {da db dc : DE}
theorem chain_ok {K : PySem.W.Frag} {mg : Str → Option Value} {r r' : R2} {f g : D → D → Option D} (o : OpD K r f) (o' : OpD K r' g) (σ : L2.St) (H : Hp) (Q : VK) (h : rdE K mg W (eChain f g da db dc) σ H Q) : tChain r r' (rdE K mg W da) (rdE K mg W db) (rdE K mg W dc) σ H Q := by
  obtain ⟨env, G, R, h⟩ := h
  refine E_thenE R h fun d e1 v G1 H1 _ R1 dv F1 h1 => E_thenE R1 h1 fun d2 e2 v2 G2 H2 _ R2 dv2 F2 h2 => ?_
  cases q : f d d2 with
  | none => rw [q] at h2; exact h2.elim
  | some z =>
    rw [q] at h2
    refine o v v2 d d2 z G2 H2 _ (dv.up F2.gg) dv2 R2.ex q fun u G3 H3 dz g3 => ?_
    cases z with
    | bool k =>
      cases dz
      refine ⟨k, rfl, ?_⟩
      cases k with
      | true =>
        have R3 := R2.grow g3
        have h3 := RunE.shift (env1 := e2) h2 (g3.fr e2 σ)
        rw [if_pos rfl]
        refine E_thenE R3 h3 fun d4 e4 v4 G4 H4 _ R4 dv4 F4 h4 => ?_
        obtain ⟨z, ez, kk⟩ := RunE.put R4 h4
        exact o' v2 v4 d2 d4 z G4 H4 Q ((dv2.up g3.gg).up F4.gg) dv4 R4.ex ez kk
      | false =>
        rw [if_neg Bool.false_ne_true]
        exact h2 _ G3 H3 (R2.grow g3) (.bl false) (g3.fr e2 σ)
    | none => exact h2.elim
    | int _ => exact h2.elim
    | str _ => exact h2.elim
    | list _ => exact h2.elim
    | tuple _ => exact h2.elim
    | dict _ => exact h2.elim
theorem ce_chain {op op' : CmpOp} {r r' : R2} {f g : D → D → Option D} (ho : OpR X (compareOp op) r) (o : OpD X.K r f) (ho' : OpR X (compareOp op') r') (o' : OpD X.K r' g) (ha : CE X W a da) (hb : CE X W b db) (hc : CE X W c dc)
    (hm : lastMarks [op, op'] [b, c] = false := by with_unfolding_all rfl) : CE X W (.Compare a [op, op'] [b, c] pos) (eChain f g da db dc) := pe_imp (pe_chain ho ho' ha hb hc hm) fun σ H Q h => chain_ok o o' σ H Q h
theorem ct_chain {op op' : CmpOp} {r r' : R2} {f g : D → D → Option D} (ho : OpR X (compareOp op) r) (o : OpD X.K r f) (ho' : OpR X (compareOp op') r') (o' : OpD X.K r' g) (ha : CE X W a da) (hb : CE X W b db) (hc : CE X W c dc)
    (hm : lastMarks [op, op'] [b, c] = false := by with_unfolding_all rfl) : CT X W (.Compare a [op, op'] [b, c] pos) (tTst (eChain f g da db dc)) := pt_imp (pt_chain ho ho' ha hb hc hm) fun σ H Q h => chain_ok o o' σ H _ (tst_ok _ σ H Q h)
/-! ### constants of the module -/
theorem ce_globI {x : Str} {i : Int} {t : Tok} (hm : X.mg x = some (.int i t)) (hg : Gl X x := by rfl) (hd : (x == ("__debug__" : Str)) = false := by decide) : CE X W (.Name x pos) (eC (.int i)) := pe_imp (pe_glob (v := .int i) hg hm ⟨t, rfl⟩ hd) (c_ok fun _ => .int i)
theorem ce_globS {x : Str} {s : Str} {t : Tok} (hm : X.mg x = some (.str s t)) (hg : Gl X x := by rfl) (hd : (x == ("__debug__" : Str)) = false := by decide) : CE X W (.Name x pos) (eC (.str s)) := pe_imp (pe_glob (v := .str s) hg hm ⟨t, rfl⟩ hd) (c_ok fun _ => .str s)
/-- a tuple of texts, written at the top -/
theorem ce_globT {x : Str} {A : Addr} {o : Obj} {its : Array Value} {n : Nat} {ss : List Str} (hm : X.mg x = some (.ref A)) (hk : X.K.lookup A = some o) (hc : o.cls = .type "tuple") (hdn : o.dict = none) (hd : o.data = .seq its n) (hz : its.size ≤ sizeLine) (hv : Vals (ss.map V.str) its.toList)
    (hg : Gl X x := by rfl) (hdb : (x == ("__debug__" : Str)) = false := by decide) : CE X W (.Name x pos) (eC (.tuple (ss.map PyData.str))) := by
  refine pe_imp (pe_glob hg hm (v := .ref A) rfl hdb) (c_ok fun G => .tup (xs := ss.map V.str) (.inr ⟨o, its, n, hk, hc, hdn, hd, hz, hv⟩) ?_)
  have : ∀ ss : List Str, DvAll X.K G (ss.map V.str) (ss.map PyData.str) := fun ss => by
    induction ss with
    | nil => exact .nil
    | cons s ss ih => exact .cons (.str s) ih
  exact this ss
end
/-! ### + and * of lists -/
section
variable {X : Cx} {K : PySem.W.Frag}
def rCatR (K : PySem.W.Frag) : R2 := fun x y H Q => ∃ l b xs zs, x = .ref l ∧ y = .ref b ∧ RL K H l xs ∧ RL K H b zs ∧ xs.length + zs.length ≤ sizeLine ∧ ∀ p, H p = none → Q (.ref p) (upd H p (.lst (xs ++ zs)))
theorem rd_lst {pins : List (Addr × Obj)} {σ : L2.St} {H : Hp} {s : Shared} {l : Addr} {xs : List V} (I : Inv X pins σ H s) (h : RL X.K H l xs) : xs.length ≤ sizeLine ∧ ∃ (its : List Value) (n : Nat), Vals xs its ∧ xs.length = its.length ∧ s.heap.get? l = some { cls := .type "list", data := .seq its.toArray n } := by
  rcases h with h | ⟨its, n, h1, h2, h3⟩
  · obtain ⟨z, its, n, r, e⟩ := h.ok I.hok
    exact ⟨z, its, n, r, r.length, e⟩
  · have e := h3.length
    exact ⟨by rw [e]; simpa using h2, its.toList, n, h3, e, by simpa using I.kIn _ _ h1⟩
theorem op_catR : OpR X (binaryOp .Add) (rCatR X.K) := by
  intro pins s σ H x y v u Q I rx ry h
  obtain ⟨l, b, xs, zs, rfl, rfl, hH, hB, hz, q⟩ := h
  cases rx
  cases ry
  obtain ⟨z, its, n, r, hl, e⟩ := rd_lst I hH
  obtain ⟨z2, its2, n2, r2, hl2, e2⟩ := rd_lst I hB
  refine PySem.P.add_list e e2 ?_ (by rw [List.size_toArray, List.size_toArray]; omega)
  have ea : its.toArray ++ its2.toArray = (its ++ its2).toArray := by simp
  rw [ea]
  exact ⟨.ref _, _, I.lnew (t' := s.toks) (r.append r2) (by rw [List.length_append]; omega), rfl, q _ I.fresh⟩
def dCat : D → D → Option (List D)
  | .list xs, .list ys => if xs.length + ys.length ≤ 100000 then some (xs ++ ys) else none
  | _, _ => none
theorem ol_cat : OlD K (rCatR K) dCat := fun x y d e zs G H Q hx hy ex h k => by
  cases d <;> cases e <;> first | (simp [dCat] at h; done) | skip
  rename_i xs ys
  have h' : (if xs.length + ys.length ≤ 100000 then some (xs ++ ys) else none) = some zs := h
  by_cases c : xs.length + ys.length ≤ 100000
  · rw [if_pos c] at h'
    cases h'
    cases hx with
    | @lst a vs _ h1 h2 =>
      cases hy with
      | @lst b ws _ h3 h4 => exact ⟨a, b, vs, ws, rfl, rfl, ex.rl h1, ex.rl h3, by rw [h2.length, h4.length]; exact lim_size c, fun p hp => k p _ hp (h2.append h4)⟩
  · rw [if_neg c] at h'; cases h'
/-- [x] * n: the list is one that was just made -/
def repD (xs : List D) (k : Int) : List D := (List.replicate k.toNat xs).flatten
theorem rep_dv {G : Hp} {vs : List V} {xs : List D} (h : DvAll K G vs xs) : ∀ n : Nat, DvAll K G (List.replicate n vs).flatten (List.replicate n xs).flatten
  | 0 => .nil
  | n + 1 => by
    rw [List.replicate_succ, List.flatten_cons, List.replicate_succ, List.flatten_cons]
    exact h.append (rep_dv h n)
noncomputable def lRep (dl : DA) (dk : DE) : DA := fun env => (dl env).bind fun xs e1 => (dk e1).bind fun k e2 => match k with
  | .int n => if I63 n ∧ xs.length * n.toNat ≤ 100000 then .ok (repD xs n) e2 else .stuck
  | _ => .stuck
end
section
variable {X : Cx} {W : WX} {pos : Pos} {a b e : Expr} {da db de : DE} {dl : DA}
theorem cl_rep (ha : CL X W a dl) (hb : CE X W b db) : CL X W (.BinOp a .Mult b pos) (lRep dl db) := pe_imp (pe_op op_rep ha hb) fun σ H Q h => by
  obtain ⟨env, G, R, h⟩ := h
  refine ⟨env, G, R, ?_⟩
  have h' : RunL X.K X.mg W env σ G H ((dl env).bind fun xs e1 => (db e1).bind fun k e2 => match k with
    | .int n => if I63 n ∧ xs.length * n.toNat ≤ 100000 then .ok (repD xs n) e2 else .stuck
    | _ => .stuck) Q := h
  cases q : dl env with
  | stuck => rw [q] at h'; exact h'
  | ex x e => rw [q] at h'; exact h'
  | ok xs e1 =>
    rw [q] at h'
    intro l vs G1 H1 R1 h1 h2 h3 h4 dv F1
    have h5 : RunL X.K X.mg W e1 σ G1 H1 ((db e1).bind fun k e2 => match k with
      | .int n => if I63 n ∧ xs.length * n.toNat ≤ 100000 then .ok (repD xs n) e2 else .stuck
      | _ => .stuck) Q := RunL.shift h' F1
    refine E_thenL R1 h5 fun k e2 y G2 H2 _ R2 dk F2 h6 => ?_
    cases dk with
    | int n =>
      have h7 : RunL X.K X.mg W e2 σ G2 H2 (if I63 n ∧ xs.length * n.toNat ≤ 100000 then .ok (repD xs n) e2 else .stuck) Q := h6
      by_cases c : I63 n ∧ xs.length * n.toNat ≤ 100000
      · rw [if_pos c] at h7
        have hl : H2 l = some (.lst vs) := F2.keep l _ h1 h4
        exact ⟨l, n, vs, rfl, rfl, hl, c.1.1, c.1.2, by rw [dv.length]; exact lim_size c.2, fun p hp => RunL.new R2 h7 hp (rep_dv (dv.up F2.gg) n.toNat)⟩
      · rw [if_neg c] at h7
        exact h7.elim
    | non => exact h6.elim
    | bl _ => exact h6.elim
    | str _ => exact h6.elim
    | lst _ _ => exact h6.elim
    | tup _ _ => exact h6.elim
    | dct _ _ => exact h6.elim
/-- list(range(n)) -/
noncomputable def lRange1 (de : DE) : DA := fun env => (de env).bind fun d e1 => match d with
  | .int n => if IRg n then .ok (rngD 0 n) e1 else .stuck
  | _ => .stuck
theorem rg_dv {K : PySem.W.Frag} {G : Hp} (a b : Int) : DvAll K G (rgV a b) (rngD a b) := by
  unfold rgV rngD
  generalize List.range (b - a).toNat = l
  induction l with
  | nil => exact .nil
  | cons x l ih => exact .cons (.int _) ih
theorem cl_listRg {p p2 p3 : Pos} (hc : X.calm = true) (hml : X.mg "list" = none) (hmr : X.mg "range" = none) (he : CE X W e de) (hgl : Gl X "list" := by rfl) (hgr : Gl X "range" := by rfl) (na : starEach [e] X.env = (false, eval e X.env) :: starEach [] X.env := by rfl)
    (nb : starEach [.Call (.Name "range" p2) [e] [] p3] X.env = (false, eval (.Call (.Name "range" p2) [e] [] p3) X.env) :: starEach [] X.env := by rfl) : CL X W (.Call (.Name "list" p) [.Call (.Name "range" p2) [e] [] p3] [] pos) (lRange1 de) :=
  pe_imp (pe_listRg hc hgl hml (prg_1 hgr hmr he na) nb) fun σ H Q h => by
    obtain ⟨env, G, R, h⟩ := h
    refine E_thenL R h fun k e1 y G1 H1 _ R1 dk F1 h1 => ?_
    cases dk with
    | int n =>
      have h2 : RunL X.K X.mg W e1 σ G1 H1 (if IRg n then .ok (rngD 0 n) e1 else .stuck) Q := h1
      by_cases c : IRg n
      · rw [if_pos c] at h2
        obtain ⟨c1, c2⟩ := c
        exact ⟨n, rfl, ⟨by omega, by omega, by omega, by omega, by omega⟩, fun q hq => RunL.new R1 h2 hq (rg_dv 0 n)⟩
      · rw [if_neg c] at h2
        exact h2.elim
    | non => exact h1.elim
    | bl _ => exact h1.elim
    | str _ => exact h1.elim
    | lst _ _ => exact h1.elim
    | tup _ _ => exact h1.elim
    | dct _ _ => exact h1.elim
/-- a name's list of its own in a comparison whose answer is flat: x != [] -/
def eBinPL (f : D → D → Option D) (i : Nat) (db : DE) : DE := fun env => if (getL i env).isSome then (db env).bind fun y e1 => match getL i e1 with
  | some xs => match f (.list xs) y with
    | some z => if flatD z then .ok z e1 else .stuck
    | none => .stuck
  | none => .stuck else .stuck
end
end DL
/- part DL9 -/
set_option Elab.async false
set_option linter.all false
set_option maxRecDepth 100000
set_option autoImplicit false
/-! DL9: dicts with int and text keys. -/
namespace DL
open PySem L2
def kEq (d : D) (k : Key) : Bool := match d, k with
  | .int i, .inl j => i == j
  | .str x, .inr y => x == y
  | _, _ => false
def keyOf : D → Option Key
  | .int i => some (.inl i)
  | .str x => some (.inr x)
  | _ => none
def valD (kvs : List (D × D)) (k : Key) : Option D := (kvs.find? fun kv => kEq kv.1 k).map (·.2)
def putD (kvs : List (D × D)) (k : Key) (v : D) : List (D × D) := if (kvs.any fun kv => kEq kv.1 k) = true then kvs.map (fun kv => if kEq kv.1 k = true then (kv.1, v) else kv) else kvs ++ [(kD k, v)]
theorem kEq_kD (a k : Key) : kEq (kD a) k = decide (a = k) := by
  cases a <;> cases k <;> simp [kEq, kD, Bool.beq_eq_decide_eq]
theorem keyOf_some {d : D} {k : Key} (h : keyOf d = some k) : d = kD k := by
  cases d <;> simp [keyOf] at h <;> subst h <;> rfl
theorem dv_key {K : PySem.W.Frag} {G : Hp} {v : V} {k : Key} (h : Dv K G v (kD k)) : v = kV k := by
  cases k <;> cases h <;> rfl
section
variable {K : PySem.W.Frag} {G : Hp}
theorem kv_val {k : Key} : ∀ {vs : List (Key × V)} {ds : List (D × D)}, DvKv K G vs ds → (valV vs k = none ∧ valD ds k = none) ∨ ∃ v d, valV vs k = some v ∧ valD ds k = some d ∧ Dv K G v d
  | _, _, .nil => .inl ⟨rfl, rfl⟩
  | _, _, .cons (k := a) (v := v) (d := d) (xs := xs) (ys := ys) x t => by
    by_cases c : a = k
    · refine .inr ⟨v, d, valV_pos c, ?_, x⟩
      unfold valD
      rw [List.find?_cons, kEq_kD, decide_eq_true c]
      rfl
    · have e : valD ((kD a, d) :: ys) k = valD ys k := by
        unfold valD
        rw [List.find?_cons, kEq_kD, decide_eq_false c]
      rw [valV_neg c, e]
      exact kv_val t
theorem kv_any {k : Key} : ∀ {vs : List (Key × V)} {ds : List (D × D)}, DvKv K G vs ds → (vs.any fun kv => decide (kv.1 = k)) = ds.any fun kv => kEq kv.1 k
  | _, _, .nil => rfl
  | _, _, .cons x t => by rw [List.any_cons, List.any_cons, kv_any t, kEq_kD]
theorem kv_map {k : Key} {v : V} {d : D} (h : Dv K G v d) : ∀ {vs : List (Key × V)} {ds : List (D × D)}, DvKv K G vs ds → DvKv K G (vs.map fun kv => if kv.1 = k then (kv.1, v) else kv) (ds.map fun kv => if kEq kv.1 k = true then (kv.1, d) else kv)
  | _, _, .nil => .nil
  | _, _, .cons (k := a) x t => by
    rw [List.map_cons, List.map_cons]
    by_cases c : a = k
    · rw [if_pos c, if_pos (by rw [kEq_kD]; exact decide_eq_true c)]
      exact .cons h (kv_map h t)
    · rw [if_neg c, if_neg (by rw [kEq_kD]; simpa using c)]
      exact .cons x (kv_map h t)
theorem kv_app : ∀ {vs ws : List (Key × V)} {ds es : List (D × D)}, DvKv K G vs ds → DvKv K G ws es → DvKv K G (vs ++ ws) (ds ++ es)
  | _, _, _, _, .nil, s => s
  | _, _, _, _, .cons x t, s => .cons x (kv_app t s)
theorem kv_put {k : Key} {v : V} {d : D} {vs : List (Key × V)} {ds : List (D × D)} (h : DvKv K G vs ds) (hv : Dv K G v d) : DvKv K G (putK vs k v) (putD ds k d) := by
  unfold putK putD
  rw [kv_any h]
  by_cases c : (ds.any fun kv => kEq kv.1 k) = true
  · rw [if_pos c, if_pos c]
    exact kv_map hv h
  · rw [if_neg c, if_neg c]
    exact kv_app h (.cons hv .nil)
theorem kv_len : ∀ {vs : List (Key × V)} {ds : List (D × D)}, DvKv K G vs ds → vs.length = ds.length
  | _, _, .nil => rfl
  | _, _, .cons x t => by rw [List.length_cons, List.length_cons, kv_len t]
end
/-! ### {k: v, ..} -/
def pairsD : List (DE × DE) → DEnv → Rs (List (D × D))
  | [], env => .ok [] env
  | (dk, dv) :: r, env => (dk env).bind fun k e1 => (dv e1).bind fun v e2 => (pairsD r e2).bind fun ps e3 => .ok ((k, v) :: ps) e3
def keysOf : List (D × D) → Option (List (Key × D))
  | [] => some []
  | (k, v) :: r => match keyOf k, keysOf r with
    | some a, some ps => some ((a, v) :: ps)
    | _, _ => none
def mergeP (ds : List (D × D)) (ps : List (Key × D)) : List (D × D) := ps.foldl (fun acc kv => putD acc kv.1 kv.2) ds
def lDisp (prs : List (DE × DE)) : DEnv → Rs (List (D × D)) := fun env => (pairsD prs env).bind fun ps e1 => match keysOf ps with
  | some ks => if ks.length ≤ 15 then .ok (mergeP [] ks) e1 else .stuck
  | none => .stuck
/-- a dict that nobody else holds -/
def RunM (K : PySem.W.Frag) (mg : Str → Option Value) (W : WX) (env : DEnv) (σ : L2.St) (G H : Hp) (r : Rs (List (D × D))) (Q : VK) : Prop := match r with
  | .ok ds env' => ∀ a vs G' H', Rel K env' σ G' H' → H' a = some (.dK vs) → G' a = none → H a = none → ¬ Own env' σ a → DvKv K G' vs ds → Fr env σ G H env' σ G' H' → Q (.ref a) H'
  | .ex x env' => RunX K mg W env σ G H x env'
  | .stuck => False
abbrev DM := DEnv → Rs (List (D × D))
def rdM (K : PySem.W.Frag) (mg : Str → Option Value) (W : WX) (de : DM) : TE := fun σ H Q => ∃ env G, Rel K env σ G H ∧ RunM K mg W env σ G H (de env) Q
abbrev CM (X : Cx) (W : WX) (e : Expr) (de : DM) : Prop := PE X e (rdM X.K X.mg W de)
def eDct (dm : DM) : DE := fun env => (dm env).bind fun ds e1 => .ok (.dict ds) e1
section
variable {K : PySem.W.Frag} {mg : Str → Option Value} {W : WX} {env : DEnv} {σ : L2.St} {G H : Hp}
theorem RunM.of {r : Rs (List (D × D))} {Q : VK} (h' : RunE K mg W env σ G H (r.bind fun xs e1 => .ok (.dict xs) e1) Q) : RunM K mg W env σ G H r Q := by
  cases r with
  | stuck => exact h'
  | ex x e => exact h'
  | ok ds e1 =>
    intro a vs G' H' R' h1 h2 h3 h4 dv F
    have ne : ∀ b, Own e1 σ b → b ≠ a := fun b hb z => by subst z; exact h4 hb
    refine h' (.ref a) (upd G' a (.dK vs)) H' ⟨fun b o hb => ?_, R'.len, fun i s o e1' e2 => ?_, R'.dist⟩ (.dct (.inl upd_same) (dv.up (Ex.new h2)))
      ⟨F.gg.trans (Ex.new h2), F.keep, F.dom, fun b hb => ?_, F.own, F.par⟩
    · by_cases z : b = a
      · subst z; rw [upd_same] at hb; rw [h1]; exact hb
      · rw [upd_ne z] at hb; exact R'.ex b o hb
    · have qq := R'.slot i s o e1' e2
      have own : ∀ b, s.own = true → o = some (.ref b) → b ≠ a := fun b hs ho => ne b ⟨i, ⟨s, e1', hs⟩, by rw [e2, ho]⟩
      cases s with
      | no => trivial
      | v d => obtain ⟨v, e, qq⟩ := qq; exact ⟨v, e, qq.up (Ex.new h2)⟩
      | l xs => obtain ⟨b, vs', e, q1, q2, q3⟩ := qq; exact ⟨b, vs', e, q1, by rw [upd_ne (own b rfl e)]; exact q2, q3.up (Ex.new h2)⟩
      | p xs => obtain ⟨b, vs', e, q1, q2, q3⟩ := qq; exact ⟨b, vs', e, q1, by rw [upd_ne (own b rfl e)]; exact q2, q3.up (Ex.new h2)⟩
      | m xs => obtain ⟨b, vs', e, q1, q2, q3⟩ := qq; exact ⟨b, vs', e, q1, by rw [upd_ne (own b rfl e)]; exact q2, q3.up (Ex.new h2)⟩
      | f x => exact qq
      | a x _ _ => exact ⟨qq.1, qq.2.up (Ex.new h2)⟩
    · by_cases z : b = a
      · subst z; exact .inr (.inl h3)
      · rw [upd_ne z] at hb; exact F.fresh b hb
theorem M_to_E {dm : DM} (σ : L2.St) (H : Hp) (Q : VK) (h : rdE K mg W (eDct dm) σ H Q) : rdM K mg W dm σ H Q := by
  obtain ⟨env, G, R, h⟩ := h
  exact ⟨env, G, R, RunM.of h⟩
/-- pairs by data -/
inductive PrD (K : PySem.W.Frag) (G : Hp) : List (V × V) → List (D × D) → Prop
  | nil : PrD K G [] []
  | cons {k v : V} {dk dv : D} {xs : List (V × V)} {ys : List (D × D)} : Dv K G k dk → Dv K G v dv → PrD K G xs ys → PrD K G ((k, v) :: xs) ((dk, dv) :: ys)
theorem PrD.up {G G' : Hp} (e : Ex G G') : ∀ {xs : List (V × V)} {ys : List (D × D)}, PrD K G xs ys → PrD K G' xs ys
  | _, _, .nil => .nil
  | _, _, .cons a b c => .cons (a.up e) (b.up e) (PrD.up e c)
theorem pairs_ok {prs : List (DE × DE)} : ∀ {env : DEnv} {G H : Hp} (R : Rel K env σ G H) {Q : List (V × V) → Hp → Prop} (_ : match pairsD prs env with
    | .ok ps e1 => ∀ vs G' H', Rel K e1 σ G' H' → PrD K G' vs ps → Fr env σ G H e1 σ G' H' → Q vs H'
    | .ex x e1 => RunX K mg W env σ G H x e1
    | .stuck => False), tPairs (prs.map fun p => (rdE K mg W p.1, rdE K mg W p.2)) σ H Q := by
  induction prs with
  | nil => exact fun R Q h => h [] _ _ R .nil (Fr.refl _ _ _ _)
  | cons p prs ih =>
    intro env G H R Q h
    obtain ⟨dk, dv⟩ := p
    have pd : pairsD ((dk, dv) :: prs) env = (dk env).bind fun k e1 => (dv e1).bind fun v e2 => (pairsD prs e2).bind fun ps e3 => .ok ((k, v) :: ps) e3 := rfl
    rw [pd] at h
    refine ⟨env, G, R, ?_⟩
    show RunE K mg W env σ G H (dk env) _
    cases qk : dk env with
    | stuck => rw [qk] at h; exact h
    | ex x e => rw [qk] at h; exact h
    | ok k e1 =>
      rw [qk] at h
      intro vk G1 H1 R1 dvk F1
      refine ⟨e1, G1, R1, ?_⟩
      show RunE K mg W e1 σ G1 H1 (dv e1) _
      rw [bind_ok] at h
      cases qv : dv e1 with
      | stuck => rw [qv] at h; exact h
      | ex x e => rw [qv] at h; exact RunX.shift h F1
      | ok v e2 =>
        rw [qv] at h
        intro vv G2 H2 R2 dvv F2
        rw [bind_ok] at h
        refine ih R2 ?_
        cases qp : pairsD prs e2 with
        | stuck => rw [qp] at h; exact h
        | ex x e => rw [qp] at h; exact RunX.shift h (F1.trans F2)
        | ok ps e3 =>
          rw [qp] at h
          exact fun vs G3 H3 R3 pr F3 => h _ G3 H3 R3 (.cons ((dvk.up F2.gg).up F3.gg) (dvv.up F3.gg) pr) ((F1.trans F2).trans F3)
theorem keys_pr {G : Hp} : ∀ {vs : List (V × V)} {ps : List (D × D)} {ks : List (Key × D)}, PrD K G vs ps → keysOf ps = some ks → ∃ kvs : List (Key × V), vs = kvs.map (fun kv => (kV kv.1, kv.2)) ∧ kvs.length = ks.length ∧ ∀ {ws : List (Key × V)} {ds : List (D × D)}, DvKv K G ws ds → DvKv K G (mergeK ws kvs) (mergeP ds ks)
  | _, [], ks, .nil, h => by cases h; exact ⟨[], rfl, rfl, fun z => z⟩
  | _, (dk, dv) :: ps, ks, .cons a b c, h => by
    have h' : (match keyOf dk, keysOf ps with
      | some a, some qs => some ((a, dv) :: qs)
      | _, _ => none) = some ks := h
    cases q1 : keyOf dk with
    | none => rw [q1] at h'; cases h'
    | some k0 =>
      cases q2 : keysOf ps with
      | none => rw [q1, q2] at h'; cases h'
      | some qs =>
        rw [q1, q2] at h'
        cases h'
        obtain ⟨kvs, e1, e2, e3⟩ := keys_pr c q2
        have e0 := keyOf_some q1
        subst e0
        have ek := dv_key a
        subst ek
        refine ⟨(k0, _) :: kvs, by rw [List.map_cons, ← e1], by simp [e2], fun {ws ds} z => ?_⟩
        exact e3 (kv_put z b)
end
section
variable {X : Cx} {W : WX} {pos : Pos}
abbrev CPs (X : Cx) (W : WX) (pos : Pos) (keys : List (Option Expr)) (values : List Expr) (prs : List (DE × DE)) : Prop := PPs X pos keys values (prs.map fun p => (rdE X.K X.mg W p.1, rdE X.K X.mg W p.2))
theorem cps_nil : CPs X W pos [] [] [] := pps_nil
theorem cps_cons {k v : Expr} {ks : List (Option Expr)} {vs : List Expr} {dk dv : DE} {prs : List (DE × DE)} (hk : CE X W k dk) (hv : CE X W v dv) (hr : CPs X W pos ks vs prs) : CPs X W pos (some k :: ks) (v :: vs) ((dk, dv) :: prs) := pps_cons hk hv hr
theorem cm_disp {keys : List (Option Expr)} {values : List Expr} {prs : List (DE × DE)} (h : CPs X W pos keys values prs) (hall : keys.all (·.isSome) = true := by rfl) (hl : keys.length = values.length := by rfl) (h0 : keys ≠ [] := by intro z; cases z) (h15 : keys.length ≤ 15 := by decide) : CM X W (.Dict keys values pos) (lDisp prs) :=
  pe_imp (pe_disp h hall hl h0 h15) fun σ H Q h => by
    obtain ⟨env, G, R, h⟩ := h
    intro p hp
    have gp : G p = none := R.ex.none hp
    have np : ¬ Own env σ p := fun z => (z.there R).1 hp
    have R0 : Rel X.K env σ G (upd H p (.dK [])) := R.mutFree gp np
    refine pairs_ok R0 ?_
    have h' : RunM X.K X.mg W env σ G H ((pairsD prs env).bind fun ps e1 => match keysOf ps with
      | some ks => if ks.length ≤ 15 then .ok (mergeP [] ks) e1 else .stuck
      | none => .stuck) Q := h
    have back : ∀ {e1 : DEnv} {G' H' : Hp}, Fr env σ G (upd H p (.dK [])) e1 σ G' H' → Fr env σ G H e1 σ G' H' := fun {e1 G' H'} F =>
      ⟨F.gg, fun a o ha hn => F.keep a o (by rw [upd_ne (ne_of_none ha hp)]; exact ha) hn, fun a ha => by
        have := F.dom a ha
        by_cases z : a = p
        · subst z; exact hp
        · rw [upd_ne z] at this; exact this, fun a ha => by
        rcases F.fresh a ha with w | w | w
        · exact .inl w
        · by_cases z : a = p
          · subst z; exact .inr (.inl hp)
          · rw [upd_ne z] at w; exact .inr (.inl w)
        · exact .inr (.inr w), fun a ha => by
        rcases F.own a ha with w | w
        · exact .inl w
        · by_cases z : a = p
          · subst z; exact .inr hp
          · rw [upd_ne z] at w; exact .inr w, F.par⟩
    cases q : pairsD prs env with
    | stuck => rw [q] at h'; exact h'
    | ex x e => rw [q] at h'; exact fun cls dd G' H' a b c => h' cls dd G' H' a b (back c)
    | ok ps e1 =>
      rw [q, bind_ok] at h'
      intro vs G' H' R' pr F'
      have hp' : H' p = some (.dK []) := F'.keep p _ upd_same np
      have gp' : G' p = none := by
        cases z : G' p with
        | none => rfl
        | some u =>
          rcases F'.fresh p (by rw [z]; exact fun w => by cases w) with w | w | w
          · exact absurd gp w
          · rw [upd_same] at w; cases w
          · exact absurd w np
      have np' : ¬ Own e1 σ p := fun z => by
        rcases F'.own p z with w | w
        · exact np w
        · rw [upd_same] at w; cases w
      cases qk : keysOf ps with
      | none => rw [qk] at h'; exact h'.elim
      | some ks =>
        rw [qk] at h'
        have h2 : RunM X.K X.mg W env σ G H (if ks.length ≤ 15 then .ok (mergeP [] ks) e1 else .stuck) Q := h'
        by_cases c : ks.length ≤ 15
        · rw [if_pos c] at h2
          obtain ⟨kvs, e1', e2, e3⟩ := keys_pr pr qk
          refine ⟨hp', kvs, e1', by omega, ?_⟩
          exact h2 p _ G' _ (R'.mutFree gp' np') upd_same gp' hp np' (e3 .nil) ((back F').mutNew hp (by rw [hp']; exact fun z => by cases z))
        · rw [if_neg c] at h2
          exact h2.elim
/-- {} -/
def lDict0 : DM := fun env => .ok [] env
theorem RunM.new {K : PySem.W.Frag} {mg : Str → Option Value} {env : DEnv} {σ : L2.St} {G H : Hp} {zs : List (D × D)} {vs : List (Key × V)} {Q : VK} {a : Addr} (R : Rel K env σ G H) (h : RunM K mg W env σ G H (.ok zs env) Q) (ha : H a = none) (dv : DvKv K G vs zs) : Q (.ref a) (upd H a (.dK vs)) := by
  have ga : G a = none := R.ex.none ha
  have na : ¬ Own env σ a := fun z => (z.there R).1 ha
  refine h a vs G _ (R.mutFree ga na) upd_same ga ha na dv ⟨Ex.refl _, fun b u hb _ => by rw [upd_ne (ne_of_none hb ha)]; exact hb, fun b hb => ?_, fun _ z => .inl z, fun _ z => .inl z, fun _ xs z => ⟨rfl, xs, z⟩⟩
  by_cases z : b = a
  · subst z; exact ha
  · rw [upd_ne z] at hb; exact hb
theorem cm_new : CM X W (.Dict [] [] pos) lDict0 := pe_imp pe_dnewK fun σ H Q h => by
  obtain ⟨env, G, R, h⟩ := h
  exact fun p hp => RunM.new R h hp .nil
theorem ce_dct {e : Expr} {dm : DM} (h : CM X W e dm) : CE X W e (eDct dm) := pe_imp h fun σ H Q h => M_to_E σ H Q h
/-! ### reading a dict -/
def dGet2 (d k x : D) : Option D := match d with
  | .dict ds => match keyOf k with
    | some a => some ((valD ds a).getD x)
    | none => none
  | _ => none
def eGet2 (dd dk dx : DE) : DE := fun env => (dd env).bind fun d e1 => match d with
  | .dict ds => (dk e1).bind fun k e2 => (dx e2).bind fun x e3 => put (dGet2 (.dict ds) k x) e3
  | _ => .stuck
variable {o e f : Expr} {dd dk dx : DE} {apos : Pos}
theorem m2_of (base : attributeBase o "get" X.env (eval o X.env) = eval o X.env) (line : (apos.endLine == pos.line) = true) (few : ((backTo pos (starEach [e, f] X.env)).all (fun x => !x.1) && (backToKw pos (keywordEach [] X.env)).all (fun x => x.1.isSome)
    && decide (([e, f] : List Expr).length + ([] : List Keyword).length + (if ([] : List Keyword).isEmpty then 0 else 1) < 30)) = true) (trees : backTo pos (starEach [e, f] X.env) = [(false, eval e X.env), (false, eval f X.env)]) : M2 X o "get" apos e f pos := ⟨base, few, line, trees⟩
theorem ce_get2 (hu : X.A.units + 1 < cLine) (ho : CE X W o dd) (he : CE X W e dk) (hf : CE X W f dx) (base : attributeBase o "get" X.env (eval o X.env) = eval o X.env := by rfl) (line : (apos.endLine == pos.line) = true := by rfl)
    (few : ((backTo pos (starEach [e, f] X.env)).all (fun x => !x.1) && (backToKw pos (keywordEach [] X.env)).all (fun x => x.1.isSome) && decide (([e, f] : List Expr).length + ([] : List Keyword).length + (if ([] : List Keyword).isEmpty then 0 else 1) < 30)) = true := by rfl)
    (trees : backTo pos (starEach [e, f] X.env) = [(false, eval e X.env), (false, eval f X.env)] := by rfl) : CE X W (.Call (.Attribute o "get" apos) [e, f] [] pos) (eGet2 dd dk dx) := pe_imp (pe_dget2 hu ho he hf ⟨base, few, line, trees⟩) fun σ H Q h => by
  obtain ⟨env, G, R, h⟩ := h
  refine E_thenE R h fun d e1 v G1 H1 _ R1 dv F1 h1 => ?_
  cases dv with
  | @dct a xs ds h2 h3 =>
    refine ⟨a, rfl, .inl ⟨xs, R1.ex.rd h2⟩, E_thenE R1 h1 fun k e2 w G2 H2 _ R2 dw F2 h4 => E_thenE R2 h4 fun x e3 z G3 H3 _ R3 dz F3 h5 => ?_⟩
    obtain ⟨r, er, kk⟩ := RunE.put R3 h5
    unfold dGet2 at er
    cases q : keyOf k with
    | none => simp [q] at er
    | some key =>
      simp only [q, Option.some.injEq] at er
      have e0 := keyOf_some q
      subst e0
      have ew := dv_key dw
      subst ew
      refine ⟨valV xs key, .inl ⟨xs, key, R3.ex.rd (F3.gg.rd (F2.gg.rd h2)), rfl, rfl⟩, ?_⟩
      rcases kv_val (k := key) h3 with ⟨n1, n2⟩ | ⟨v1, d1, n1, n2, n3⟩
      · rw [n1]
        rw [n2] at er
        exact kk _ G3 H3 (by rw [← er]; exact dz) (Grow.refl R3.ex)
      · rw [n1]
        rw [n2] at er
        exact kk _ G3 H3 (by rw [← er]; exact (n3.up F2.gg).up F3.gg) (Grow.refl R3.ex)
  | non => exact h1.elim
  | bl _ => exact h1.elim
  | int _ => exact h1.elim
  | str _ => exact h1.elim
  | lst _ _ => exact h1.elim
  | tup _ _ => exact h1.elim
end
end DL
/- part DL10 -/
set_option Elab.async false
set_option linter.all false
set_option maxRecDepth 100000
set_option autoImplicit false
/-! DL10: defs by names; the law's end. -/
namespace DL
open PySem L2
/-- a def of the top, where it stands -/
abbrev FnT (K : PySem.W.Frag) (x : Str) (st : Stmt) (fd : FuncData) : Prop := FunD K x x (defArgs st) (defBody st) (defScope st) [] [] (He.ga K x) fd
/-- what a caller knows of a def -/
structure Cal (P : Program) (w : World) (K : PySem.W.Frag) (mg : Str → Option Value) (base : Heap) (k : Nat) (x : Str) (np : Nat) (F : Df) : Prop where
  ex : ∃ (fd : FuncData) (ps : List Str), ps.length = np ∧ FnOk P w K mg base (L2N.CX P w) k (He.ga K x) fd ps (spD K mg ps.length F) ∧ Binds K fd ps []
  mg_ : mg x = some (.ref (He.ga K x))
  kp : PySem.W.keepIn K (.ref (He.ga K x)) = true
section
variable {P : Program} {w : World} {K : PySem.W.Frag} {mg : Str → Option Value} {base : Heap}
theorem fn_bodyD {x : Str} {st : Stmt} {fd : FuncData} {N ps : List Str} {k : Nat} {ds : DS} (F : FnT K x st fd) (S : FnScope N ps (defScope st)) (hps : ps.length ≤ N.length)
    (hbody : ∀ (cdv : Value) (A : Around) (outer : List Env) (s : Shared) (H : Hp) (E : XK), Room k (A.deeper (PyProof.Rows.envOfC x (defScope st) s.heap.objs.size (He.ga K x) cdv)) →
      CSs (cxOf (L2N.CX P w) P w K mg base N x (defScope st) (He.ga K x) cdv A outer s H E) (fun cls d _ H => E cls d H) (defBody st) ds) :
    FnOk P w K mg base (L2N.CX P w) (k + 1) (He.ga K x) fd ps (spD K mg ps.length (bodyF N.length ds)) := by
  obtain ⟨oc, od, dV, kV, doc, pm, an, cdv, ct, osl, rfl, lk, hcd, _, _⟩ := F.ex
  refine fn_of lk hcd S (fun vs H Q E h => h.1) fun A outer s H vs Q E hr h => ⟨_, hbody cdv A outer s H E hr, ?_⟩
  obtain ⟨hl, args, G, R, h⟩ := h
  have hn : vs.length ≤ N.length := by omega
  refine ⟨_, G, rel_start (N := N) R hn, ?_⟩
  have h' : RunF K mg args (vs.map some) G H (match ds (args ++ List.replicate (N.length - args.length) Sl.no) with
    | .nx e => .ok .none (outsOf args e)
    | .rt d e => .ok d (outsOf args e)
    | .rl xs e => .okl xs (outsOf args e)
    | .ex x e => .ex x (outsOf args e)
    | _ => .stuck) Q E := h
  cases q : ds (args ++ List.replicate (N.length - args.length) Sl.no) with
  | nx e =>
    rw [q] at h'
    exact fun σ' G' H' R' F' => let ⟨a, b, _⟩ := ends_fr R hn R' F'; h' .non G' H' a .non b
  | rt d e =>
    rw [q] at h'
    exact fun v σ' G' H' R' dv F' => let ⟨a, b, _⟩ := ends_fr R hn R' F'; h' v G' H' a dv b
  | rl d e =>
    rw [q] at h'
    exact fun a vs' σ' G' H' R' h1 h2 h3 h4 dv F' => let ⟨r, b, c⟩ := ends_fr R hn R' F'; h' a vs' G' H' r h1 h2 h3 (fun z => h4 (c a z)) dv b
  | ex x e =>
    rw [q] at h'
    exact fun cls dd σ' G' H' xr R' F' => let ⟨a, b, _⟩ := ends_fr R hn R' F'; h' cls dd G' H' xr a b
  | bk e => rw [q] at h'; exact h'.elim
  | ct e => rw [q] at h'; exact h'.elim
  | stuck => rw [q] at h'; exact h'.elim
/-- THE RULE: a def of the top keeps what its function on data says -/
theorem cal_of {x : Str} {st : Stmt} {N ps : List Str} {k : Nat} {ds : DS} (D : ∃ fd, FnT K x st fd) (g : mg x = some (.ref (He.ga K x))) (S : FnScope N ps (defScope st)) (hps : ps.length ≤ N.length)
    (hb : ∀ (kV doc pm : Value) (an : Option Addr) (cdv ct : Value) (us : List Value), us.length = ps.length → bindArgs (PySem.W.fnOf x x (defArgs st) (defBody st) (defScope st) .none kV doc pm an cdv ct) ⟨us, []⟩ = pure (ps.zip us))
    (hbody : ∀ (cdv : Value) (A : Around) (outer : List Env) (s : Shared) (H : Hp) (E : XK), Room k (A.deeper (PyProof.Rows.envOfC x (defScope st) s.heap.objs.size (He.ga K x) cdv)) →
      CSs (cxOf (L2N.CX P w) P w K mg base N x (defScope st) (He.ga K x) cdv A outer s H E) (fun cls d _ H => E cls d H) (defBody st) ds) :
    Cal P w K mg base (k + 1) x ps.length (bodyF N.length ds) := by
  obtain ⟨fd, F⟩ := D
  exact ⟨⟨fd, ps, rfl, fn_bodyD F S hps hbody, F.bindsN hb⟩, g, F.kp⟩
theorem Cal.mono {j k : Nat} {x : Str} {np : Nat} {F : Df} (C : Cal P w K mg base j x np F) (h : j ≤ k) : Cal P w K mg base k x np F :=
  let ⟨fd, ps, e, f, b⟩ := C.ex
  ⟨⟨fd, ps, e, f.mono h, b⟩, C.mg_, C.kp⟩
end
section
variable {X : Cx} {W : WX} {pos p : Pos} {e : Expr} {es : List Expr} {da : DAr} {j k np : Nat} {F : Df} {x : Str}
theorem passF (σ : L2.St) : PassesAt (L2N.CX X.prog X.w) X σ (WE WF σ) := fun _ _ _ _ _ _ h => by
  obtain ⟨_, _, _, _, _, _, _, _, _, _, _, _, z⟩ := h
  exact z.elim
theorem ce_callC (C : Cal X.prog X.w X.K X.mg X.base j x np F) (hr : Room k X.A) (hjk : j ≤ k) (tk : ∀ σ, PassesAt (L2N.CX X.prog X.w) X σ (WE W σ)) (ha : CR X W (e :: es) da) (hg : Gl X x := by rfl)
    (hdb : (x == ("__debug__" : Str)) = false := by decide) (he : starEach (e :: es) X.env = (false, eval e X.env) :: starEach es X.env := by rfl) (hpl : (backTo pos (starEach es X.env)).any (·.1) = false := by rfl) :
    CE X W (.Call (.Name x p) (e :: es) [] pos) (eCallN np F da) := by
  obtain ⟨fd, ps, rfl, f, b⟩ := C.ex
  exact ce_call f (hr.mono hjk) C.mg_ C.kp b tk ha hg hdb he hpl
theorem cl_callC (C : Cal X.prog X.w X.K X.mg X.base j x np F) (hr : Room k X.A) (hjk : j ≤ k) (tk : ∀ σ, PassesAt (L2N.CX X.prog X.w) X σ (WE W σ)) (ha : CR X W (e :: es) da) (hg : Gl X x := by rfl)
    (hdb : (x == ("__debug__" : Str)) = false := by decide) (he : starEach (e :: es) X.env = (false, eval e X.env) :: starEach es X.env := by rfl) (hpl : (backTo pos (starEach es X.env)).any (·.1) = false := by rfl) :
    CL X W (.Call (.Name x p) (e :: es) [] pos) (lCallN np F da) := by
  obtain ⟨fd, ps, rfl, f, b⟩ := C.ex
  exact cl_call f (hr.mono hjk) C.mg_ C.kp b tk ha hg hdb he hpl
/-- f(): nothing is handed in -/
def eCall0 (F : Df) : DE := fun env => match F [] with
  | .ok d _ => .ok d env
  | .okl xs _ => .ok (.list xs) env
  | _ => .stuck
theorem rel_nil {K : PySem.W.Frag} {G H : Hp} (ex : Ex G H) : Rel K [] [] G H := ⟨ex, rfl, fun i s o h => by simp at h, fun i j a ⟨⟨s, h, _⟩, _⟩ => by simp at h⟩
theorem own_nil {σ : L2.St} {a : Addr} : ¬ Own [] σ a := fun ⟨i, ⟨s, h, _⟩, _⟩ => by simp at h
/-- the frame of a call without arguments -/
theorem fr_nil {K : PySem.W.Frag} {env outs : DEnv} {σ : L2.St} {G H G' H' : Hp} (R : Rel K env σ G H) (R' : Rel K outs [] G' H') (F : Fr [] [] G H outs [] G' H') : Grow G H G' H' :=
  ⟨F.gg, fun a o h => F.keep a o h own_nil, R'.ex, fun a h => by
    rcases F.fresh a h with w | w | w
    · exact .inl w
    · exact .inr w
    · exact (own_nil w).elim⟩
theorem ce_call0C (C : Cal X.prog X.w X.K X.mg X.base j x 0 F) (hr : Room k X.A) (hjk : j ≤ k) (hg : Gl X x := by rfl) (hdb : (x == ("__debug__" : Str)) = false := by decide) : CE X W (.Call (.Name x p) [] [] pos) (eCall0 F) := by
  obtain ⟨fd, ps, e0, f, b⟩ := C.ex
  refine pe_imp (pe_call0 f (hr.mono hjk) hg C.mg_ C.kp b .nil (E := E0) (fun _ _ _ _ _ _ _ h => let ⟨_, _, _, _, _, _, _, _, _, _, _, _, z⟩ := h; z.elim) hdb) fun σ H Q h => ?_
  obtain ⟨env, G, R, h⟩ := h
  show spD X.K X.mg ps.length F [] H Q E0
  refine ⟨e0.symm, [], G, rel_nil R.ex, ?_⟩
  unfold eCall0 at h
  cases q : F [] with
  | stuck => rw [q] at h; exact h
  | ex x outs => rw [q] at h; exact h.elim
  | ok d outs =>
    rw [q] at h
    intro v G' H' R' dv F'
    have g := fr_nil R R' F'
    exact h v G' H' (R.grow g) dv (g.fr env σ)
  | okl xs outs =>
    rw [q] at h
    intro a vs G' H' R' h1 h2 h3 h4 dv F'
    have g := fr_nil R R' F'
    have hl : RunL X.K X.mg W env σ G H (Rs.ok xs env) Q := RunL.of h
    exact hl a vs G' H' (R.grow g) h1 h2 h3 (fun z => (z.there R).1 h3) dv (g.fr env σ)
end
/-! ### the law's end -/
/-- the script as data -/
def scriptD (ns : List Int) : D := .list (ns.map PyData.int)
theorem script_sp {K : PySem.W.Frag} {mg : Str → Option Value} {H : Hp} {a : Addr} {ns : List Int} {F : Df} {outs : DEnv} (h : RL K H a (ns.map V.int)) (e : F [.v (scriptD ns)] = .ok (.bool true) outs) : spD K mg 1 F [.ref a] H (fun v _ => v = .bl true) fun _ _ _ => False := by
  refine ⟨rfl, [.v (scriptD ns)], H, ⟨Ex.refl _, rfl, fun i s o h1 h2 => ?_, fun i j b ⟨⟨s, h1, h2⟩, _⟩ => ?_⟩, ?_⟩
  · match i, h1, h2 with
    | 0, h1, h2 =>
      cases h1
      cases h2
      exact ⟨_, rfl, .lst h (DvAll.of_ints ns)⟩
  · match i, h1 with
    | 0, h1 => cases h1; cases h2
  · rw [e]
    intro v G' H' R' dv F'
    cases dv
    rfl
theorem walk_ofR {l : PySem.W.OpenLaw} {n k : Nat} {q : Program} {loose : List Str} {XP : (Str → Option Value) → Heap → Prop} {YP : World → Heap → Prop} {d : DefRec} {F : Df}
    (hn : l.most = some n) (hn2 : n ≤ sizeLine) (hdf : d.params.defaults = []) (hr : Room k callerA) (hnm : d.name = "law")
    (hF : ∀ ns : List Int, ns.length ≤ n → ∃ outs, F [.v (scriptD ns)] = .ok (.bool true) outs)
    (hC : ∀ (w : World) (mg : Str → Option Value) (h : Heap), YP w h → h.Ns mainGlobals mg →
      ∃ (K : PySem.W.Frag) (fd : FuncData), K.In h ∧ mg "law" = some (.ref (He.ga K "law")) ∧ (∀ (s : Shared) (u : Value), BindsTo s fd ⟨[u], []⟩ [("script", u)]) ∧
        ∀ base : Heap, K.In base → base.Ns mainGlobals mg → FnOk l.prog w K mg base (L2N.CX l.prog w) k (He.ga K "law") fd ["script"] (spD K mg 1 F)) :
    PySem.W.WalkO q loose XP YP l.row.toRowW d [] (fun f vs => PySem.call f vs) := by
  refine Att.attach_call hn hdf fun w s0 s1 mg mb fa o pm cd doc a vs ns Gr Y ho hd hcd hmg hobj hints hlen hgen => ?_
  obtain ⟨K, fd, KX, hg, hb, hFn⟩ := hC w mg _ Y Gr.T.g
  rw [hnm, hg] at hmg
  cases hmg
  obtain ⟨outs, he⟩ := hF ns hlen
  refine law_call KX Gr.T.g Gr.T.b Gr.T.builtins Gr.T.nolimit hgen hobj hints (Nat.le_trans hlen hn2) hr hFn hb (fun H hO hS => script_sp ?_ he) fun H e s' hx => ?_
  · rcases hS with h | ⟨oo, its, m, h1, h2, h3, h4, h5, h6⟩
    · exact .inl h
    · have e1 := KX a oo h1
      rw [hobj] at e1
      cases e1
      exact .inr ⟨vs.toArray, _, h1, by cases h4; exact h5, by cases h4; exact h6⟩
  · obtain ⟨_, _, _, _, _, _, _, _, _, _, _, _, z⟩ := hx
    exact z
end DL
/- part DL11 -/
set_option Elab.async false
set_option linter.all false
set_option maxRecDepth 100000
set_option autoImplicit false
/-! DL11: small things for the printed walks; the head's facts. -/
namespace DL
open PySem L2
def rLendC (i : Nat) (da : DAr) : DAr := fun env => if lent i env then (da env).bind fun xs e2 => if lent i e2 then .ok (.s i :: xs) e2 else .stuck else .stuck
/-- how many turns a while is given at most -/
theorem fuel_ex : ∃ n : Nat, 1000000 ≤ n := ⟨1000000, Nat.le_refl _⟩
/-- how often a loop may go on: nothing looks into it -/
noncomputable def FUEL : Nat := Classical.choose fuel_ex
theorem fuel_le : 1000000 ≤ FUEL := Classical.choose_spec fuel_ex
/-- a tuple of texts, written at the top -/
def GloT (K : PySem.W.Frag) (mg : Str → Option Value) (x : Str) (ss : List Str) : Prop := mg x = some (.ref (He.ga K x)) ∧ ∀ H : Hp, SqN K H (He.ga K x) (ss.map V.str)
theorem ce_globT2 {X : Cx} {W : WX} {pos : Pos} {x : Str} {ss : List Str} (h : GloT X.K X.mg x ss) (hg : Gl X x := by rfl) (hdb : (x == ("__debug__" : Str)) = false := by decide) : CE X W (.Name x pos) (eC (.tuple (ss.map PyData.str))) := by
  refine pe_imp (pe_glob hg h.1 (v := .ref (He.ga X.K x)) rfl hdb) (c_ok fun G => .tup (xs := ss.map V.str) (h.2 G) ?_)
  have all : ∀ ss : List Str, DvAll X.K G (ss.map V.str) (ss.map PyData.str) := fun ss => by
    induction ss with
    | nil => exact .nil
    | cons s ss ih => exact .cons (.str s) ih
  exact all ss
/-! ### the head's facts with one more truth -/
def obsB (n : Nat) (fa : List He.Fa) (fn : List He.DefD) (ex : PySem.W.Frag → Bool) (g : Addr → Option Obj) : He.AlD × Bool := (He.obsD fa fn (He.frG g (He.asD g n)), ex (He.frG g (He.asD g n)))
def hookB (n : Nat) (fa : List He.Fa) (fn : List He.DefD) (ex : PySem.W.Frag → Bool) : PySem.W.Hook where
  α := He.AlD × Bool
  obs := fun s => obsB n fa fn ex s.heap.get?
  val := fun _ => (He.valD fn, true)
  says := fun _ h => ∃ K : PySem.W.Frag, K.In h ∧ He.SaysD fa fn K ∧ ex K = true
  of := fun _ _ e => ⟨_, He.frG_in, congrArg (fun z : He.AlD × Bool => z.1) e, congrArg (fun z : He.AlD × Bool => z.2) e⟩
  keeps := fun _ _ _ ⟨K, hK, c⟩ k => ⟨K, PySem.W.Frag.In.keeps hK k, c⟩
theorem obsB_eq {n : Nat} {fa : List He.Fa} {fn : List He.DefD} {ex : PySem.W.Frag → Bool} {g : Addr → Option Obj} {s : Shared} (h : ∀ a, g a = s.heap.get? a) : obsB n fa fn ex g = (hookB n fa fn ex).obs s := by
  have e : g = s.heap.get? := funext h
  rw [e] <;> rfl
/-- a def of the top as the head's facts name it -/
def defD (x : Str) (st : Stmt) : He.DefD := ⟨(x, none), x, x, defArgs st, defBody st, defScope st, [], []⟩
def tupBN (K : PySem.W.Frag) (x : Str) (vs : List He.Dv) : Bool := match K.lookup (He.ga K x) with
  | some ⟨.type c, none, .seq its _, _⟩ => decide (c = "tuple") && (decide (its.size ≤ sizeLine) && He.relAll (vs.map (He.Dv.v K)) its.toList)
  | _ => false
theorem tupBN_ok {K : PySem.W.Frag} {x : Str} {vs : List He.Dv} (h : tupBN K x vs = true) (H : Hp) : SqN K H (He.ga K x) (vs.map (He.Dv.v K)) := by
  unfold tupBN at h
  cases q : K.lookup (He.ga K x) with
  | none =>
    rw [q] at h
    cases h
  | some o =>
    obtain ⟨oc, od, dt, osl⟩ := o
    rw [q] at h
    cases oc with
    | type c =>
      cases od with
      | some _ => cases dt <;> cases h
      | none =>
        cases dt with
        | seq its n =>
          obtain ⟨h1, h2⟩ := He.ba (show (decide (c = "tuple") && (decide (its.size ≤ sizeLine) && He.relAll (vs.map (He.Dv.v K)) its.toList)) = true from h)
          obtain ⟨h3, h4⟩ := He.ba h2
          exact .inr ⟨_, its, n, q, congrArg Value.type (of_decide_eq_true h1), rfl, rfl, of_decide_eq_true h3, He.relAll_ok h4⟩
        | _ => cases h
    | _ => cases od <;> cases dt <;> cases h
end DL
/- part DL12 -/
set_option Elab.async false
set_option linter.all false
set_option maxRecDepth 100000
set_option autoImplicit false
/-! DL12: dicts of the def's own. -/
namespace DL
open PySem L2
def getM (i : Nat) (env : DEnv) : Option (List (D × D)) := match env[i]? with
  | some (.m xs) => some xs
  | _ => none
/-- a dict to be read: of the def's own, or data -/
def seeM (i : Nat) (env : DEnv) : Option (List (D × D)) := match env[i]? with
  | some (.m xs) => some xs
  | some (.v (.dict xs)) => some xs
  | _ => none
def sAsgM (i : Nat) (dm : DM) : DS := fun env => (dm env).fl fun xs e1 => match setV i (.m xs) e1 with
  | some e2 => .nx e2
  | none => .stuck
def sPutM (i : Nat) (dk dv : DE) : DS := fun env => (dv env).fl fun v e1 => if known i e1 then (dk e1).fl fun k e2 => match getM i e2, keyOf k with
  | some xs, some a => if xs.length < 100000 then .nx (e2.set i (.m (putD xs a v))) else .stuck
  | _, _ => .stuck else .stuck
def eInM (dk : DE) (i : Nat) : DE := fun env => (dk env).bind fun k e1 => match seeM i e1, keyOf k with
  | some xs, some a => .ok (.bool (valD xs a).isSome) e1
  | _, _ => .stuck
def eNotInM (dk : DE) (i : Nat) : DE := fun env => (dk env).bind fun k e1 => match seeM i e1, keyOf k with
  | some xs, some a => .ok (.bool (!(valD xs a).isSome)) e1
  | _, _ => .stuck
def eIxM (i : Nat) (dk : DE) : DE := fun env => if known i env then (dk env).bind fun k e1 => match seeM i e1, keyOf k with
  | some xs, some a => put (valD xs a) e1
  | _, _ => .stuck else .stuck
def eGetM (i : Nat) (dk : DE) : DE := fun env => if (seeM i env).isSome then (dk env).bind fun k e1 => match seeM i e1, keyOf k with
  | some xs, some a => .ok ((valD xs a).getD .none) e1
  | _, _ => .stuck else .stuck
def eGetM2 (i : Nat) (dk dx : DE) : DE := fun env => if (seeM i env).isSome then (dk env).bind fun k e1 => (dx e1).bind fun x e2 => match seeM i e2, keyOf k with
  | some xs, some a => .ok ((valD xs a).getD x) e2
  | _, _ => .stuck else .stuck
section
variable {K : PySem.W.Frag} {mg : Str → Option Value} {W : WX} {env : DEnv} {σ : L2.St} {G H : Hp} {i : Nat} {xs : List (D × D)}
theorem getM_some (h : getM i env = some xs) : env[i]? = some (.m xs) := by
  unfold getM at h
  cases q : env[i]? with
  | none => rw [q] at h; cases h
  | some s =>
    rw [q] at h
    cases s with
    | m ys => cases h; rfl
    | p ys => cases h
    | f x => cases h
    | a x _ _ => cases h
    | no => cases h
    | v d => cases h
    | l d => cases h
theorem own_getM (R : Rel K env σ G H) (h : getM i env = some xs) : ∃ a vs, σ[i]? = some (some (.ref a)) ∧ H a = some (.dK vs) ∧ G a = none ∧ DvKv K G vs xs ∧ OwnAt env σ i a := by
  have q := getM_some h
  have li : i < σ.length := by rw [← R.len]; exact (List.getElem?_eq_some_iff.mp q).1
  have ho : σ[i]? = some σ[i] := List.getElem?_eq_getElem li
  obtain ⟨a, vs, e, h1, h2, h3⟩ := R.slot i _ _ q ho
  rw [e] at ho
  exact ⟨a, vs, ho, h1, h2, h3, ⟨_, q, rfl⟩, ho⟩
theorem see_get (R : Rel K env σ G H) (h : seeM i env = some xs) : ∃ a vs, σ[i]? = some (some (.ref a)) ∧ Rd H a (.dK vs) ∧ DvKv K G vs xs := by
  unfold seeM at h
  cases q : env[i]? with
  | none => rw [q] at h; cases h
  | some s =>
    rw [q] at h
    obtain ⟨o, ho, rs⟩ := peekV R q
    cases s with
    | m ys =>
      cases h
      obtain ⟨a, vs, e, h1, h2, h3⟩ := rs
      exact ⟨a, vs, by rw [ho, e], .inl h1, h3⟩
    | p ys => cases h
    | f x => cases h
    | a x _ _ => cases h
    | no => cases h
    | v d =>
      cases d with
      | dict ys =>
        cases h
        obtain ⟨v, e, dv⟩ := rs
        cases dv with
        | @dct a ws _ h2 h3 => exact ⟨a, ws, by rw [ho, e], R.ex.rd h2, h3⟩
      | none => cases h
      | bool _ => cases h
      | int _ => cases h
      | str _ => cases h
      | list _ => cases h
      | tuple _ => cases h
    | l d => cases h
theorem setM_own (h : getM i env = some xs) {ys : List (D × D)} {j : Nat} {a : Addr} (o : OwnAt (env.set i (.m ys)) σ j a) : OwnAt env σ j a := by
  obtain ⟨⟨s, e1, e2⟩, e3⟩ := o
  have q := getM_some h
  by_cases c : j = i
  · subst c
    exact ⟨⟨_, q, rfl⟩, e3⟩
  · rw [List.getElem?_set_ne (Ne.symm c)] at e1
    exact ⟨⟨s, e1, e2⟩, e3⟩
theorem own_putM (R : Rel K env σ G H) (h : getM i env = some xs) {a : Addr} {vs vs' : List (Key × V)} {ys : List (D × D)} (ho : σ[i]? = some (some (.ref a))) (h1 : H a = some (.dK vs)) (h2 : G a = none) (o : OwnAt env σ i a) (dv : DvKv K G vs' ys) :
    Rel K (env.set i (.m ys)) σ G (upd H a (.dK vs')) ∧ Fr env σ G H (env.set i (.m ys)) σ G (upd H a (.dK vs')) := by
  have li : i < env.length := (List.getElem?_eq_some_iff.mp (getM_some h)).1
  refine ⟨⟨fun b u hb => ?_, by rw [List.length_set]; exact R.len, fun j s u e1 e2 => ?_, fun j k b x y => R.dist j k b (setM_own h x) (setM_own h y)⟩,
    ⟨Ex.refl _, fun b u hb hn => ?_, fun b hb => ?_, fun b hb => .inl hb, fun b ⟨j, z⟩ => .inl ⟨j, setM_own h z⟩, fun j zs hj => ?_⟩⟩
  · rw [upd_ne (fun z => by subst z; rw [h2] at hb; cases hb)]
    exact R.ex b u hb
  · by_cases c : j = i
    · subst c
      rw [ho] at e2
      cases e2
      rw [List.getElem?_set_self li] at e1
      cases e1
      exact ⟨a, vs', rfl, upd_same, h2, dv⟩
    · rw [List.getElem?_set_ne (Ne.symm c)] at e1
      have q := R.slot j s u e1 e2
      have nb : ∀ b, s.own = true → u = some (.ref b) → b ≠ a := fun b hs hb z => by
        subst z
        exact c (R.dist j i b ⟨⟨s, e1, hs⟩, by rw [e2, hb]⟩ o)
      cases s with
      | no => trivial
      | v d => exact q
      | l ys => obtain ⟨b, ws, e, q1, q2, q3⟩ := q; exact ⟨b, ws, e, by rw [upd_ne (nb b rfl e)]; exact q1, q2, q3⟩
      | p ys => obtain ⟨b, ws, e, q1, q2, q3⟩ := q; exact ⟨b, ws, e, by rw [upd_ne (nb b rfl e)]; exact q1, q2, q3⟩
      | m ys => obtain ⟨b, ws, e, q1, q2, q3⟩ := q; exact ⟨b, ws, e, by rw [upd_ne (nb b rfl e)]; exact q1, q2, q3⟩
      | f x => exact q
      | a x _ _ => exact q
  · rw [upd_ne (fun z => by subst z; exact hn ⟨i, o⟩)]
    exact hb
  · by_cases c : b = a
    · subst c; rw [upd_same] at hb; cases hb
    · rw [upd_ne c] at hb; exact hb
  · by_cases c : j = i
    · subst c
      rw [List.getElem?_set_self li] at hj
      cases hj
    · rw [List.getElem?_set_ne (Ne.symm c)] at hj
      exact ⟨rfl, zs, hj⟩
theorem M_thenS {dm : DM} {f : List (D × D) → DEnv → Fl} {E : Ends} {R : VK} (hR : Rel K env σ G H) (h : RunS K mg W env σ G H ((dm env).fl f) E)
    (k : ∀ ds e1 a vs G1 H1, dm env = .ok ds e1 → Rel K e1 σ G1 H1 → H1 a = some (.dK vs) → G1 a = none → H a = none → ¬ Own e1 σ a → DvKv K G1 vs ds → Fr env σ G H e1 σ G1 H1 → RunS K mg W env σ G H (f ds e1) E → R (.ref a) H1) : rdM K mg W dm σ H R := by
  refine ⟨env, G, hR, ?_⟩
  cases q : dm env with
  | ok d e1 =>
    rw [q] at h
    exact fun a vs G1 H1 a1 a2 a3 a4 a5 a6 c => k d e1 a vs G1 H1 q a1 a2 a3 a4 a5 a6 c h
  | ex x e => rw [q] at h; exact RunXS.toX h
  | stuck => rw [q] at h; exact h.elim
theorem setM_ok {dm : DM} (E : Ends) (σ : L2.St) (H : Hp) (h : rdS K mg W (sAsgM i dm) E σ H) : tAsg (rdM K mg W dm) (gName i) E σ H := by
  obtain ⟨env, G, R, h⟩ := h
  refine M_thenS R h fun xs e1 a vs G1 H1 _ R1 h1 h2 h3 h4 dv F1 hk => ?_
  cases q : setV i (.m xs) e1 with
  | none => rw [q] at hk; exact hk.elim
  | some e2 =>
    rw [q] at hk
    obtain ⟨s0, a1, a2, rfl⟩ := setV_some q
    have li : i < e1.length := (List.getElem?_eq_some_iff.mp a1).1
    refine hk (σ.set i (some (.ref a))) G1 H1 (R1.set a1 a2 ⟨a, vs, rfl, h1, h2, dv⟩ (fun _ z => nomatch z) fun _ b hb => by cases hb; exact h4) ⟨F1.gg, F1.keep, F1.dom, F1.fresh, fun b ⟨j, ⟨t, e1', e2⟩, e3⟩ => ?_, fun j ys hj => ?_⟩
    · by_cases z : j = i
      · subst z
        rw [List.getElem?_set_self (by rw [← R1.len]; exact li)] at e3
        cases e3
        exact .inr h3
      · rw [List.getElem?_set_ne (Ne.symm z)] at e1' e3
        exact F1.own b ⟨j, ⟨t, e1', e2⟩, e3⟩
    · by_cases z : j = i
      · subst z
        rw [List.getElem?_set_self li] at hj
        cases hj
      · rw [List.getElem?_set_ne (Ne.symm z)] at hj ⊢
        exact F1.par j ys hj
end
section
variable {X : Cx} {W : WX} {pos : Pos} {b e : Expr} {db de dx : DE} {i : Nat} {x : Str} {p p2 apos : Pos} {f : Expr}
theorem cs_setM {pos' : Pos} {dm : DM} (hN : X.N.Nodup) (he : CM X W e dm) (hi : X.N[i]? = some x := by rfl) (hx : Loc X.env.scope x := by first | exact Or.inl rfl | exact Or.inr rfl) (hs : swapsWith e (some (.Name x pos')) pos.line X.env = pure false := by rfl) (hf : X.fn x = true ∨ X.env.scope.names.lookup x = some .local := by first | exact .inl rfl | exact .inr rfl | assumption) :
    CS X W (.Assign [.Name x pos'] e pos) (sAsgM i dm) := ps_imp (ps_set hN hi hx he hs hf) setM_ok
theorem cs_putM (hu : X.A.units + 1 < cLine) (hk : CE X W b db) (he : CE X W e de) (hN : X.N[i]? = some x := by rfl) (hv : Vis X.env.scope x := by first | exact Or.inl rfl | exact Or.inr (Or.inl rfl) | exact Or.inr (Or.inr rfl)) (hd : (x == ("__debug__" : Str)) = false := by decide)
    (hcd : (x == ("__classdict__" : Str)) = false := by decide) (hs : swapsWith e (some (.Subscript (.Name x p) b p2)) pos.line X.env = pure false := by rfl) : CS X W (.Assign [.Subscript (.Name x p) b p2] e pos) (sPutM i db de) :=
  ps_imp (ps_dput hu (pe_var hN hv hd hcd) hk he hs) fun E σ H h => by
    obtain ⟨env, G, R, h⟩ := h
    refine E_thenS R h fun d e1 v G1 H1 _ R1 dv F1 h1 => ?_
    by_cases c : known i e1 = true
    · rw [if_pos c] at h1
      obtain ⟨o, ho⟩ := known_v R1 c
      refine ⟨o, ho, E_thenS R1 h1 fun k e2 y G2 H2 _ R2 dk F2 h2 => ?_⟩
      cases q : getM i e2 with
      | none => rw [q] at h2; exact h2.elim
      | some xs =>
        rw [q] at h2
        cases qk : keyOf k with
        | none => rw [qk] at h2; exact h2.elim
        | some key =>
          rw [qk] at h2
          have h3 : RunS X.K X.mg W e2 σ G2 H2 (if xs.length < 100000 then .nx (e2.set i (.m (putD xs key d))) else .stuck) E := h2
          by_cases cl : xs.length < 100000
          · rw [if_pos cl] at h3
            have e0 := keyOf_some qk
            subst e0
            have ew := dv_key dk
            subst ew
            obtain ⟨a, vs, x1, x2, x3, x4, x5⟩ := own_getM R2 q
            rw [ho] at x1
            cases x1
            obtain ⟨r1, r2⟩ := own_putM R2 q ho x2 x3 x5 (kv_put (k := key) x4 (dv.up F2.gg))
            exact ⟨a, _, rfl, DPut.k x2 (by rw [kv_len x4]; exact Nat.lt_of_lt_of_le cl (by decide)), h3 σ G2 _ r1 r2⟩
          · rw [if_neg cl] at h3; exact h3.elim
    · rw [if_neg c] at h1
      exact h1.elim
theorem in_run {K : PySem.W.Frag} {mg : Str → Option Value} {e1 : DEnv} {σ : L2.St} {G1 H1 : Hp} {k : D} {y : V} {g : List (D × D) → Key → Rs D} {Q : VK} (R1 : Rel K e1 σ G1 H1) (dk : Dv K G1 y k) (h1 : RunE K mg W e1 σ G1 H1 (match seeM i e1, keyOf k with
    | some xs, some a => g xs a
    | _, _ => .stuck) Q) : ∃ a vs xs key, σ[i]? = some (some (.ref a)) ∧ Rd H1 a (.dK vs) ∧ DvKv K G1 vs xs ∧ y = kV key ∧ RunE K mg W e1 σ G1 H1 (g xs key) Q := by
  cases q : seeM i e1 with
  | none => rw [q] at h1; exact h1.elim
  | some xs =>
    rw [q] at h1
    cases qk : keyOf k with
    | none => rw [qk] at h1; exact h1.elim
    | some key =>
      rw [qk] at h1
      have e0 := keyOf_some qk
      subst e0
      have ew := dv_key dk
      subst ew
      obtain ⟨a, vs, x1, x2, x3⟩ := see_get R1 q
      exact ⟨a, vs, xs, key, x1, x2, x3, rfl, h1⟩
theorem eInM_ok {K : PySem.W.Frag} {mg : Str → Option Value} (σ : L2.St) (H : Hp) (Q : VK) (h : rdE K mg W (eInM de i) σ H Q) : tDIn (rdE K mg W de) (tVar i) σ H Q := by
  obtain ⟨env, G, R, h⟩ := h
  refine E_thenE R h fun k e1 y G1 H1 _ R1 dk F1 h1 => ?_
  obtain ⟨a, vs, xs, key, x1, x2, x3, rfl, h2⟩ := in_run R1 dk h1
  refine ⟨_, x1, a, valV vs key, rfl, .inl ⟨vs, key, x2, rfl, rfl⟩, ?_⟩
  have es : (valV vs key).isSome = (valD xs key).isSome := by
    rcases kv_val (k := key) x3 with ⟨n1, n2⟩ | ⟨v1, d1, n1, n2, n3⟩ <;> rw [n1, n2] <;> rfl
  rw [es]
  exact h2 _ G1 H1 R1 (.bl _) (Fr.refl _ _ _ _)
theorem ce_inM (hu : X.A.units + 1 < cLine) (hk : CE X W e de) (hN : X.N[i]? = some x := by rfl) (hv : Vis X.env.scope x := by first | exact Or.inl rfl | exact Or.inr (Or.inl rfl) | exact Or.inr (Or.inr rfl)) (hd : (x == ("__debug__" : Str)) = false := by decide)
    (hcd : (x == ("__classdict__" : Str)) = false := by decide) : CE X W (.Compare e [.In] [.Name x p] pos) (eInM de i) := pe_imp (pe_cmp (pc_din hu hk (pe_var hN hv hd hcd)) (h1 := by rfl)) eInM_ok
theorem ct_inM (hu : X.A.units + 1 < cLine) (hk : CE X W e de) (hN : X.N[i]? = some x := by rfl) (hv : Vis X.env.scope x := by first | exact Or.inl rfl | exact Or.inr (Or.inl rfl) | exact Or.inr (Or.inr rfl)) (hd : (x == ("__debug__" : Str)) = false := by decide)
    (hcd : (x == ("__classdict__" : Str)) = false := by decide) : CT X W (.Compare e [.In] [.Name x p] pos) (tTst (eInM de i)) := pt_imp (pt_cmp (pc_din hu hk (pe_var hN hv hd hcd)) (h1 := by rfl)) fun σ H Q h => eInM_ok σ H _ (tst_ok _ σ H Q h)
theorem eNotInM_ok {K : PySem.W.Frag} {mg : Str → Option Value} (σ : L2.St) (H : Hp) (Q : VK) (h : rdE K mg W (eNotInM de i) σ H Q) : tDNotIn (rdE K mg W de) (tVar i) σ H Q := by
  obtain ⟨env, G, R, h⟩ := h
  refine E_thenE R h fun k e1 y G1 H1 _ R1 dk F1 h1 => ?_
  obtain ⟨a, vs, xs, key, x1, x2, x3, rfl, h2⟩ := in_run R1 dk h1
  refine ⟨_, x1, a, valV vs key, rfl, .inl ⟨vs, key, x2, rfl, rfl⟩, ?_⟩
  have es : (valV vs key).isSome = (valD xs key).isSome := by
    rcases kv_val (k := key) x3 with ⟨n1, n2⟩ | ⟨v1, d1, n1, n2, n3⟩ <;> rw [n1, n2] <;> rfl
  rw [es]
  exact h2 _ G1 H1 R1 (.bl _) (Fr.refl _ _ _ _)
theorem ce_notinM (hu : X.A.units + 1 < cLine) (hk : CE X W e de) (hN : X.N[i]? = some x := by rfl) (hv : Vis X.env.scope x := by first | exact Or.inl rfl | exact Or.inr (Or.inl rfl) | exact Or.inr (Or.inr rfl)) (hd : (x == ("__debug__" : Str)) = false := by decide)
    (hcd : (x == ("__classdict__" : Str)) = false := by decide) : CE X W (.Compare e [.NotIn] [.Name x p] pos) (eNotInM de i) := pe_imp (pe_cmp (pc_dnotin hu hk (pe_var hN hv hd hcd)) (h1 := by rfl)) eNotInM_ok
theorem ct_notinM (hu : X.A.units + 1 < cLine) (hk : CE X W e de) (hN : X.N[i]? = some x := by rfl) (hv : Vis X.env.scope x := by first | exact Or.inl rfl | exact Or.inr (Or.inl rfl) | exact Or.inr (Or.inr rfl)) (hd : (x == ("__debug__" : Str)) = false := by decide)
    (hcd : (x == ("__classdict__" : Str)) = false := by decide) : CT X W (.Compare e [.NotIn] [.Name x p] pos) (tTst (eNotInM de i)) := pt_imp (pt_cmp (pc_dnotin hu hk (pe_var hN hv hd hcd)) (h1 := by rfl)) fun σ H Q h => eNotInM_ok σ H _ (tst_ok _ σ H Q h)
theorem ce_ixM (hu : X.A.units + 1 < cLine) (hk : CE X W b db) (hs : NoSl b) (hN : X.N[i]? = some x := by rfl) (hv : Vis X.env.scope x := by first | exact Or.inl rfl | exact Or.inr (Or.inl rfl) | exact Or.inr (Or.inr rfl)) (hd : (x == ("__debug__" : Str)) = false := by decide)
    (hcd : (x == ("__classdict__" : Str)) = false := by decide) : CE X W (.Subscript (.Name x p) b pos) (eIxM i db) := pe_imp (pe_dget hu (pe_var hN hv hd hcd) hk hs) fun σ H Q h => by
  obtain ⟨env, G, R, h⟩ := h
  obtain ⟨c, h⟩ := if_run (P := fun r => RunE X.K X.mg W env σ G H r Q) h fun z => z
  obtain ⟨v, hv⟩ := known_v R c
  refine ⟨v, hv, E_thenE R h fun k e1 y G1 H1 _ R1 dk F1 h1 => ?_⟩
  obtain ⟨a, vs, xs, key, x1, x2, x3, rfl, h2⟩ := in_run R1 dk h1
  rw [hv] at x1
  cases x1
  obtain ⟨r, er, kk⟩ := RunE.put R1 h2
  rcases kv_val (k := key) x3 with ⟨n1, n2⟩ | ⟨v1, d1, n1, n2, n3⟩
  · rw [n2] at er; cases er
  · rw [n2] at er
    cases er
    exact ⟨a, v1, rfl, .inl ⟨vs, key, x2, rfl, n1.symm⟩, kk _ G1 H1 n3 (Grow.refl R1.ex)⟩
theorem seen {K : PySem.W.Frag} {env : DEnv} {σ : L2.St} {G H : Hp} {Q : Prop} (R : Rel K env σ G H) (h : (seeM i env).isSome = true) : ∃ a vs, σ[i]? = some (some (.ref a)) ∧ Rd H a (.dK vs) := by
  cases q : seeM i env with
  | none => rw [q] at h; cases h
  | some xs =>
    obtain ⟨a, vs, x1, x2, _⟩ := see_get R q
    exact ⟨a, vs, x1, x2⟩
theorem ce_getM (hu : X.A.units + 1 < cLine) (hk : CE X W e de) (hN : X.N[i]? = some x := by rfl) (hv : Vis X.env.scope x := by first | exact Or.inl rfl | exact Or.inr (Or.inl rfl) | exact Or.inr (Or.inr rfl)) (hd : (x == ("__debug__" : Str)) = false := by decide)
    (hcd : (x == ("__classdict__" : Str)) = false := by decide) (m : M1 X (.Name x p) "get" apos e pos := by exact ⟨rfl, rfl, rfl, rfl⟩) : CE X W (.Call (.Attribute (.Name x p) "get" apos) [e] [] pos) (eGetM i de) := pe_imp (pe_dget1 hu (pe_var hN hv hd hcd) hk m) fun σ H Q h => by
  obtain ⟨env, G, R, h⟩ := h
  obtain ⟨c, h⟩ := if_run (P := fun r => RunE X.K X.mg W env σ G H r Q) h fun z => z
  obtain ⟨a, vs, hv, hr⟩ := seen (Q := True) R c
  refine ⟨_, hv, a, rfl, .inl ⟨vs, hr⟩, E_thenE R h fun k e1 y G1 H1 _ R1 dk F1 h1 => ?_⟩
  obtain ⟨a', vs', xs, key, x1, x2, x3, rfl, h2⟩ := in_run R1 dk h1
  rw [hv] at x1
  cases x1
  refine ⟨valV vs' key, .inl ⟨vs', key, x2, rfl, rfl⟩, ?_⟩
  rcases kv_val (k := key) x3 with ⟨n1, n2⟩ | ⟨v1, d1, n1, n2, n3⟩
  · rw [n2] at h2
    rw [n1]
    exact h2 _ G1 H1 R1 .non (Fr.refl _ _ _ _)
  · rw [n2] at h2
    rw [n1]
    exact h2 _ G1 H1 R1 n3 (Fr.refl _ _ _ _)
theorem ce_getM2 (hu : X.A.units + 1 < cLine) (hk : CE X W e de) (hf : CE X W f dx) (hN : X.N[i]? = some x := by rfl) (hv : Vis X.env.scope x := by first | exact Or.inl rfl | exact Or.inr (Or.inl rfl) | exact Or.inr (Or.inr rfl)) (hd : (x == ("__debug__" : Str)) = false := by decide)
    (hcd : (x == ("__classdict__" : Str)) = false := by decide) (m : M2 X (.Name x p) "get" apos e f pos := by exact ⟨rfl, rfl, rfl, rfl⟩) : CE X W (.Call (.Attribute (.Name x p) "get" apos) [e, f] [] pos) (eGetM2 i de dx) := pe_imp (pe_dget2 hu (pe_var hN hv hd hcd) hk hf m) fun σ H Q h => by
  obtain ⟨env, G, R, h⟩ := h
  obtain ⟨c, h⟩ := if_run (P := fun r => RunE X.K X.mg W env σ G H r Q) h fun z => z
  obtain ⟨a, vs, hv, hr⟩ := seen (Q := True) R c
  refine ⟨_, hv, a, rfl, .inl ⟨vs, hr⟩, E_thenE R h fun k e1 y G1 H1 _ R1 dk F1 h1 => E_thenE R1 h1 fun d e2 z G2 H2 _ R2 dz F2 h2 => ?_⟩
  obtain ⟨a', vs', xs, key, x1, x2, x3, rfl, h3⟩ := in_run R2 (dk.up F2.gg) h2
  rw [hv] at x1
  cases x1
  refine ⟨valV vs' key, .inl ⟨vs', key, x2, rfl, rfl⟩, ?_⟩
  rcases kv_val (k := key) x3 with ⟨n1, n2⟩ | ⟨v1, d1, n1, n2, n3⟩
  · rw [n2] at h3
    rw [n1]
    exact h3 _ G2 H2 R2 dz (Fr.refl _ _ _ _)
  · rw [n2] at h3
    rw [n1]
    exact h3 _ G2 H2 R2 n3 (Fr.refl _ _ _ _)
end
/-! ### -x -/
def dNeg : D → Option D
  | .int i => some (.int (-i))
  | _ => none
theorem ud_neg {K : PySem.W.Frag} : UnD K (rU fun i => .int (-i)) dNeg := fun x d z G H Q hx ex h k => by
  cases d <;> simp [dNeg] at h
  subst h
  cases hx
  exact ⟨_, rfl, k _ G H (.int _) (Grow.refl ex)⟩
end DL
/- part DL13 -/
set_option Elab.async false
set_option linter.all false
set_option maxRecDepth 100000
set_option autoImplicit false
/-! DL13: raise, a def as an argument, tuple.index, sorted. -/
namespace DL
open PySem L2 PySem.Spec PyProof.Rows
/-! ### raise -/
def sRaise (x : Str) : DS := fun env => .ex ⟨x, none⟩ env
/-- what is known of an exception class of the program's own, without an own __init__ -/
structure ExC (K : PySem.W.Frag) (mg : Str → Option Value) (x : Str) : Prop where
  g : mg x = some (.ref (He.ga K x))
  e : PySem.W.excIn K (He.ga K x) He.veBase "ValueError.__new__" = true
  k : PySem.W.keepIn K (.ref (He.ga K x)) = true
  b : PySem.W.subIn K (.ref (He.ga K x)) (.type "BaseException") = some true
  t : PySem.W.typeIn K (.ref (He.ga K x)) = some (.type "type")
section
variable {X : Cx} {W : WX} {pos pos2 p p2 : Pos} {x m : Str} {j : Nat}
theorem cs_raise (T : ExC X.K X.mg x) (tk : L2N.Takes X W) (hc : X.calm = true := by rfl) (hg : Gl X x := by rfl) (hdb : (x == ("__debug__" : Str)) = false := by decide) :
    CS X W (.Raise (some (.Call (.Name x p) [.Constant (.str m) j p2] [] pos)) none pos2) (sRaise x) := ps_imp (L2N.ps_raise hc tk (L2N.pmk_own PySem.F.excBase_ValueError T.e T.g T.k (raises_own T.b T.t) hg hdb)) fun E σ H h => by
  obtain ⟨env, G, R, h⟩ := h
  exact h (.ref (He.ga X.K x)) none σ G H ⟨T.g, rfl⟩ R (Fr.refl _ _ _ _)
end
/-! ### a def as an argument -/
def rFn (x : Str) (da : DAr) : DAr := fun env => (da env).bind fun xs e2 => .ok (.g x :: xs) e2
section
variable {X : Cx} {W : WX} {pos p : Pos} {x : Str} {es : List Expr} {da : DAr}
theorem cr_fn (hm : X.mg x = some (.ref (He.ga X.K x))) (hr : CR X W es da) (hg : Gl X x := by rfl) (hdb : (x == ("__debug__" : Str)) = false := by decide) (hs : starEach (.Name x p :: es) X.env = (false, eval (.Name x p) X.env) :: starEach es X.env := by rfl) : CR X W (.Name x p :: es) (rFn x da) :=
  pa_imp (pa_cons (pe_glob hg hm (v := .ref (He.ga X.K x)) rfl hdb) hr hs) fun σ H Q h => by
    obtain ⟨env, G, R, h⟩ := h
    show rdR X.K X.mg W da σ H fun vs H2 => Q (.ref (He.ga X.K x) :: vs) H2
    refine ⟨env, G, R, ?_⟩
    unfold rFn at h
    cases q : da env with
    | stuck => rw [q] at h; exact h
    | ex y e => rw [q] at h; exact h
    | ok as e1 =>
      rw [q] at h
      intro vs G' H' R' ar le F'
      refine h (.ref (He.ga X.K x) :: vs) G' H' R' ⟨rfl, ar⟩ (fun i hi => le i ?_) F'
      rcases List.mem_cons.1 hi with z | z
      · cases z
      · exact z
end
/-- the call of a def that a slot holds -/
def eCallV (np i : Nat) (tbl : List (Str × Df)) (da : DAr) : DE := fun env => match env[i]? with
  | some (.f x) => match tbl.lookup x with
    | some F => (da env).bind fun as e1 => if as.length = np then (callD F as e1).rs else .stuck
    | none => .stuck
  | _ => .stuck
section
variable {X : Cx} {k i : Nat} {f : Addr} {fd : FuncData} {ps : List Str} {sp : Sp} {E : L2.St → XK} {x : Str} {p pos : Pos} {e : Expr} {es : List Expr} {t : TA} {CX : CXT}
theorem pe_callLS (F : FnOk X.prog X.w X.K X.mg X.base CX k f fd ps sp) (hr : Room k X.A) (hN : X.N[i]? = some x) (hv : Vis X.env.scope x) (hk : PySem.W.keepIn X.K (.ref f) = true) (hb : Binds X.K fd ps []) (hx : ∀ σ, PassesAt CX X σ (E σ)) (ha : PA X (e :: es) t)
    (hdb : (x == ("__debug__" : Str)) = false := by decide) (hcd : (x == ("__classdict__" : Str)) = false := by decide)
    (he : starEach (e :: es) X.env = (false, eval e X.env) :: starEach es X.env := by rfl) (hpl : (backTo pos (starEach es X.env)).any (·.1) = false := by rfl) : PE X (.Call (.Name x p) (e :: es) [] pos) (fun σ H Q => σ[i]? = some (some (.ref f)) ∧ t σ H fun vs H1 => sp vs H1 Q (E σ)) := by
  refine ⟨fun pins s σ H Q I h => ?_⟩
  obtain ⟨hs, ht⟩ := h
  refine wpAny_Call_Name_kw (thn ((pe_var (pos := p) hN hv hdb hcd).run pins s σ H (fun v H1 => v = .ref f ∧ H1 = H) I ⟨.ref f, hs, rfl, rfl⟩) fun u s1 ⟨v, H1, I1, r1, q1⟩ => ?_)
  obtain ⟨rfl, rfl⟩ := q1
  cases r1
  refine PySem.W.callWith_K (h₀ := X.base) I.ok.mod.kin hk (thn (ha.run pos pins s1 σ _ _ I1 ht) fun us s2 ⟨vs, H2, I2, r, q⟩ => ⟨I2.kIn, ?_⟩) he hpl
  exact run_fnS F hr hb (hx σ) I2 r q
end
/-- what is known of the defs of a table -/
def CalT (P : Program) (w : World) (K : PySem.W.Frag) (mg : Str → Option Value) (base : Heap) (k np : Nat) (tbl : List (Str × Df)) : Prop := ∀ x F, tbl.lookup x = some F → Cal P w K mg base k x np F
theorem calT_nil {P : Program} {w : World} {K : PySem.W.Frag} {mg : Str → Option Value} {base : Heap} {k np : Nat} : CalT P w K mg base k np [] := fun _ _ h => by cases h
theorem calT_cons {P : Program} {w : World} {K : PySem.W.Frag} {mg : Str → Option Value} {base : Heap} {j k np : Nat} {x : Str} {F : Df} {tbl : List (Str × Df)} (C : Cal P w K mg base j x np F) (hj : j ≤ k) (h : CalT P w K mg base k np tbl) : CalT P w K mg base k np ((x, F) :: tbl) := fun y G q => by
  rw [List.lookup_cons] at q
  by_cases c : y = x
  · subst c
    simp at q
    subst q
    exact C.mono hj
  · have : (y == x) = false := by simpa using c
    rw [this] at q
    exact h y G q
section
variable {X : Cx} {W : WX} {pos p : Pos} {e : Expr} {es : List Expr} {da : DAr} {k np i : Nat} {tbl : List (Str × Df)} {x : Str}
theorem ce_callV (T : CalT X.prog X.w X.K X.mg X.base k np tbl) (hr : Room k X.A) (tk : ∀ σ, PassesAt (L2N.CX X.prog X.w) X σ (WE W σ)) (ha : CR X W (e :: es) da) (hN : X.N[i]? = some x := by rfl) (hv : Vis X.env.scope x := by first | exact Or.inl rfl | exact Or.inr (Or.inl rfl) | exact Or.inr (Or.inr rfl))
    (hdb : (x == ("__debug__" : Str)) = false := by decide) (hcd : (x == ("__classdict__" : Str)) = false := by decide) (he : starEach (e :: es) X.env = (false, eval e X.env) :: starEach es X.env := by rfl) (hpl : (backTo pos (starEach es X.env)).any (·.1) = false := by rfl) :
    CE X W (.Call (.Name x p) (e :: es) [] pos) (eCallV np i tbl da) := by
  refine ⟨fun pins s σ H Q I h => ?_⟩
  obtain ⟨env, G, R, h⟩ := h
  unfold eCallV at h
  cases q0 : env[i]? with
  | none => rw [q0] at h; exact h.elim
  | some sl =>
    rw [q0] at h
    cases sl with
    | f y =>
      simp only at h
      cases q1 : tbl.lookup y with
      | none => rw [q1] at h; exact h.elim
      | some F =>
        rw [q1] at h
        simp only at h
        have C := T y F q1
        obtain ⟨fd, ps, hl, Fn, hb⟩ := C.ex
        subst hl
        have li : i < σ.length := by rw [← R.len]; exact (List.getElem?_eq_some_iff.mp q0).1
        have hs : σ[i]? = some (some (.ref (He.ga X.K y))) := by
          rw [List.getElem?_eq_getElem li]
          exact congrArg some (R.slot i _ _ q0 (List.getElem?_eq_getElem li))
        refine (pe_callLS (E := WE W) Fn hr hN hv C.kp hb tk ha hdb hcd he hpl).run pins s σ H Q I ⟨hs, ?_⟩
        refine R_then R (P := fun e s G H r => RunE X.K X.mg W e s G H r Q) h (fun _ _ z => z) (fun z => z) (fun _ _ _ _ a b => a.shift b) fun as e1 vs G1 H1 _ R1 ar le F1 h1 => ?_
        by_cases cn : as.length = ps.length
        · rw [if_pos cn] at h1
          by_cases c : (slotsOf as).Nodup
          · have h2 : RunE X.K X.mg W e1 σ G1 H1 (Fo.rs (match F (as.map (toSl e1)) with
              | .ok d outs => .ok d (backD as outs e1)
              | .okl xs outs => .okl xs (backD as outs e1)
              | .ex x outs => .ex x (backD as outs e1)
              | .stuck => .stuck)) Q := by
              have h3 : RunE X.K X.mg W e1 σ G1 H1 (callD F as e1).rs Q := h1
              unfold callD at h3
              rw [if_pos c] at h3
              exact h3
            refine ⟨ar_np ar cn, as.map (toSl e1), G1, rel_args R1 ar c, ?_⟩
            cases q : F (as.map (toSl e1)) with
            | stuck => rw [q] at h2; exact h2
            | ok d outs =>
              rw [q] at h2
              exact fun v G' H' R' dv F' => let ⟨a, b, _⟩ := back_ok R1 ar c R' F'; h2 v G' H' a dv b
            | okl xs outs =>
              rw [q] at h2
              intro a vs' G' H' R' h3 h4 h5 h6 dv F'
              obtain ⟨r, b, o⟩ := back_ok R1 ar c R' F'
              have na : ¬ Own (backD as outs e1) σ a := fun z => by
                rcases o a z with z | z
                · exact h6 z
                · exact (z.there R1).1 h5
              have hl : RunL X.K X.mg W e1 σ G1 H1 (Rs.ok xs (backD as outs e1)) Q := RunL.of h2
              exact hl a vs' G' H' r h3 h4 h5 na dv b
            | ex x outs =>
              rw [q] at h2
              exact fun cls dd G' H' xr R' F' => let ⟨a, b, _⟩ := back_ok R1 ar c R' F'; h2 cls dd G' H' xr a b
          · have h3 : RunE X.K X.mg W e1 σ G1 H1 (callD F as e1).rs Q := h1
            unfold callD at h3
            rw [if_neg c] at h3
            exact h3.elim
        · rw [if_neg cn] at h1
          exact h1.elim
    | no => exact h.elim
    | v _ => exact h.elim
    | l _ => exact h.elim
    | p _ => exact h.elim
    | m _ => exact h.elim
    | a _ _ _ => exact h.elim
end
/-! ### tuple.index of ints -/
section
variable {X : Cx}
theorem flat_ints (ys : List Int) : (ys.map V.int).all flatV = true := by
  rw [List.all_map]
  exact List.all_eq_true.mpr fun _ _ => rfl
def rTupIndex (K : PySem.W.Frag) : V → List V → Hp → VK → Prop := fun x xs H Q => ∃ p, ∃ ys : List Int, ∃ z j, x = .ref p ∧ xs = [.int z] ∧ SqT K H p (ys.map V.int) ∧ ys[j]? = some z ∧ (∀ m, m < j → ys[m]? ≠ some z) ∧ Q (.int (j : Nat)) H
theorem mt_tup_indexI : MtR X "tuple.index" (rTupIndex X.K) := by
  intro pins s σ H x xs v us Q I rx rs h
  obtain ⟨p, ys, z, j, rfl, rfl, hq, hy, hno, q⟩ := h
  cases rx
  obtain ⟨u, rfl, t, rfl⟩ := vals1 rs
  obtain ⟨its, r, pl, hz⟩ := I.tuple hq
  obtain ⟨⟨cls, dd, dt, sl⟩, ho, hc, n, hd⟩ := pl
  simp only at hc hd
  subst hc
  subst hd
  have hl : its.toArray.size = ys.length := by rw [List.size_toArray, ← r.length, List.length_map]
  have hj : j < its.toArray.size := by rw [hl]; exact (List.getElem?_eq_some_iff.mp hy).1
  have at' : ∀ (m : Nat) (hm : m < its.toArray.size), ∃ y t', ys[m]? = some y ∧ its.toArray[m] = Value.int y t' := fun m hm => by
    have hm' : m < ys.length := by rw [← hl]; exact hm
    obtain ⟨w, hw, t', hw'⟩ := r.get (i := m) (x := .int ys[m]) (by simp [hm'])
    refine ⟨ys[m], t', List.getElem?_eq_getElem hm', ?_⟩
    have e := (List.getElem?_eq_some_iff.mp hw).2
    rw [← hw', ← e]
    simp
  refine call_meets PySem.F.slot_tuple_index ⟨_, ho, rfl⟩ PySem.F.entry_tuple_index (PySem.F.args_tuple_index_2 _ _) (TI.tuple_indexAt p its.toArray n dd sl (.int z t) (eqU (.int z)) j hj ?_ ?_)
    ⟨ho, fun w hw => mem_eqAt (x := .int z) ⟨t, rfl⟩ rfl r (flat_ints ys) w (by simpa using hw), ⟨.int (j : Nat), H, I.tok _, ⟨_, rfl⟩, q⟩⟩
  · obtain ⟨y, t', h1, h2⟩ := at' j hj
    rw [hy] at h1
    cases h1
    rw [h2]
    show (z == z) = true
    exact beq_self_eq_true z
  · intro m hm hmj
    obtain ⟨y, t', h1, h2⟩ := at' m hm
    rw [h2]
    show (y == z) = false
    exact beq_eq_false_iff_ne.mpr fun e => hno m hmj (e ▸ h1)
end
def intsOf : List D → Option (List Int)
  | [] => some []
  | .int i :: r => (intsOf r).map (i :: ·)
  | _ :: _ => none
theorem intsOf_dv {K : PySem.W.Frag} {G : Hp} : ∀ {vs : List V} {ds : List D} {ns : List Int}, DvAll K G vs ds → intsOf ds = some ns → vs = ns.map V.int ∧ ds = ns.map PyData.int
  | _, _, _, .nil, h => by cases h; exact ⟨rfl, rfl⟩
  | _, _, _, .cons (d := d) a b, h => by
    cases d with
    | int i =>
      cases a
      unfold intsOf at h
      cases q : intsOf _ with
      | none => rw [q] at h; cases h
      | some ns =>
        rw [q] at h
        cases h
        obtain ⟨e1, e2⟩ := intsOf_dv b q
        exact ⟨by rw [e1]; rfl, by rw [e2]; rfl⟩
    | none => cases h
    | bool _ => cases h
    | str _ => cases h
    | list _ => cases h
    | tuple _ => cases h
    | dict _ => cases h
def dIndex (d k : D) : Option D := match d, k with
  | .tuple xs, .int k => match intsOf xs with
    | some ns => (ns.findIdx? fun y => decide (y = k)).map fun (j : Nat) => .int (j : Int)
    | none => none
  | _, _ => none
def eIndex (dd dk : DE) : DE := fun env => (dd env).bind fun d e1 => match d with
  | .tuple xs => (dk e1).bind fun k e2 => put (dIndex (.tuple xs) k) e2
  | _ => .stuck
section
variable {X : Cx} {o e : Expr} {es : List Expr} {to : TE} {t : TA} {name : Str} {apos cpos : Pos} {id : String} {r : V → List V → Hp → VK → Prop}
theorem pe_bmN (slot : Slot "tuple" name id) (hty : typeOf (.builtin id) = pure (.type "method_descriptor")) (hm : MtR X id r) (ho : PE X o to) (ha : PA X (e :: es) t)
    (hbase : attributeBase o name X.env (eval o X.env) = eval o X.env := by rfl)
    (hfew : ((backTo cpos (starEach (e :: es) X.env)).all (fun x => !x.1) && (backToKw cpos (keywordEach [] X.env)).all (fun x => x.1.isSome)
      && decide ((e :: es).length + ([] : List Keyword).length + (if ([] : List Keyword).isEmpty then 0 else 1) < 30)) = true := by rfl)
    (hline : (apos.endLine == cpos.line) = true := by rfl) (hs : starEach (e :: es) X.env = (false, eval e X.env) :: starEach es X.env := by rfl) (hplain : (backTo cpos (starEach es X.env)).any (·.1) = false := by rfl) :
    PE X (.Call (.Attribute o name apos) (e :: es) [] cpos) (fun σ H Q => to σ H fun x H1 => (∃ p xs, x = .ref p ∧ SqN X.K H1 p xs) ∧ t σ H1 fun xs H2 => r x xs H2 Q) := by
  refine ⟨fun pins s σ H Q I h => ?_⟩
  refine wpAny_Call_method_late hbase hfew hline rfl (thn (ho.run pins s σ H _ I h) fun v s1 ⟨x, H1, I1, r1, ty, q1⟩ => ?_)
  obtain ⟨p, ys, rfl, hq⟩ := ty
  cases r1
  obtain ⟨h1, ob, h2, h3⟩ := hq.obj I1
  refine ⟨"tuple", id, PySem.F.plainAttrs_tuple, slot, hty, h1, fun a e => by cases e; exact ⟨ob, h2, h3⟩, ?_⟩
  have hA := ha.run cpos pins s1 σ H1 _ I1 q1
  rw [hs] at hA ⊢
  refine Calls.callWith_builtin (by show (false || (backTo cpos (starEach es X.env)).any (·.1)) = false; rw [hplain] <;> rfl) (Calls.evalArgs_plain ?_)
  exact thn hA fun us s2 ⟨vs, H2, I2, r2, q2⟩ => hm pins s2 σ H2 (.ref p) vs (.ref p) us Q I2 rfl r2 q2
end
section
variable {X : Cx} {W : WX} {pos apos : Pos} {o e : Expr} {dd dk : DE}
theorem ce_index (ho : CE X W o dd) (he : CE X W e dk)
    (hbase : attributeBase o "index" X.env (eval o X.env) = eval o X.env := by rfl)
    (hfew : ((backTo pos (starEach [e] X.env)).all (fun x => !x.1) && (backToKw pos (keywordEach [] X.env)).all (fun x => x.1.isSome)
      && decide (([e] : List Expr).length + ([] : List Keyword).length + (if ([] : List Keyword).isEmpty then 0 else 1) < 30)) = true := by rfl)
    (hline : (apos.endLine == pos.line) = true := by rfl) (hs : starEach [e] X.env = (false, eval e X.env) :: starEach [] X.env := by rfl) (hplain : (backTo pos (starEach [] X.env)).any (·.1) = false := by rfl) :
    CE X W (.Call (.Attribute o "index" apos) [e] [] pos) (eIndex dd dk) := pe_imp (pe_bmN PySem.F.slot_tuple_index PySem.F.type_tuple_index mt_tup_indexI ho (pa_cons he pa_nil hs) hbase hfew hline hs hplain) fun σ H Q h => by
  obtain ⟨env, G, R, h⟩ := h
  refine E_thenE R h fun d e1 v G1 H1 _ R1 dv F1 h1 => ?_
  cases dv with
  | @tup a xs ds h2 h3 =>
    refine ⟨⟨a, xs, rfl, R1.ex.n h2⟩, E_thenE R1 h1 fun k e2 w G2 H2 _ R2 dw F2 h4 => ?_⟩
    obtain ⟨z, ez, kk⟩ := RunE.put R2 h4
    show rTupIndex X.K (.ref a) [w] H2 Q
    cases k with
    | int n =>
      cases dw
      have ez' : (match intsOf ds with
        | some ns => (ns.findIdx? fun y => decide (y = n)).map fun (j : Nat) => PyData.int (j : Int)
        | none => none) = some z := ez
      cases q : intsOf ds with
      | none => rw [q] at ez'; cases ez'
      | some ns =>
        rw [q] at ez'
        simp only at ez'
        obtain ⟨e3, e4⟩ := intsOf_dv h3 q
        cases q2 : ns.findIdx? fun y => decide (y = n) with
        | none => rw [q2] at ez'; cases ez'
        | some j =>
          rw [q2] at ez'
          cases ez'
          rw [List.findIdx?_eq_some_iff_getElem] at q2
          obtain ⟨hj, hp, hno⟩ := q2
          refine ⟨a, ns, n, j, rfl, rfl, by rw [← e3]; exact (R2.ex.n (F2.gg.n h2)).t, ?_, fun m hm hc => ?_, kk _ G2 H2 (.int _) (Grow.refl R2.ex)⟩
          · rw [List.getElem?_eq_getElem hj]
            simpa using hp
          · have := hno m hm
            rw [List.getElem?_eq_getElem (by omega)] at hc
            simp at hc
            simp [hc] at this
    | none => cases ez
    | bool _ => cases ez
    | str _ => cases ez
    | list _ => cases ez
    | tuple _ => cases ez
    | dict _ => cases ez
  | non => exact h1.elim
  | bl _ => exact h1.elim
  | int _ => exact h1.elim
  | str _ => exact h1.elim
  | lst _ _ => exact h1.elim
  | dct _ _ => exact h1.elim
end
/-! ### sorted of a list of ints -/
def sortI (ns : List Int) : List Int := ns.mergeSort fun a b => decide (a ≤ b)
theorem sortI_uniq {ns ns' : List Int} (hp : ns'.Perm ns) (hs : ns'.Pairwise (· ≤ ·)) : ns' = sortI ns := by
  refine List.Perm.eq_of_pairwise (le := fun a b : Int => a ≤ b) (fun a b _ _ h1 h2 => Int.le_antisymm h1 h2) hs ?_ (hp.trans (List.mergeSort_perm _ _).symm)
  have := List.pairwise_mergeSort (le := fun a b : Int => decide (a ≤ b)) (fun a b c h1 h2 => by simp at *; omega) (fun a b => by simp; omega) ns
  exact this.imp (by intro a b h; simpa using h)
def fSort : List D → Option (List D)
  | [.list xs] => (intsOf xs).map fun ns => (sortI ns).map PyData.int
  | _ => none
theorem cl_sort {K : PySem.W.Frag} : ClD K (rSortedI K) fSort := fun xs ds zs G H Q hx ex hf k => by
  match ds, hx, hf with
  | [.list ys], .cons (.lst a b) .nil, hf =>
    cases q : intsOf ys with
    | none => simp [fSort, q] at hf
    | some ns =>
      simp [fSort, q] at hf
      obtain ⟨e1, e2⟩ := intsOf_dv b q
      refine ⟨_, ns, rfl, by rw [← e1]; exact (ex.rl a).sq, fun ns' p hp hs hl => ?_⟩
      rw [sortI_uniq hp hs]
      refine k p _ hl ?_
      rw [← hf]
      exact DvAll.of_ints _
end DL
/- part DL14 -/
set_option Elab.async false
set_option linter.all false
set_option maxRecDepth 100000
set_option autoImplicit false
/-! DL14: enumerate. -/
namespace PySem
open Sem (wp)
theorem meets_enumerate_new1 {v : Value} {o : Obj} {H : Heap → Prop} (B : Begins v o H) :
    Meets (Builtin.«enumerate.__new__» ⟨[.type "enumerate", v], []⟩) (fun _ R s => H s.heap ∧
      R (.ok (.ret (.ref (s.heap.push o).objs.size))) { s with heap := (s.heap.push o).push { cls := .type "enumerate", data := .fields #[.none, .bool false, .ref s.heap.objs.size, rawInt 0, .none, .none] } }) :=
  .of_wp fun prog w A R s h => by
    obtain ⟨hp, g, d, tk, os⟩ := s; obtain ⟨h1, h⟩ := h
    have hsub := sub_enumerate
    have q1 : ∀ {A' : Around} {E : Value → Shared → Prop} {Q : Value → Shared → Prop}, Q (.ref hp.objs.size) ⟨hp.push o, g, d, tk, os⟩ → wpAny (model prog w) A' (pyIter v) Q E ⟨hp, g, d, tk, os⟩ :=
      fun q => B.iter prog w _ _ ⟨hp, g, d, tk, os⟩ _ h1 q
    wp_walk using q1
    refine wpAny_stack_any fun st => wpAny_pure ?_
    split
    · rename_i c _ _ _ _ _
      cases (c == Value.type "enumerate")
      · wp_walk using q1
        exact ⟨_, rfl, h⟩
      · wp_walk using q1
        exact ⟨_, rfl, h⟩
    · wp_walk using q1
      exact ⟨_, rfl, h⟩
section
variable {prog : Program} {w : World} {A : Around} {E : Value → Shared → Prop} {s : Shared}
theorem enum_begins1 {v : Value} {o : Obj} {H : Heap → Prop} {Q : Value → Shared → Prop} (B : Begins v o H) (h1 : H s.heap)
    (h : ∀ h', IsEnum h' (s.heap.objs.size + 1) s.heap.objs.size 0 .none → h'.get? s.heap.objs.size = some o → h'.objs.size = s.heap.objs.size + 2 →
      (∀ b o, s.heap.get? b = some o → h'.get? b = some o) → Q (.ref (s.heap.objs.size + 1)) { s with heap := h' }) :
    wpAny (model prog w) A (call (.type "enumerate") [v]) Q E s := by
  refine callType_new F.called_enumerate (by decide) (F.typeCall_enumerate_1 _) (F.newCall_enumerate_1 _) (fun obj => F.args_object_init_2 obj _) F.entry_enumerate_new
    (meets_enumerate_new1 B) ⟨h1, ?_⟩
  have hz : (s.heap.push o).objs.size = s.heap.objs.size + 1 := Heap.size_push ..
  show _ ∧ _
  rw [hz]
  have he : IsEnum ((s.heap.push o).push { cls := .type "enumerate", data := .fields #[.none, .bool false, .ref s.heap.objs.size, rawInt 0, .none, .none] }) (s.heap.objs.size + 1) s.heap.objs.size 0 .none := by
    have := Heap.get?_push_size (s.heap.push o) (o := { cls := .type "enumerate", data := .fields #[.none, .bool false, .ref s.heap.objs.size, rawInt 0, .none, .none] }) rfl
    rw [hz] at this; exact this
  refine ⟨⟨_, he, rfl⟩, h _ he (Heap.get?_push_of_some _ (Heap.get?_push_size _ B.free)) (by rw [Heap.size_push, hz]) fun b o x => Heap.get?_push_of_some _ (Heap.get?_push_of_some _ x)⟩
end
end PySem
namespace DL
open PySem L2 PySem.Spec PyProof.Rows
/-- a list or a tuple -/
def Src (K : PySem.W.Frag) (isT : Bool) (H : Hp) (a : Addr) (xs : List V) : Prop := match isT with
  | true => SqT K H a xs
  | false => SqL K H a xs
/-- each item in a new pair -/
def Itf (K : PySem.W.Frag) (isT : Bool) (a : Addr) : It :=
  ⟨fun i H => ∃ (xs : List V) (x : V), Src K isT H a xs ∧ xs[i]? = some x, fun i H v H' => ∃ T o x, v = .ref T ∧ H T = none ∧ o.dict = none ∧ H' = upd H T (.frz o (.tup [.int (i : Nat), x])) ∧ ∀ xs, Src K isT H a xs → xs[i]? = some x, fun i H => ∃ xs : List V, Src K isT H a xs ∧ xs.length ≤ i⟩
theorem Draws.tupleEnd {prog : Program} {w : World} {A : Around} (hh : A.handled = none) (it t : Addr) (hne : t ≠ it) (items : Array Value) (n : Nat) (hn : items.size ≤ n) :
    Draws prog w A it [it, t] n (fun _ _ => False) (fun i h => i = n ∧ h.IsTupleIter it t i ∧ h.IsTuple t items) where
  live := fun _ _ st => let ⟨o, ho, _⟩ := st.2.1; ⟨o, ho⟩
  frame := fun _ _ _ st hk => ⟨st.1, st.2.1.at fun o e => hk it (by simp) o e, st.2.2.at fun o e => hk t (by simp) o e⟩
  item := fun i s Q E hi st hQ => absurd st.1 (Nat.ne_of_lt hi)
  done := fun s Q E st hE => wpAny_nextOf_tuple_end hh st.2.1 st.2.2 (by simp; omega) hE
theorem cls_ne {h : Heap} {a b : Addr} {o p : Obj} (ha : h.get? a = some o) (hb : h.get? b = some p) (hc : o.cls ≠ p.cls) : a ≠ b := fun z => by
  subst z
  rw [ha] at hb
  cases hb
  exact hc rfl
theorem turn_enumF {P : Program} {w : World} {K : PySem.W.Frag} {elts : List Expr} {kk : Nat} {tpos : Pos} (a e it : Addr) (isT : Bool) :
    Turn P w K (.Tuple elts kk tpos) (Itf K isT a) [e, it] e (fun i h => (∃ old, IsEnum h e it ((i : Nat) : Int) old) ∧ (if isT = true then h.IsTupleIter it a i else h.IsListIter it a i) ∧ e ≠ it) where
  mem := by simp
  obj := fun i h st b hb => by
    obtain ⟨⟨old, he⟩, hi, _⟩ := st
    have e' : b = e ∨ b = it := by simpa using hb
    rcases e' with z | z
    · rw [z]; exact ⟨_, he, fun v q => nomatch q⟩
    · rw [z]
      cases isT
      · obtain ⟨o, ho, hc, hd⟩ := hi; exact ⟨o, ho, fun v q => by rw [hd] at q; cases q⟩
      · obtain ⟨o, ho, hc, hd⟩ := hi; exact ⟨o, ho, fun v q => by rw [hd] at q; cases q⟩
  keep := fun i h h' st k => by
    obtain ⟨⟨old, he⟩, hi, hne⟩ := st
    refine ⟨⟨old, k e (by simp) _ he⟩, ?_, hne⟩
    cases isT
    · exact Heap.IsListIter.at hi fun o q => k it (by simp) o q
    · exact Heap.IsTupleIter.at hi fun o q => k it (by simp) o q
  item := by
    intro X hP hw hK hc i pins s σ H E I hf st hg
    subst hP hw hK
    obtain ⟨⟨old, he⟩, hit, hne⟩ := st
    obtain ⟨xs, x, hq, hx⟩ := hg
    have hel : e < s.heap.objs.size := Heap.lt_size he
    have hil : it < s.heap.objs.size := by
      cases isT <;> · obtain ⟨_, q, _⟩ := hit; exact Heap.lt_size q
    have hh : X.A.in1.handled = none := I.ok.hd hc
    have inj : ∀ ys, Src X.K isT H a ys → ys = xs := fun ys hy => by
      cases isT
      · exact I.list_inj hy hq
      · exact I.tuple_inj hy hq
    have fin : ∀ (h' : Heap) (tk : Tok) (u : Value), RelV x u → IsEnumOut h' e it ((i : Int) + 1) u s.heap.objs.size → (if isT = true then h'.IsTupleIter it a (i + 1) else h'.IsListIter it a (i + 1)) →
        h'.get? s.heap.objs.size = some { cls := .type "tuple", data := .seq #[.int i tk, u] } → (∀ b o, b ≠ e → b ≠ it → s.heap.get? b = some o → h'.get? b = some o) →
        wpAny (model X.prog X.w) X.A (letOwnedTupleGo (.Tuple elts kk tpos) (.ref e) (.ref s.heap.objs.size)) (fun _ s2 => ∃ x H', Inv X pins σ H' s2 ∧ RelV x (.ref s.heap.objs.size) ∧ (Itf X.K isT a).yld i H x H' ∧ ((∃ old, IsEnum s2.heap e it (((i + 1 : Nat) : Nat) : Int) old) ∧ (if isT = true then s2.heap.IsTupleIter it a (i + 1) else s2.heap.IsListIter it a (i + 1)) ∧ e ≠ it) ∧ ∀ b ∈ [e, it], H' b = none) E { s with heap := h', toks := tk + 1 } := fun h' tk u ru ho hit' hT hk => by
      refine wpAny_letOwnedTupleGo_enum (s := { s with heap := h', toks := tk + 1 }) ho fun h'' he' sb => ?_
      have hT2 : h''.get? s.heap.objs.size = some { cls := .type "tuple", data := .seq #[.int i tk, u] } := (sb.2 _ (Nat.ne_of_gt hel)).trans hT
      have new : ObjOk X.prog X.w (upd H s.heap.objs.size (.frz { cls := .type "tuple", data := .seq #[.int i tk, u] } (.tup [.int (i : Nat), x]))) h'' s.heap.objs.size (.frz { cls := .type "tuple", data := .seq #[.int i tk, u] } (.tup [.int (i : Nat), x])) :=
        ⟨hT2, by show 2 ≤ sizeLine; decide, [.int i tk, u], .cons ⟨_, rfl⟩ (.cons ru .nil), ⟨_, hT2, rfl, _, rfl⟩⟩
      have I1 : Inv X pins σ (upd H s.heap.objs.size (.frz { cls := .type "tuple", data := .seq #[.int i tk, u] } (.tup [.int (i : Nat), x]))) { s with heap := h'', toks := tk + 1 } :=
        I.turnedNew (ch := [e, it]) (fun b ob hb q => (sb.2 b (fun z => hb (by simp [z]))).trans (hk b ob (fun z => hb (by simp [z])) (fun z => hb (by simp [z])) q)) hf (Nat.le_refl _) new
      refine ⟨.ref s.heap.objs.size, _, I1, rfl, ⟨_, _, x, rfl, I.hok.fresh (Nat.le_refl _), rfl, rfl, fun ys hy => by rw [inj ys hy]; exact hx⟩, ⟨⟨u, ?_⟩, ?_, hne⟩, fun b hb => ?_⟩
      · have e1 : ((i + 1 : Nat) : Int) = (i : Int) + 1 := by omega
        rw [e1]; exact he'
      · cases isT
        · exact Heap.IsListIter.at hit' fun o q => (sb.2 it (Ne.symm hne)).trans q
        · exact Heap.IsTupleIter.at hit' fun o q => (sb.2 it (Ne.symm hne)).trans q
      · have hb' : b < s.heap.objs.size := by
          have e' : b = e ∨ b = it := by simpa using hb
          rcases e' with z | z
          · rw [z]; exact hel
          · rw [z]; exact hil
        rw [upd_ne (Nat.ne_of_lt hb')]
        exact (hf b hb).1
    cases isT with
    | false =>
      obtain ⟨oi, hoi, hci, hdi⟩ := id hit
      obtain ⟨its, rv, p, hz⟩ := I.list hq
      obtain ⟨u, hu, ru⟩ := rv.get hx
      refine wpAny_pyNext_enum_item he hit p.isList (x := u) (by simpa using hu) hne fun h' ho hit' hT hsz hk => ⟨_, rfl, ?_⟩
      exact fin h' s.toks u ru ho hit' hT (fun b o h1 h2 q => hk b o h1 h2 q)
    | true =>
      obtain ⟨oi, hoi, hci, hdi⟩ := id hit
      obtain ⟨its, rv, p, hz⟩ := I.tuple hq
      obtain ⟨u, hu, ru⟩ := rv.get hx
      obtain ⟨oa, hoa, hca, na, hda⟩ := id p
      have hai : a ≠ it := cls_ne hoa hoi (by rw [hca, hci]; exact fun z => absurd (Value.type.inj z) (by decide))
      have hae : e ≠ a := cls_ne he hoa (by rw [hca]; exact fun z => absurd (Value.type.inj z) (by decide))
      have hlt : i < its.toArray.size := by
        have := (List.getElem?_eq_some_iff.mp hu).1
        simpa using this
      refine wpAny_pyNext_enum_itemC (Draws.tuple hh it a hai its.toArray) he ⟨hit, ⟨oa, hoa, hca, na, hda⟩⟩ hlt hne (by simp [hne, hae]) fun x' h' tk hP ho hst hT hsz hk => ⟨_, rfl, ?_⟩
      have hxu : x' = u := by
        have h1 : its.toArray[i]? = some x' := hP
        have h2 : its.toArray[i]? = some u := by simpa using hu
        rw [h1] at h2; cases h2; rfl
      subst hxu
      exact fin h' tk x' ru ho hst.1 hT (fun b o h1 h2 q => hk b o h1 h2 q)
  done := by
    intro X hP hw hK hc i pins s σ H E I hf st hg
    subst hP hw hK
    obtain ⟨⟨old, he⟩, hit, hne⟩ := st
    obtain ⟨xs, hq, hx⟩ := hg
    have hh : X.A.in1.handled = none := I.ok.hd hc
    obtain ⟨f0, f1, f2, f3, f4, f5⟩ := hf it (by simp)
    cases isT with
    | false =>
      · obtain ⟨its, rv, p, hz⟩ := I.list hq
        have hl := rv.length
        exact wpAny_pyNext_enum_end (I.ok.hd hc) he hit p.isList (by simp; omega) fun h' eb => ⟨rfl, I.turned (t' := s.toks) (fun b o hb q => eb b o hb q) f0 f1 f3 f4 f5⟩
    | true =>
      obtain ⟨oi, hoi, hci, hdi⟩ := id hit
      · obtain ⟨its, rv, p, hz⟩ := I.tuple hq
        have hl := rv.length
        obtain ⟨oa, hoa, hca, na, hda⟩ := id p
        have hai : a ≠ it := cls_ne hoa hoi (by rw [hca, hci]; exact fun z => absurd (Value.type.inj z) (by decide))
        exact wpAny_pyNext_enum_endD (Draws.tupleEnd hh it a hai its.toArray i (by simp; omega)) he ⟨rfl, hit, ⟨oa, hoa, hca, na, hda⟩⟩ fun h' eb => ⟨rfl, I.turned (t' := s.toks) (fun b o hb q => eb b o hb q) f0 f1 f3 f4 f5⟩
  self := fun A i s Q E st h => let ⟨⟨_, he⟩, _⟩ := st; wpAny_pyIter_enum he h
def iEnumF (K : PySem.W.Frag) (ta : TA) : TI := fun σ H R => ta σ H fun vs H1 => ∃ isT a xs, vs = [.ref a] ∧ Src K isT H1 a xs ∧ R (Itf K isT a) H1
theorem pi_enumF {X : Cx} {e : Expr} {ta : TA} {p pos tpos : Pos} {elts : List Expr} {kk : Nat} (hg : Gl X "enumerate") (hm : X.mg "enumerate" = none) (ha : PA X [e] ta) (hs : starEach [e] X.env = [(false, eval e X.env)] := by rfl) :
    PI X (.Tuple elts kk tpos) (.Call (.Name "enumerate" p) [e] [] pos) (iEnumF X.K ta) := by
  refine ⟨fun pins s σ H R I h => ?_⟩
  refine Call_ (ld_blt I hg hm boot_enumerate (PyProof.Rows.callWith_type1 (thn (ha.run pos pins s σ H _ I h) fun us s1 ⟨vs, H1, I1, r1, q1⟩ => ?_) hs rfl))
  obtain ⟨isT, a, xs, ex, hq, q⟩ := q1
  subst ex
  cases r1 with
  | cons r rr =>
    cases rr
    cases r
    have key : ∀ (h' : Heap), IsEnum h' (s1.heap.objs.size + 1) s1.heap.objs.size 0 .none → (if isT = true then h'.IsTupleIter s1.heap.objs.size a 0 else h'.IsListIter s1.heap.objs.size a 0) → (∀ b o, s1.heap.get? b = some o → h'.get? b = some o) → wpAny (model X.prog X.w) X.A (pyIter (.ref (s1.heap.objs.size + 1))) (PIE X pins σ (.Tuple elts kk tpos) R) X.xe { s1 with heap := h' } := fun h' he hit hk => by
      refine wpAny_pyIter_enum he ?_
      have I2 : Inv X pins σ H1 { s1 with heap := h' } := I1.kept (t' := s1.toks) hk
      refine ⟨s1.heap.objs.size + 1, [s1.heap.objs.size + 1, s1.heap.objs.size], _, _, H1, rfl, I2, turn_enumF a (s1.heap.objs.size + 1) s1.heap.objs.size isT, ⟨⟨.none, he⟩, hit, Nat.succ_ne_self _⟩, fun b hb => ?_, q⟩
      have e' : b = s1.heap.objs.size + 1 ∨ b = s1.heap.objs.size := by simpa using hb
      have hle : s1.heap.objs.size ≤ b := by
        rcases e' with z | z
        · rw [z]; exact Nat.le_add_right _ _
        · rw [z]; exact Nat.le_refl _
      exact I1.fpOk hle (I1.hok.fresh hle)
    cases isT with
    | false =>
      obtain ⟨its, rv, p', hz⟩ := I1.list hq
      exact call_enumerate_list p'.isList fun h' he hit hsz hk => key h' he hit hk
    | true =>
      obtain ⟨its, rv, p', hz⟩ := I1.tuple hq
      exact enum_begins1 (begins_tuple a its.toArray) p' fun h' he ho hsz hk => key h' he ⟨_, ho, rfl, rfl⟩ hk
def enumD (xs : List D) : List D := xs.mapIdx fun i x => .tuple [.int (i : Int), x]
def iEnm (da : DA) : DA := fun env => (da env).bind fun ds e1 => match ds with
  | [.list xs] => .ok (enumD xs) e1
  | [.tuple xs] => .ok (enumD xs) e1
  | _ => .stuck
theorem walk_enum {K : PySem.W.Frag} {G : Hp} {a : Addr} {xs : List V} {ds : List D} {isT : Bool} (h : ∀ G', Ex G G' → Src K isT G' a xs) (dv : DvAll K G xs ds) : WalkD K (Itf K isT a) (enumD ds) G := fun i G' H' e1 e2 => by
  have hq := h H' (e1.trans e2)
  refine ⟨fun d hd => ?_, fun hl => ⟨xs, hq, by rw [dv.length]; simpa [enumD] using hl⟩⟩
  unfold enumD at hd
  rw [List.getElem?_mapIdx] at hd
  cases q : ds[i]? with
  | none => rw [q] at hd; cases hd
  | some d0 =>
    rw [q] at hd
    cases hd
    obtain ⟨x, hx, dx⟩ := dv.get q
    refine ⟨⟨xs, x, hq, hx⟩, fun v H'' hy => ?_⟩
    obtain ⟨T, o, x', rfl, hT, ho, rfl, hxs⟩ := hy
    have hxx : x' = x := by have := hxs xs hq; rw [hx] at this; cases this; rfl
    subst hxx
    have g : Grow G' H' (upd G' T (.frz o (.tup [.int (i : Nat), x']))) (upd H' T (.frz o (.tup [.int (i : Nat), x']))) := Grow.one e2 hT
    exact ⟨_, g, .tup (.inl ⟨o, upd_same, ho⟩) (.cons (.int _) (.cons (dx.up (e1.trans g.gg)) .nil))⟩
section
variable {X : Cx} {W : WX} {pos p tpos : Pos} {e : Expr} {elts : List Expr} {kk : Nat} {da : DA}
theorem ci_enum (hm : X.mg "enumerate" = none) (ha : CA X W [e] da) (hg : Gl X "enumerate" := by rfl) (hs : starEach [e] X.env = [(false, eval e X.env)] := by rfl) : CI X W (.Tuple elts kk tpos) (.Call (.Name "enumerate" p) [e] [] pos) (iEnm da) := by
  refine ⟨fun pins s σ H R I h => ?_⟩
  refine (pi_enumF hg hm ha hs).run pins s σ H R I ?_
  obtain ⟨env, G, RR, h⟩ := h
  refine ⟨env, G, RR, ?_⟩
  unfold iEnm at h
  cases q : da env with
  | stuck => rw [q] at h; exact h
  | ex y e => rw [q] at h; exact h
  | ok ds e1 =>
    rw [q] at h
    intro vs G' H' R' dv F'
    match ds, dv, h with
    | [.list xs], .cons (.lst a b) .nil, h =>
      exact ⟨false, _, _, rfl, (R'.ex.rl a).sq, h _ G' H' R' (walk_enum (isT := false) (fun G2 e2 => (e2.rl a).sq) b) F'⟩
    | [.tuple xs], .cons (.tup a b) .nil, h =>
      exact ⟨true, _, _, rfl, (R'.ex.n a).t, h _ G' H' R' (walk_enum (isT := true) (fun G2 e2 => (e2.n a).t) b) F'⟩
    | [], .nil, h => exact h.elim
    | [.none], .cons _ .nil, h => exact h.elim
    | [.bool _], .cons _ .nil, h => exact h.elim
    | [.int _], .cons _ .nil, h => exact h.elim
    | [.str _], .cons _ .nil, h => exact h.elim
    | [.dict _], .cons _ .nil, h => exact h.elim
    | .none :: _ :: _, .cons _ (.cons _ _), h => exact h.elim
    | .bool _ :: _ :: _, .cons _ (.cons _ _), h => exact h.elim
    | .int _ :: _ :: _, .cons _ (.cons _ _), h => exact h.elim
    | .str _ :: _ :: _, .cons _ (.cons _ _), h => exact h.elim
    | .list _ :: _ :: _, .cons _ (.cons _ _), h => exact h.elim
    | .tuple _ :: _ :: _, .cons _ (.cons _ _), h => exact h.elim
    | .dict _ :: _ :: _, .cons _ (.cons _ _), h => exact h.elim
end
end DL
/- part DL15 -/
set_option Elab.async false
set_option linter.all false
set_option maxRecDepth 100000
set_option autoImplicit false
set_option maxHeartbeats 4000000
/-! DL15: list.extend with a list or a tuple. -/
namespace PySem
open Sem (wp)
open AutoSeq1
set_option maxRecDepth 8000 in
theorem extend_any (l : Addr) (items : Array Value) (n : Nat) (b : Addr) (isT : Bool) (dd : Option Addr) (items2 : Array Value) (n2 : Nat) (sl : Array (Option Value)) (hc0 : ¬(!items.isEmpty && Builtin.List.listTooLong (items.size + items2.size)) = true) (hc1 : items.size ≤ sizeLine) (hs2 : items.size + items2.size ≤ sizeLine + 1) :
    Meets (Builtin.«list.extend» ⟨[.ref l, .ref b], []⟩) (fun _ R s => s.heap.get? l = some { cls := .type "list", dict := none, data := .seq items n, slots := #[] } ∧ s.heap.get? b = some { cls := .type (if isT = true then "tuple" else "list"), dict := dd, data := .seq items2 n2, slots := sl } ∧ R (.ok (.ret Value.none)) { s with heap := s.heap.update l (Obj.mapSeq fun x => x ++ items2), toks := s.toks }) :=
  .of_wp fun prog w A R s h => by
    obtain ⟨hp, g, d, tk, os⟩ := s; obtain ⟨hl, hb, h⟩ := h; have f1 := idx_int; have f2 := sub_tuple_tuple; have f3 := sub_list_list; have f4 := sub_tuple_list; have f5 := sub_list_tuple;
    have hz' : (items ++ items2).size ≤ sizeLine + 1 := by rw [Array.size_append]; exact hs2
    cases isT
    · wp_walk using (wpAny_updateSeq hl rfl (hz := hc1) (_hz' := hz')), wpAny_loadPart' hl, wpAny_loadPart' hb; exact ⟨_, rfl, h⟩
    · wp_walk using (wpAny_updateSeq hl rfl (hz := hc1) (_hz' := hz')), wpAny_loadPart' hl, wpAny_loadPart' hb; exact ⟨_, rfl, h⟩
end PySem
namespace DL
open PySem L2 PySem.Spec PyProof.Rows
section
variable {X : Cx}
def rExtS (K : PySem.W.Frag) : V → List V → Hp → VK → Prop := fun x vs H Q => ∃ (l b : Addr) (isT : Bool) (xs zs : List V), x = .ref l ∧ vs = [.ref b] ∧ H l = some (.lst xs) ∧ Src K isT H b zs ∧ xs.length + zs.length ≤ sizeLine ∧ Q .non (upd H l (.lst (xs ++ zs)))
theorem mt_extS : MtR X "list.extend" (rExtS X.K) := by
  intro pins s σ H x vs v us Q I rx rv h
  obtain ⟨l, b, isT, xs, zs, rfl, rfl, hH, hB, hz, q⟩ := h
  cases rx
  obtain ⟨u, rfl, ru⟩ := rv.one
  cases ru
  obtain ⟨z, its, n, r, hl, e⟩ := I.lstM hH
  have hb : ∃ (its2 : List Value) (dd : Option Addr) (n2 : Nat) (sl : Array (Option Value)), Vals zs its2 ∧ s.heap.get? b = some { cls := .type (if isT = true then "tuple" else "list"), dict := dd, data := .seq its2.toArray n2, slots := sl } := by
    cases isT
    · obtain ⟨its2, r2, ⟨⟨cls, dd, dt, sl⟩, n2, e2, hc, hd, hs⟩, _⟩ := I.list (xs := zs) hB
      simp only at hc hd hs
      subst hc hd hs
      exact ⟨its2, none, n2, sl, r2, e2⟩
    · obtain ⟨its2, r2, ⟨⟨cls, dd, dt, sl⟩, e2, hc, n2, hd⟩, _⟩ := I.tuple (xs := zs) hB
      simp only at hc hd
      subst hc hd
      exact ⟨its2, dd, n2, sl, r2, e2⟩
  obtain ⟨its2, dd, n2, sl, r2, e2⟩ := hb
  have hl2 := r2.length
  have hsz : its.toArray.size + its2.toArray.size ≤ sizeLine := by rw [List.size_toArray, List.size_toArray]; omega
  have hlong : ¬ (!its.toArray.isEmpty && Builtin.List.listTooLong (its.toArray.size + its2.toArray.size)) = true := by
    rw [notLongL hsz, Bool.and_false]
    exact Bool.false_ne_true
  refine call_meets PySem.F.slot_list_extend ⟨_, e, rfl⟩ PySem.F.entry_list_extend (PySem.F.args_list_extend_2 _ _)
    (extend_any l its.toArray n b isT dd its2.toArray n2 sl hlong (by rw [List.size_toArray]; omega) (by omega)) ⟨e, e2, ?_⟩
  refine ⟨.non, _, I.lset (its' := its ++ its2) hH e (by simp) (r.append r2) ?_, rfl, q⟩
  rw [List.length_append]
  omega
end
def mExtend : List D → List D → Option (D × List D)
  | xs, [.tuple ds] => if xs.length + ds.length < 100000 then some (.none, xs ++ ds) else none
  | xs, [.list ds] => if xs.length + ds.length < 100000 then some (.none, xs ++ ds) else none
  | _, _ => none
theorem om_extend {K : PySem.W.Frag} : OwnM K (rExtS K) mExtend := fun l vs ws xs args z ys G H Q h1 h2 h3 ex hg hf k => by
  match args, h3, hf with
  | [.tuple ds], .cons (v := v) a .nil, hf =>
    have hf' : (if xs.length + ds.length < 100000 then some (PyData.none, xs ++ ds) else none) = some (z, ys) := hf
    by_cases c : xs.length + ds.length < 100000
    · rw [if_pos c] at hf'
      cases hf'
      cases a with
      | @tup b zs _ a1 a2 => exact ⟨l, b, true, vs, zs, rfl, rfl, h1, (ex.n a1).t, by rw [h2.length, a2.length]; exact Nat.le_of_lt (lt_size c), k _ _ .non (h2.append a2)⟩
    · rw [if_neg c] at hf'; cases hf'
  | [.list ds], .cons (v := v) a .nil, hf =>
    have hf' : (if xs.length + ds.length < 100000 then some (PyData.none, xs ++ ds) else none) = some (z, ys) := hf
    by_cases c : xs.length + ds.length < 100000
    · rw [if_pos c] at hf'
      cases hf'
      cases a with
      | @lst b zs _ a1 a2 => exact ⟨l, b, false, vs, zs, rfl, rfl, h1, ex.l a1.sq, by rw [h2.length, a2.length]; exact Nat.le_of_lt (lt_size c), k _ _ .non (h2.append a2)⟩
    · rw [if_neg c] at hf'; cases hf'
end DL
namespace DL
open PySem L2 PySem.Spec PyProof.Rows RZ
/-- two tuples side by side, each pair new and frozen -/
def IzF (K : PySem.W.Frag) (a b : Addr) : It :=
  ⟨fun i H => ∃ (xs ys : List V) (x y : V), SqT K H a xs ∧ SqT K H b ys ∧ xs[i]? = some x ∧ ys[i]? = some y,
    fun i H v H' => ∃ T o x y, v = .ref T ∧ H T = none ∧ o.dict = none ∧ H' = upd H T (.frz o (.tup [x, y])) ∧ (∀ xs, SqT K H a xs → xs[i]? = some x) ∧ ∀ ys, SqT K H b ys → ys[i]? = some y,
    fun i H => ∃ xs ys : List V, SqT K H a xs ∧ SqT K H b ys ∧ (xs.length ≤ i ∨ ys.length ≤ i)⟩
theorem turn_zipF {P : Program} {w : World} {K : PySem.W.Frag} {elts : List Expr} {kk : Nat} {tpos : Pos} {a b z TI TO i1 i2 : Addr} (D : ZipApart z TI TO i1 i2 a b) :
    Turn P w K (.Tuple elts kk tpos) (IzF K a b) [z, TI, TO, i1, i2] z (fun i h => IsZip h z TI TO .none ∧ IsPair h TI (.ref i1) (.ref i2) ∧ (∃ x y, IsPair h TO x y) ∧ h.IsTupleIter i1 a i ∧ h.IsTupleIter i2 b i) where
  mem := (turn_zipT (P := P) (w := w) (K := K) (elts := elts) (kk := kk) (tpos := tpos) D).mem
  obj := (turn_zipT (P := P) (w := w) (K := K) (elts := elts) (kk := kk) (tpos := tpos) D).obj
  keep := (turn_zipT (P := P) (w := w) (K := K) (elts := elts) (kk := kk) (tpos := tpos) D).keep
  item := by
    intro X hP hw hK hc i pins s σ H E I hf st hg
    subst hP hw hK
    obtain ⟨hz, hTI, ⟨x0, y0, hTO⟩, h1, h2⟩ := st
    obtain ⟨xs, ys, x, y, hqx, hqy, hx, hy⟩ := hg
    obtain ⟨its, rv, p, _⟩ := I.tuple hqx
    obtain ⟨its2, rv2, p2, _⟩ := I.tuple hqy
    obtain ⟨u, hu, ru⟩ := rv.get hx
    obtain ⟨u2, hu2, ru2⟩ := rv2.get hy
    have hzl : z < s.heap.objs.size := Heap.lt_size hz
    have out : ∀ c, c ∉ [z, TI, TO, i1, i2] → c ≠ z ∧ c ≠ TI ∧ c ≠ TO ∧ c ≠ i1 ∧ c ≠ i2 := fun c hc => by simpa using hc
    refine pyNext_zipT_item D hz hTI hTO h1 h2 p p2 (x := u) (y := u2) (by simpa using hu) (by simpa using hu2) fun h' z' TO' h1' h2' hT hsz hk => ⟨_, rfl, wpAny_letOwnedTupleGo_zip (s := { s with heap := h' }) z' fun h'' z'' sb => ?_⟩
    have hT2 : h''.get? s.heap.objs.size = some { cls := .type "tuple", data := .seq #[u, u2] } := (sb.2 _ (Nat.ne_of_gt hzl)).trans hT
    have new : ObjOk X.prog X.w (upd H s.heap.objs.size (.frz { cls := .type "tuple", data := .seq #[u, u2] } (.tup [x, y]))) h'' s.heap.objs.size (.frz { cls := .type "tuple", data := .seq #[u, u2] } (.tup [x, y])) :=
      ⟨hT2, by show 2 ≤ sizeLine; decide, [u, u2], .cons ru (.cons ru2 .nil), ⟨_, hT2, rfl, _, rfl⟩⟩
    have I1 : Inv X pins σ (upd H s.heap.objs.size (.frz { cls := .type "tuple", data := .seq #[u, u2] } (.tup [x, y]))) { s with heap := h'' } :=
      I.turnedNew (t' := s.toks) (ch := [z, TI, TO, i1, i2]) (fun c o hb q => by
        obtain ⟨n1, n2, n3, n4, n5⟩ := out c hb
        exact (sb.2 c n1).trans (hk c o n1 n3 n4 n5 q)) hf (Nat.le_refl _) new
    refine ⟨.ref s.heap.objs.size, _, I1, rfl, ⟨_, _, x, y, rfl, I.hok.fresh (Nat.le_refl _), rfl, rfl, fun l hl => by rw [I.tuple_inj hl hqx]; exact hx, fun l hl => by rw [I.tuple_inj hl hqy]; exact hy⟩, ⟨z'', (sb.2 _ D.TIz).trans (hk _ _ D.TIz D.TITO D.TIi1 D.TIi2 hTI), ⟨u, u2, (sb.2 _ D.TOz).trans TO'⟩, h1'.at fun o q => (sb.2 _ D.i1z).trans q, h2'.at fun o q => (sb.2 _ D.i2z).trans q⟩, fun c hcm => ?_⟩
    have hlt : c < s.heap.objs.size := by
      have e' : c = z ∨ c = TI ∨ c = TO ∨ c = i1 ∨ c = i2 := by simpa using hcm
      obtain ⟨_, e1, _⟩ := h1
      obtain ⟨_, e2, _⟩ := h2
      rcases e' with rfl | rfl | rfl | rfl | rfl
      · exact hzl
      · exact Heap.lt_size hTI
      · exact Heap.lt_size hTO
      · exact Heap.lt_size e1
      · exact Heap.lt_size e2
    rw [upd_ne (Nat.ne_of_lt hlt)]
    exact (hf c hcm).1
  done := fun X hP hw hK hc i pins s σ H E I hf st hg => (turn_zipT (P := P) (w := w) (K := K) (elts := elts) (kk := kk) (tpos := tpos) D).done X hP hw hK hc i pins s σ H E I hf st hg
  self := (turn_zipT (P := P) (w := w) (K := K) (elts := elts) (kk := kk) (tpos := tpos) D).self
end DL
namespace DL
open PySem L2 PySem.Spec PyProof.Rows RZ
def iZipF (K : PySem.W.Frag) (ta : TA) : TI := fun σ H R => ta σ H fun vs H1 => ∃ a b xs ys, vs = [.ref a, .ref b] ∧ SqT K H1 a xs ∧ SqT K H1 b ys ∧ R (IzF K a b) H1
theorem pi_zipF {X : Cx} {e e2 : Expr} {ta : TA} {p pos tpos : Pos} {elts : List Expr} {kk : Nat} (hg : Gl X "zip") (hm : X.mg "zip" = none) (ha : PA X [e, e2] ta)
    (hs : starEach [e, e2] X.env = (false, eval e X.env) :: starEach [e2] X.env := by rfl) (hpl : (backTo pos (starEach [e2] X.env)).any (·.1) = false := by rfl) :
    PI X (.Tuple elts kk tpos) (.Call (.Name "zip" p) [e, e2] [] pos) (iZipF X.K ta) := by
  refine ⟨fun pins s σ H R I h => ?_⟩
  refine Call_ (ld_blt I hg hm PyProof.Rows.boot_zip (PyProof.Rows.callWith_type1 (thn (ha.run pos pins s σ H _ I h) fun us s1 ⟨vs, H1, I1, r1, q1⟩ => ?_) hs hpl))
  obtain ⟨a, b, xs, ys, rfl, hqx, hqy, q⟩ := q1
  cases r1 with
  | cons r rr =>
   cases rr with
   | cons r' rr =>
    cases rr
    cases r
    cases r'
    obtain ⟨its, rv, p1, _⟩ := I1.tuple hqx
    obtain ⟨its2, rv2, p2, _⟩ := I1.tuple hqy
    obtain ⟨o1, ho1, _⟩ := id p1
    obtain ⟨o2, ho2, _⟩ := id p2
    refine call_zipT (show s1.heap.IsTuple a its.toArray from p1) (show s1.heap.IsTuple b its2.toArray from p2) fun h' hz hTI hTO h1 h2 hsz hk => wpAny_pyIter_zip hz ?_
    have I2 : Inv X pins σ H1 { s1 with heap := h' } := I1.kept (t' := s1.toks) hk
    refine ⟨s1.heap.objs.size + 4, [s1.heap.objs.size + 4, s1.heap.objs.size + 2, s1.heap.objs.size + 3, s1.heap.objs.size, s1.heap.objs.size + 1], _, _, H1, rfl, I2, turn_zipF (PySem.W.ktu_apart s1.heap.objs.size a b (Heap.lt_size ho1) (Heap.lt_size ho2)), ⟨hz, hTI, ⟨_, _, hTO⟩, h1, h2⟩, fun c hcm => ?_, q⟩
    have hle : s1.heap.objs.size ≤ c := by
      simp only [List.mem_cons, List.not_mem_nil, or_false] at hcm
      rcases hcm with z | z | z | z | z <;> rw [z] <;> first | exact Nat.le_refl _ | exact Nat.le_add_right _ _
    exact I1.fpOk hle (I1.hok.fresh hle)
def zipD (xs ys : List D) : List D := (xs.zip ys).map fun p => .tuple [p.1, p.2]
def iZp (da : DA) : DA := fun env => (da env).bind fun ds e1 => match ds with
  | [.tuple xs, .tuple ys] => .ok (zipD xs ys) e1
  | _ => .stuck
theorem walk_zip {K : PySem.W.Frag} {G : Hp} {a b : Addr} {xs ys : List V} {ds es : List D} (h : ∀ G', Ex G G' → SqT K G' a xs) (h2 : ∀ G', Ex G G' → SqT K G' b ys) (dv : DvAll K G xs ds) (dw : DvAll K G ys es) : WalkD K (IzF K a b) (zipD ds es) G := fun i G' H' e1 e2 => by
  have hq := h H' (e1.trans e2)
  have hq2 := h2 H' (e1.trans e2)
  refine ⟨fun d hd => ?_, fun hl => ⟨xs, ys, hq, hq2, by rw [dv.length, dw.length]; simp [zipD] at hl; omega⟩⟩
  unfold zipD at hd
  rw [List.getElem?_map] at hd
  cases q : (ds.zip es)[i]? with
  | none => rw [q] at hd; cases hd
  | some pr =>
    rw [q] at hd
    cases hd
    obtain ⟨q1, q2⟩ := List.getElem?_zip_eq_some.mp q
    obtain ⟨x, hx, dx⟩ := dv.get q1
    obtain ⟨y, hy, dy⟩ := dw.get q2
    refine ⟨⟨xs, ys, x, y, hq, hq2, hx, hy⟩, fun v H'' hyl => ?_⟩
    obtain ⟨T, o, x', y', rfl, hT, ho, rfl, hxs, hys⟩ := hyl
    have hxx : x' = x := by have := hxs xs hq; rw [hx] at this; cases this; rfl
    have hyy : y' = y := by have := hys ys hq2; rw [hy] at this; cases this; rfl
    subst hxx hyy
    have g : Grow G' H' (upd G' T (.frz o (.tup [x', y']))) (upd H' T (.frz o (.tup [x', y']))) := Grow.one e2 hT
    exact ⟨_, g, .tup (.inl ⟨o, upd_same, ho⟩) (.cons (dx.up (e1.trans g.gg)) (.cons (dy.up (e1.trans g.gg)) .nil))⟩
section
variable {X : Cx} {W : WX} {pos p tpos : Pos} {e e2 : Expr} {elts : List Expr} {kk : Nat} {da : DA}
theorem ci_zip (hm : X.mg "zip" = none) (ha : CA X W [e, e2] da) (hg : Gl X "zip" := by rfl) (hs : starEach [e, e2] X.env = (false, eval e X.env) :: starEach [e2] X.env := by rfl) (hpl : (backTo pos (starEach [e2] X.env)).any (·.1) = false := by rfl) : CI X W (.Tuple elts kk tpos) (.Call (.Name "zip" p) [e, e2] [] pos) (iZp da) := by
  refine ⟨fun pins s σ H R I h => ?_⟩
  refine (pi_zipF hg hm ha hs hpl).run pins s σ H R I ?_
  obtain ⟨env, G, RR, h⟩ := h
  refine ⟨env, G, RR, ?_⟩
  unfold iZp at h
  cases q : da env with
  | stuck => rw [q] at h; exact h
  | ex y e => rw [q] at h; exact h
  | ok ds e1 =>
    rw [q] at h
    intro vs G' H' R' dv F'
    by_cases hh : ∃ xs ys, ds = [.tuple xs, .tuple ys]
    · obtain ⟨xs, ys, rfl⟩ := hh
      match vs, dv, h with
      | _, .cons (.tup a b) (.cons (.tup a2 b2) .nil), h =>
        exact ⟨_, _, _, _, rfl, (R'.ex.n a).t, (R'.ex.n a2).t, h _ G' H' R' (walk_zip (fun G2 e2 => (e2.n a).t) (fun G2 e2 => (e2.n a2).t) b b2) F'⟩
    · exfalso
      revert h
      simp only [bind_ok]
      split
      · rename_i xs ys
        exact fun _ => hh ⟨xs, ys, rfl⟩
      · exact fun h => h
end
end DL
/- part DL16 -/
set_option Elab.async false
set_option linter.all false
set_option maxRecDepth 100000
set_option autoImplicit false
set_option maxHeartbeats 4000000
/-! DL16: sorted(dict) with int keys, of any length. -/
namespace PySem
open PySem.W PySem.Calls PyProof.Rows PySem.Spec SrtO
section
variable {prog : Program} {w : World} {A : Around} {E : Value → Shared → Prop} {s : Shared} {T : String} {r d : Addr} {n : Nat} {P : Nat → Value → Prop} {OK : Heap → Prop}
/-- all items of a source, one behind the other; the heap is greater behind it -/
theorem collect_src {R : List Value → Shared → Prop} (K : KdlSrc prog w T r d n P OK) (hh : A.handled = none) (hok : OK s.heap) (hn : n ≤ sizeLine)
    (h : ∀ (h' : Heap) (tk : Nat) (acc : Array Value), (∀ b o, s.heap.get? b = some o → h'.get? b = some o) → s.heap.objs.size < h'.objs.size → ItemsOf P acc n → R acc.toList { s with heap := h', toks := tk }) :
    wpAny (model prog w) A (collect (.ref r)) R E s := by
  have hlt := K.there _ hok
  unfold collect
  refine wpAny_bind (wpAny_runValue (codeAny_builtin entry_proto_collect' ?_))
  rw [Around.under_plainId PySem.F.plain_proto_collect _]
  show wpAny _ A.in1 (newList [] >>= fun l => again (.builtin "list.__iadd__" ⟨[l, .ref r], []⟩)) _ _ s
  refine wpAny_bind (wpAny_newObj_type ?_)
  refine wpAny_pure ⟨plainId_quiet PySem.F.plain_list_iadd _, codeAny_builtin entry_list_iadd' ?_⟩
  rw [Around.under_plainId PySem.F.plain_list_iadd _]
  have hS₁ : (s.heap.push { cls := .type "list", data := .seq ([] : List Value).toArray }).get? s.heap.objs.size = some { cls := .type "list", data := .seq #[] } := Heap.get?_push_size _ rfl
  show wpAny _ A.in1 (Builtin.List.listExtendWith (.ref s.heap.objs.size) (.ref r) (.ref s.heap.objs.size)) _ _ _
  have key := kdl_extend (A := A) (s := { s with heap := s.heap.push { cls := .type "list", data := .seq ([] : List Value).toArray } })
    (R := fun (q : Result) (s' : Shared) => ∃ (h' : Heap) (tk : Nat) (acc' : Array Value) (c' : Nat), q = .ok (.ret (.ref s.heap.objs.size)) ∧ s' = { s with heap := h', toks := tk } ∧
      (∀ b o, s.heap.get? b = some o → h'.get? b = some o) ∧ h'.get? s.heap.objs.size = some { cls := .type "list", dict := none, data := .seq acc' c', slots := #[] } ∧ ItemsOf P acc' n)
    K hh (K.keep _ _ hok fun b _ o e => Heap.get?_push_of_some _ e) s.heap.objs.size (Nat.ne_of_gt hlt.1) (Nat.ne_of_gt hlt.2) (.ref s.heap.objs.size) 0 hS₁
    (fun h' tk acc' c' hk hS' hacc => ⟨h', tk, acc', c', rfl, rfl, fun b o e => hk b o (Nat.ne_of_lt (Heap.lt_size e)) (Heap.get?_push_of_some _ e), hS', hacc⟩) hn
  refine wpAny_mono key (fun f s' x => ?_) fun e s' x => ?_
  · cases f with
    | done f =>
      obtain ⟨h', tk, acc', c', e, rfl, hk, hS', hacc⟩ := x
      cases e
      show wpAny _ A (load s.heap.objs.size >>= _) _ _ _
      exact wpAny_bind (wpAny_load hS' (wpAny_pure (h h' tk acc' hk (Heap.lt_size hS') hacc)))
    | again c₁ =>
      refine ⟨x.1, codeAny_mono x.2 fun q s₂ y => ?_⟩
      obtain ⟨h', tk, acc', c', rfl, rfl, hk, hS', hacc⟩ := y
      show wpAny _ A (load s.heap.objs.size >>= _) _ _ _
      exact wpAny_bind (wpAny_load hS' (wpAny_pure (h h' tk acc' hk (Heap.lt_size hS') hacc)))
  · obtain ⟨_, _, _, _, e', _⟩ := x
    cases e'
theorem sorted_src {ns : List Int} {Q : Value → Shared → Prop} (K : KdlSrc prog w T r d n P OK) (hh : A.handled = none) (hok : OK s.heap) (hn : n ≤ sizeLine) (hP : ∀ acc : Array Value, ItemsOf P acc n → IntsAre acc.toList ns)
    (h : ∀ (p : Addr) (h' : Heap) (tk : Nat) (out : List Value) (c : Nat), s.heap.objs.size ≤ p → (∀ b o, s.heap.get? b = some o → h'.get? b = some o) → h'.get? p = some (seqObj "list" out.toArray c) → IntsAre out (out.map iv) → (out.map iv).Perm ns → (out.map iv).Pairwise (· ≤ ·) → Q (.ref p) { s with heap := h', toks := tk }) :
    wpAny (model prog w) A (call (.builtin "sorted") [.ref r]) Q E s := by
  refine call_function_entry kind_sorted plain_sorted entry_sorted (args_sorted1 _) ?_
  unfold Builtin.«sorted»
  refine wpAny_bind (m := checkCount "sorted" 1 1 _) (wpAny_pure ?_)
  refine wpAny_bind (collect_src (A := A.in1) K hh hok hn fun h' tk acc hk hsz hacc => ?_)
  have hl : acc.toList.length = n := by rw [Array.length_toList]; exact hacc.1
  have hi := hP acc hacc
  refine wpAny_bind (wpAny_newList ?_ (by rw [hl]; exact hn))
  have hob : (h'.push { cls := .type "list", data := .seq acc.toList.toArray }).get? h'.objs.size = some (seqObj "list" acc.toList.toArray 0) := Heap.get?_push_size _ rfl
  have hz : acc.toList.length ≤ sizeLine := by rw [hl]; exact hn
  refine wpAny_bind (wpAny_holding (wpAny_call_entry slot_list_sort ⟨_, hob, rfl⟩ entry_list_sort (list_sort_ord swo_int hob hz (fun h2 => ints_sortable hi h2) fun out hs hb => ⟨_, rfl, ?_⟩) (args_list_sort _)))
  obtain ⟨k1, k2, k3⟩ := ints_out hi hs hb
  obtain ⟨ep, he'⟩ := sortedHeap_at (vs := acc.toList) (out := out.toArray) hob
  refine wpAny_pure ⟨_, rfl, h _ _ tk out ep ?_ (fun b o q => ?_) he' k1 k2 k3⟩
  · exact Nat.le_of_lt hsz
  · have q2 := hk b o q
    rw [sortedHeap_old (Nat.ne_of_lt (Heap.lt_size q2)) (Nat.lt_of_lt_of_le (Heap.lt_size q2) (by rw [Heap.size_push]; exact Nat.le_succ _))]
    exact Heap.get?_push_of_some _ q2
end
end PySem
namespace DL
open PySem L2 PySem.Spec PyProof.Rows
section
variable {X : Cx}
def rSortedK : List V → Hp → VK → Prop := fun vs H Q => ∃ (a : Addr) (kvs : List (Key × V)) (ns : List Int), vs = [V.ref a] ∧ H a = some (.dK kvs) ∧ kvs.map (·.1) = ns.map Sum.inl ∧
  ∀ (ns' : List Int) (p : Addr), ns'.Perm ns → ns'.Pairwise (· ≤ ·) → H p = none → Q (.ref p) (upd H p (.lst (ns'.map V.int)))
theorem ints_keys : ∀ (ks : List Key) (ns : List Int) (vs : List Value), ks = ns.map Sum.inl → vs.length = ks.length → (∀ (i : Nat) (v : Value), vs[i]? = some v → ∃ k, ks[i]? = some k ∧ keyIs k v = true) → IntsAre vs ns
  | _, [], vs, rfl, hl, _ => by
    cases vs with
    | nil => exact .nil
    | cons _ _ => simp at hl
  | _, n :: ns, vs, rfl, hl, h => by
    cases vs with
    | nil => simp at hl
    | cons v vs =>
      obtain ⟨k, hk, hv⟩ := h 0 v rfl
      simp at hk
      subst hk
      rcases keyIs_shape hv with ⟨i, t, e, rfl⟩ | ⟨x, t, e, _⟩
      · cases e
        exact .cons n t (ints_keys _ ns vs rfl (by simpa using hl) fun i u hu => by
          obtain ⟨k, h1, h2⟩ := h (i + 1) u (by simpa using hu)
          exact ⟨k, by simpa using h1, h2⟩)
      · cases e
theorem kv_keys : ∀ {kvs : List (Key × V)} {ws : List (Key × Value)}, KV kvs ws → kvs.map (·.1) = ws.map (·.1)
  | _, _, .nil => rfl
  | _, _, .cons h t => by rw [List.map_cons, List.map_cons, h.1, kv_keys t]
theorem cr_sortedK (hc : X.calm = true) : CallR X (.builtin "sorted") rSortedK := by
  intro pins s σ H vs us Q I r h
  obtain ⟨a, kvs, ns, rfl, ha, hk, q⟩ := h
  rw [Vals.ref1 r]
  obtain ⟨hz, hsys, ws, kv, hD⟩ := I.hok a _ ha
  obtain ⟨ep, hA⟩ : ∃ ep, s.heap.DictAt (mixKind X.prog X.w) a ws ep := let ⟨o, es, ep, h1, h2, h3, h4, h5, h6⟩ := hD; ⟨ep, o, es, h1, h2, h3, h4, h5, h6⟩
  have hw : ws.map (·.1) = ns.map Sum.inl := by rw [← hk]; exact (kv_keys kv).symm
  have hlw : ws.length = ns.length := by have := congrArg List.length hw; simpa using this
  have hlk : kvs.length = ns.length := by have := congrArg List.length hk; simpa using this
  refine sorted_src (ns := ns) (PySem.W.kdl_dict (ep := ep) (kvs := ws) hsys) (I.ok.hd hc) hA (by omega) (fun acc hacc => ?_) fun p h' tk out c hp hkk hob k1 k2 k3 => ?_
  · refine ints_keys _ ns _ hw (by rw [Array.length_toList, hacc.1]; simp) fun i v hv => ?_
    obtain ⟨k, x, h1, h2⟩ := hacc.2 i v (by rw [← Array.getElem?_toList]; exact hv)
    exact ⟨k, by rw [List.getElem?_map, h1]; rfl, h2⟩
  · have hlen : ((out.map SrtO.iv).map V.int).length ≤ sizeLine := by
      rw [List.length_map, k2.length_eq]
      omega
    exact ⟨.ref p, upd H p (.lst ((out.map SrtO.iv).map V.int)), I.laid (t' := tk) hkk hp ⟨hlen, out, c, vals_of_ints k1, hob⟩, rfl, q _ _ k2 k3 (I.hok.fresh hp)⟩
end
end DL
/- part DL17 -/
set_option Elab.async false
set_option linter.all false
set_option maxRecDepth 100000
set_option autoImplicit false
set_option maxHeartbeats 4000000
/-! DL17: a list comprehension over a range while an exception is handled. -/
namespace DL
open PySem L2 L2H HotX PySem.Spec PyProof.Rows
/-- a block's context that bears the handled exception -/
abbrev hblk (X : Cx) (p : Addr × Obj) (s : Shared) (H : Hp) (sc : Scope) (ce : Env) (fp : List Addr) : Cx := { X.blk s H sc ce fp with pn := [p] }
section
variable {X : Cx} {p : Addr × Obj}
theorem hblk_hot (hot : Hot1 X.A p) (s : Shared) (H : Hp) (sc : Scope) (ce : Env) (fp : List Addr) : HotC (hblk X p s H sc ce fp) := ⟨p, hot, List.mem_singleton.mpr rfl⟩
/-- the block starts: what block_start says, the pin kept -/
theorem hblk_start {pins : List (Addr × Obj)} {σ σ' : L2.St} {H : Hp} {s s' : Shared} {sc : Scope} {ce : Env} {fp : List Addr} (hp : p ∈ X.pn) (I : Inv X pins σ H s) (J : Inv (X.blk s H sc ce fp) [] σ' H s')
    (hk : ∀ b o, s.heap.get? b = some o → s'.heap.get? b = some o) (hl : ce.locals = s.heap.objs.size) : Inv (hblk X p s H sc ce fp) [] σ' H s' := by
  obtain ⟨a1, a2, a3, a4, a5⟩ := I.pin p (List.mem_append_left _ hp)
  have jo := J.ok
  refine ⟨⟨jo.mod, jo.kind, jo.glob, jo.blt, jo.above, jo.inj, jo.has, jo.cab, jo.hd, jo.frames, jo.stk, jo.exf, jo.bs, jo.bsz, jo.noex, jo.exfs, jo.funs, jo.frf⟩, J.os, J.bare, J.base, J.loc, J.cell, J.free, J.freeC, fun q hq => ?_, J.hok, J.len⟩
  have eq : q = p := by simpa using (show q ∈ [p] ++ ([] : List (Addr × Obj)) from hq)
  subst eq
  refine ⟨hk _ _ a1, a2, ?_, fun hm => ?_, a5⟩
  · show q.1 ≠ ce.locals
    rw [hl]
    exact Nat.ne_of_lt (Heap.lt_size a1)
  · rcases List.mem_cons.mp (I.stkSub q.1 hm) with z | z
    · exact a3 z
    · exact a4 z
section
variable {pins : List (Addr × Obj)} {s : Shared} {σ : L2.St} {H : Hp} {Q : VK} {elt tg iter : Expr} {ifs : List Expr} {sc : Scope} {own : List (Str × Nat)} {pos pos' : Pos} {wi : TI} {g : TG} {tt : TT} {te : TE} {use : Option (Value → Sem Unit)} {Qf : Value → Shared → Prop}
theorem hot_core (hot : Hot1 X.A p) (hpn : p ∈ X.pn) (hN : X.N.Nodup) (I : Inv X pins σ H s) (hi : PIH X tg iter wi) (ok : BlkOk X.N X.env.scope sc own)
    (hg : ∀ (s : Shared) (H : Hp) (C : Addr) (cl : List (Str × Addr)) (fp : List Addr), PG (hblk X p s H sc (compEnvC sc cl C X.env) fp) tg g)
    (ht : ∀ (s : Shared) (H : Hp) (C : Addr) (cl : List (Str × Addr)) (fp : List Addr), PTs (hblk X p s H sc (compEnvC sc cl C X.env) fp) ifs tt)
    (he : ∀ (s : Shared) (H : Hp) (C : Addr) (cl : List (Str × Addr)) (fp : List Addr), PE (hblk X p s H sc (compEnvC sc cl C X.env) fp) elt te)
    (hs : ∀ x, foldedSetIterable iter X.env x = pure x) (h : tLc wi g tt te (own.map (·.2)) σ H Q)
    (hRR : ∀ D C s' m H', Inv X pins σ H' s' → Q (.ref D) H' → s'.heap.Ns C m → FpOk X pins H' C → compPost (model X.prog X.w) X.A X.xe use Qf (.ref D) C (.ok .next) s') :
    wpAny (model X.prog X.w) X.A (comprehension (.ListComp elt [⟨tg, iter, ifs, 0⟩] sc pos) sc X.env pos' (newList []) false (eval iter X.env) use) Qf X.xe s := by
  have hfr : ∀ y ∈ sc.names, y.2 = .free → ∃ c, X.env.cells.lookup y.1 = some c := fun y hy e => by
    rcases ok.free y hy e with k | k
    · exact I.ok.has _ (.inl k)
    · exact I.ok.has _ (.inr k)
  refine wpAny_comprehension_free (use := use) rfl hs (closure_ok hfr) ok.kind (fun y hy e => by rw [ok.uniq y hy, e])
    (thn (hi.run pins s σ H _ I h) fun xv s1 hx => thn hx fun itv s2 h2 => ?_)
  obtain ⟨it, fp, tn, J, H2, e, I2, T, st2, f2, q⟩ := h2
  subst e
  refine wpAny_newObj_type (newEnv_comp ?_) (by show 0 ≤ sizeLine; decide)
  generalize hD : s2.heap.objs.size = D
  obtain ⟨W, ⟨m0, w0⟩, turn⟩ := q D (I2.hok.fresh (Nat.le_of_eq hD))
  generalize hs3 : ({ s2 with heap := s2.heap.push { cls := .type "list", data := .seq ([] : List Value).toArray } } : Shared) = s3
  have h3 : s3.heap = s2.heap.push { cls := .type "list", data := .seq ([] : List Value).toArray } := by rw [← hs3]
  have I3 : Inv X pins σ (upd H2 D (.lst [])) s3 := by
    subst hs3
    refine I2.laid (t' := s2.toks) (fun b o e => Heap.get?_push_of_some _ e) (Nat.le_of_eq hD) ⟨Nat.zero_le _, [], 0, .nil, ?_⟩
    subst hD
    exact Heap.get?_push_size _ rfl
  have sz : ∀ b ∈ fp, b < s2.heap.objs.size := fun b hb => let ⟨o, e, _⟩ := T.obj _ _ st2 b hb; Heap.lt_size e
  have f3 : ∀ b ∈ fp, FpOk X pins (upd H2 D (.lst [])) b ∧ b < s3.heap.objs.size := fun b hb =>
    ⟨⟨(upd_ne (by rw [← hD]; exact Nat.ne_of_lt (sz b hb))).trans (f2 b hb).1, (f2 b hb).2⟩, by rw [h3, Heap.size_push]; exact Nat.lt_succ_of_lt (sz b hb)⟩
  have st3 : tn 0 s3.heap := T.keep _ _ _ st2 fun b _ o e => (by rw [h3]; exact Heap.get?_push_of_some _ e)
  have I4 := block_start I3 ok hN f3
  have pg := hg s3 (upd H2 D (.lst [])) s3.heap.objs.size (cellsFrom (s3.heap.objs.size + 1) sc.names (cloFrom X.env.cells sc.names [])) fp
  have pt := ht s3 (upd H2 D (.lst [])) s3.heap.objs.size (cellsFrom (s3.heap.objs.size + 1) sc.names (cloFrom X.env.cells sc.names [])) fp
  have pe := he s3 (upd H2 D (.lst [])) s3.heap.objs.size (cellsFrom (s3.heap.objs.size + 1) sc.names (cloFrom X.env.cells sc.names [])) fp
  show codeAny _ _ (.compStart (.ListComp elt [⟨tg, iter, ifs, 0⟩] sc pos) 0 (.ref it) (.ref D) (compEnvC sc (cellsFrom (s3.heap.objs.size + 1) sc.names (cloFrom X.env.cells sc.names [])) s3.heap.objs.size X.env))
    (compPost (model X.prog X.w) X.A X.xe use Qf (.ref D) s3.heap.objs.size) { s3 with heap := pushCells (s3.heap.push { cls := .type "dict", data := .dict #[] }) sc.names }
  have nfp : ∀ b ∈ fp, (upd H2 D (.lst [])) b = none := fun b hb => (f3 b hb).1.1
  generalize hce : compEnvC sc (cellsFrom (s3.heap.objs.size + 1) sc.names (cloFrom X.env.cells sc.names [])) s3.heap.objs.size X.env = ce at I4 pg pt pe ⊢
  have cL : ce.locals = s3.heap.objs.size := by subst hce; rfl
  generalize hH3 : upd H2 D (.lst []) = H3 at I3 I4 pg pt pe w0 nfp f3
  generalize hs4 : ({ s3 with heap := pushCells (s3.heap.push { cls := .type "dict", data := .dict #[] }) sc.names } : Shared) = s4 at I4 ⊢
  have k4 : ∀ b o, s3.heap.get? b = some o → s4.heap.get? b = some o := fun b o e => by
    subst hs4
    exact pushCells_keeps _ _ _ _ (Heap.get?_push_of_some _ e)
  have st4 : tn 0 s4.heap := T.keep _ _ _ st3 fun b _ o e => k4 b o e
  have I4 : Inv (hblk X p s3 H3 sc ce fp) [] (wipe σ (own.map (·.2))) H3 s4 := hblk_start hpn I3 I4 k4 cL
  have hc := hblk_hot hot s3 H3 sc ce fp
  have stat : ∀ {σ' : L2.St} {H' : Hp} {s' : Shared}, Inv (hblk X p s3 H3 sc ce fp) [] σ' H' s' → (∀ b ∈ fp, H' b = none) → ∀ b ∈ fp, FpOk (hblk X p s3 H3 sc ce fp) [] H' b := fun {σ' H' s'} I' hn b hb =>
    ⟨hn b hb, (I'.ok.exf b hb).1, I'.ok.exfs b hb, .inl hb, fun x c e => (I'.ok.exf b hb).2 x c e, fun q hq => by
      have eq : q = p := by simpa using (show q ∈ [p] ++ ([] : List (Addr × Obj)) from hq)
      subst eq
      exact (f3 b hb).1.2.2.2.2.2 q (List.mem_append_left _ hpn)⟩
  have loop : codeAny (model X.prog X.w) X.A (.compLoop (.ListComp elt [⟨tg, iter, ifs, 0⟩] sc pos) 0 (.ref it) (.ref D) ce) (compPost (model X.prog X.w) X.A X.xe use Qf (.ref D) s3.heap.objs.size) s4 := by
    refine compLoop_any (fun n s' => ∃ i H', Inv (hblk X p s3 H3 sc ce fp) [] (wipe σ (own.map (·.2))) H' s' ∧ tn i s'.heap ∧ (∀ b ∈ fp, H' b = none) ∧ W i n H') ?_ m0 ⟨0, H3, I4, st4, nfp, w0⟩
    rintro n s5 ⟨i, H5, I5, st5, n5, w5⟩
    rcases turn i n H5 w5 with ⟨stop, qq⟩ | ⟨go, Nx, hNx, step⟩
    · refine thnF (T.done (hblk X p s3 H3 sc ce fp) rfl rfl rfl hc i [] s5 _ H5 (fun _ _ => False) I5 (stat I5 n5) st5 stop) fun r s6 ⟨hr, I6⟩ => ?_
      subst hr
      have I7 : Inv X pins σ H5 s6 := I3.call' (ch := fp) I6.os I6.base I6.hok I6.bare fun b hb => let z := (f3 b hb).1.2; ⟨z.2.2.1, z.1, z.2.2.2.1, z.2.2.2.2⟩
      have nC : H5 s3.heap.objs.size = none := cL ▸ (show H5 ce.locals = none from I6.free)
      obtain ⟨m, hn, _⟩ := I6.loc
      have hn : s6.heap.Ns s3.heap.objs.size m := cL ▸ (show s6.heap.Ns ce.locals m from hn)
      exact hRR D s3.heap.objs.size s6 m H5 I7 qq hn (I3.fpOk (Nat.le_refl _) nC)
    · refine thnF (T.item (hblk X p s3 H3 sc ce fp) rfl rfl rfl hc i [] s5 _ H5 (fun _ _ => False) I5 (stat I5 n5) st5 go) fun r s6 ⟨u, hr, h6⟩ => ?_
      subst hr
      refine thnF h6 fun _ s7 ⟨x, H7, I7, r7, y7, st7, n7⟩ => ?_
      have I7' := I7.pinned (stat I7 n7) (T.obj _ _ st7)
      refine thnF (pg.run _ s7 _ H7 x u _ I7' r7 (step x H7 y7)) fun _ s8 ⟨σ8, H8, I8, hw8, q8⟩ => ?_
      refine thnF (pt.run _ s8 σ8 H8 _ I8 q8) fun b s9 ⟨H9, I9, q9⟩ => ?_
      have fin : ∀ {s' : Shared} {H' : Hp}, Inv (hblk X p s3 H3 sc ce fp) ([] ++ pinsAt fp s7.heap) σ8 H' s' → Nx H' →
          ∃ m, m < n ∧ ∃ i H', Inv (hblk X p s3 H3 sc ce fp) [] (wipe σ (own.map (·.2))) H' s' ∧ tn i s'.heap ∧ (∀ b ∈ fp, H' b = none) ∧ W i m H' := fun {s' H'} I' nx => by
        obtain ⟨m', hm, w'⟩ := hNx H' nx
        have pin' : ∀ b ∈ fp, ∀ o, s7.heap.get? b = some o → s'.heap.get? b = some o ∧ H' b = none := fun b hb o e => by
          have z := I'.pin (b, o) (List.mem_append_right _ (List.mem_append_right _ (mem_pinsAt hb e)))
          exact ⟨z.1, z.2.1⟩
        refine ⟨m', hm, i + 1, H', (I'.unpinned (pins := [])).weak (by rw [← hw8, wipe_length]) (fun j v e => (wipe_some (hw8 ▸ e)).1), T.keep _ _ _ st7 fun b hb o e => (pin' b hb o e).1, fun b hb => ?_, w'⟩
        obtain ⟨o, e, _⟩ := T.obj _ _ st7 b hb
        exact (pin' b hb o e).2
      cases b with
      | false => exact fin I9 (by simpa using q9)
      | true =>
        simp only [if_true] at q9 ⊢
        refine thnF (pe.run _ s9 σ8 H9 _ I9 q9) fun z s10 ⟨yv, H10, I10, r10, acc, hD10, hz10, nx⟩ => ?_
        exact app_ok (X := hblk X p s3 H3 sc ce fp) I10 hD10 hz10 r10 fun s11 I11 => fin I11 nx
  exact codeAny_compStart_list loop (T.self X.A 0 _ _ _ st4 loop)
theorem pe_lcH (hot : Hot1 X.A p) (hpn : p ∈ X.pn) (hN : X.N.Nodup) (hi : PIH X tg iter wi) (ok : BlkOk X.N X.env.scope sc own)
    (hg : ∀ (s : Shared) (H : Hp) (C : Addr) (cl : List (Str × Addr)) (fp : List Addr), PG (hblk X p s H sc (compEnvC sc cl C X.env) fp) tg g)
    (ht : ∀ (s : Shared) (H : Hp) (C : Addr) (cl : List (Str × Addr)) (fp : List Addr), PTs (hblk X p s H sc (compEnvC sc cl C X.env) fp) ifs tt)
    (he : ∀ (s : Shared) (H : Hp) (C : Addr) (cl : List (Str × Addr)) (fp : List Addr), PE (hblk X p s H sc (compEnvC sc cl C X.env) fp) elt te)
    (hs : ∀ x, foldedSetIterable iter X.env x = pure x := by intro _; rfl) : PE X (.ListComp elt [⟨tg, iter, ifs, 0⟩] sc pos) (tLc wi g tt te (own.map (·.2))) := by
  refine ⟨fun pins s σ H Q I h => ?_⟩
  rw [eval_ListComp]
  refine hot_core hot hpn hN I hi ok hg ht he hs h fun D C s' m H' I' q hn f => ⟨m, hn, fun h'' sb => ?_⟩
  obtain ⟨f0, f1, f2, f3, f4, f5⟩ := f
  exact ⟨.ref D, H', I'.turned (t' := s'.toks) (fun b o hb e => (sb.2 b hb).trans e) f0 f1 f3 f4 f5, rfl, q⟩
end
abbrev CIH (X : Cx) (W : WX) (tg e : Expr) (di : DA) : Prop := PIH X tg e (rdI X.K X.mg W di)
theorem pih_imp {tg e : Expr} {wi wi' : TI} (h : PIH X tg e wi) (k : ∀ σ H R, wi' σ H R → wi σ H R) : PIH X tg e wi' := ⟨fun pins s σ H R I w => h.run pins s σ H R I (k σ H R w)⟩
end
end DL
/- part DL18 -/
set_option Elab.async false
set_option linter.all false
set_option maxRecDepth 100000
set_option autoImplicit false
set_option maxHeartbeats 4000000
/-! DL18: several except clauses with names; isinstance of the handled exception; a def called with it. -/
namespace DL
open PySem L2 L2H HotX PySem.Spec PyProof.Rows
/-! ### isinstance(e, c), e the handled exception -/
structure ExI (K : PySem.W.Frag) (C : Addr) : Prop where
  cl : (PySem.W.clsIn K C).isSome = true
  ga : PySem.W.findIn K (.ref C) "__getattribute__" = some (some (.builtin "BaseException.__getattribute__"))
  gt : PySem.W.findIn K (.ref C) "__getattr__" = some none
  sb : PySem.W.subIn K (.ref C) (.type "BaseException") = some true
  ca : PySem.W.findIn K (.ref C) "__class__" = some (some (.builtin "object.__class__"))
  gn : PySem.W.specialIn K (.builtin "object.__class__") "__get__" = some (some (.builtin "getset_descriptor.__get__"))
  tk : PySem.W.takesIn K (.builtin "object.__class__") = some true
  mr : PySem.W.mroIn K C (.type "object") = some true
def exiB (K : PySem.W.Frag) (C : Addr) : Bool :=
  (PySem.W.clsIn K C).isSome && (decide (PySem.W.findIn K (.ref C) "__getattribute__" = some (some (.builtin "BaseException.__getattribute__"))) && (decide (PySem.W.findIn K (.ref C) "__getattr__" = some none) &&
    (decide (PySem.W.subIn K (.ref C) (.type "BaseException") = some true) && (decide (PySem.W.findIn K (.ref C) "__class__" = some (some (.builtin "object.__class__"))) &&
      (decide (PySem.W.specialIn K (.builtin "object.__class__") "__get__" = some (some (.builtin "getset_descriptor.__get__"))) && (decide (PySem.W.takesIn K (.builtin "object.__class__") = some true) && decide (PySem.W.mroIn K C (.type "object") = some true)))))))
theorem exiB_ok {K : PySem.W.Frag} {C : Addr} (h : exiB K C = true) : ExI K C := by
  unfold exiB at h
  simp only [Bool.and_eq_true, decide_eq_true_eq] at h
  obtain ⟨h1, h2, h3, h4, h5, h6, h7, h8⟩ := h
  exact ⟨h1, h2, h3, h4, h5, h6, h7, h8⟩
def rIsX (K : PySem.W.Frag) (C a : Addr) (d : Option Addr) : List V → Hp → VK → Prop := fun xs H Q =>
  ∃ (c : V) (cv : Value) (b : Bool), xs = [.ref a, c] ∧ (∀ u, RelV c u → u = cv) ∧ PySem.W.kitOne K (.ref C) cv = some b ∧ (∀ dx, d = some dx → ∃ fs, H dx = some (.xd fs)) ∧ Q (.bl b) H
theorem cr_isX {X : Cx} {a C : Addr} {d : Option Addr} {oe : Obj} (T : ExI X.K C) (hp : (a, oe) ∈ X.pn) (hz : Zc (.ref C) d oe) (hf : ∃ vs, oe.data = .fields vs) : CallR X (.builtin "isinstance") (rIsX X.K C a d) := by
  intro pins s σ H xs us Q I r h
  obtain ⟨c, cv, b, rfl, hcv, e, xd, q⟩ := h
  cases r with
  | cons rx rr =>
    cases rr with
    | cons rt rr =>
      cases rr
      cases rx
      cases hcv _ rt
      have hget := (I.pin (a, oe) (List.mem_append_left _ hp)).1
      obtain ⟨vs, hv⟩ := hf
      have nc : PySem.W.notCls oe = true := by unfold PySem.W.notCls; rw [hv]
      have J : ∃ od, PySem.W.InstAt s.heap a oe C od := by
        cases d with
        | none => exact ⟨none, hget, hz.1, nc, by rw [hz.2]; trivial⟩
        | some dx =>
          obtain ⟨fs, hx⟩ := xd dx rfl
          have ho : ObjOk X.prog X.w H s.heap dx (.xd fs) := I.hok dx _ hx
          obtain ⟨mA, hns, _⟩ := ho
          obtain ⟨o, es, ep, h1, _⟩ := hns
          exact ⟨some o, hget, hz.1, nc, by rw [hz.2]; exact h1⟩
      obtain ⟨od, J⟩ := J
      exact PySem.W.kia_one (PySem.W.kitx_exc T.cl T.ga T.gt T.sb T.ca T.gn T.tk T.mr) I.kIn J e (fun z => nomatch z) fun tk => ⟨.bl b, H, I.kept (t' := tk) fun _ _ z => z, rfl, q⟩
/-! ### a def that is called with the handled exception -/
structure FnX (P : Program) (w : World) (K : PySem.W.Frag) (mg : Str → Option Value) (base : Heap) (k : Nat) (f : Addr) (fd : FuncData) (ps : List Str) (p : Addr × Obj) (sp : Sp) : Prop where
  len : ∀ vs H Q E, sp vs H Q E → vs.length = ps.length
  run : ∀ (A : Around) (outer : List Env) (s : Shared) (H : Hp) (args : Args) (us : List Value) (vs : List V) (Q : VK), RoomH k A → Hot1 A p → PinOk outer H s p → Env0 P w K mg base A outer s H →
    BindsTo s fd args (ps.zip us) → Vals vs us → sp vs H Q (fun _ _ _ => False) → codeAny (model P w) A (.call (.ref f) args) (L2.CR (L2N.CX P w) outer P w H s Q fun _ _ _ => False) s
abbrev cxX (P : Program) (w : World) (K : PySem.W.Frag) (mg : Str → Option Value) (base : Heap) (N : List Str) (qual : Str) (sc : Scope) (f : Addr) (cd : Value) (A : Around) (outer : List Env) (s : Shared) (H : Hp) (p : Addr × Obj) : Cx :=
  cxH (L2N.CX P w) P w K mg base N qual sc f cd A outer s H (fun _ _ _ => False) p
section
variable {P : Program} {w : World} {K : PySem.W.Frag} {mg : Str → Option Value} {base : Heap} {k : Nat} {f : Addr} {name qual : Str} {params : Arguments} {body : List Stmt} {sc : Scope} {dV kV doc pm cdv ct oc : Value} {an od : Option Addr} {osl : Array (Option Value)} {N ps : List Str} {sp : Sp} {p : Addr × Obj}
theorem fnX_of (lk : K.lookup f = some ⟨oc, od, .func (PySem.W.fnOf name qual params body sc dV kV doc pm an cdv ct), osl⟩) (hcd : PySem.W.codeIn K cdv qual = true) (S : FnScope N ps sc) (len : ∀ vs H Q E, sp vs H Q E → vs.length = ps.length)
    (hbody : ∀ (A : Around) (outer : List Env) (s : Shared) (H : Hp) (vs : List V) (Q : VK), Hot1 A p → RoomH k (A.deeper (envOfC qual sc s.heap.objs.size f cdv)) → sp vs H Q (fun _ _ _ => False) →
      ∃ t, PSs (cxX P w K mg base N qual sc f cdv A outer s H p) body t ∧ t { nx := fun _ H' => Q .non H', rt := Q } (L2.start N vs) H) :
    FnX P w K mg base (k + 1) f (PySem.W.fnOf name qual params body sc dV kV doc pm an cdv ct) ps p sp := by
  refine ⟨len, fun A outer s H args us vs Q hr hot hpin e0 hb r hsp => ?_⟩
  have keeps : ∀ b o, base.get? b = some o → s.heap.get? b = some o := fun b o e => (e0.bs b o e).1
  have KX := e0.mod.kin.keeps keeps
  have hkind : ∀ y ∈ ps.zip us, sc.names.lookup y.1 = some .local ∨ (sc.names.lookup y.1 = some .cell ∧ ((cellsFrom (s.heap.objs.size + 1) sc.names []).lookup y.1).isSome = true) := by
    rintro ⟨n, v⟩ hy
    rcases S.par n (List.of_mem_zip hy).1 with q | q
    · exact .inl q
    · exact .inr ⟨q, PySem.W.cellsFrom_some _ _ _ (.inl q)⟩
  refine codeAny_call_function hr.depth (KX _ _ lk) rfl S.co S.gen rfl (PySem.W.codeRec_of KX hcd) (hb _ _ _ _ (wpAny_newFunctionEnv_cells S.kind hkind fun env he s1 x => ?_))
  subst he
  refine ⟨(e0.mod.nolimit.keeps keeps).keeps x.toInCall.keep, codeAny_func ?_⟩
  obtain ⟨t, ht, hq⟩ := hbody A outer s H vs Q hot (hr.deeper _) hsp
  have I : Inv (cxX P w K mg base N qual sc f cdv A outer s H p) [] (L2.start N vs) H s1 := inv_startH S hpin e0 (len _ _ _ _ hsp) r x
  refine wpAny_mono (ht.run [] s1 (L2.start N vs) H _ I hq) (fun fl s' hs => ?_) fun e s' hs => hs
  have fin : ∀ {σ' : L2.St} {H' : Hp} {v : V} {u : Value}, Inv (cxX P w K mg base N qual sc f cdv A outer s H p) [] σ' H' s' → RelV v u → Q v H' → L2.CE outer P w H s Q u s' :=
    fun {σ' H' v u} J rv q => ⟨v, H', J.os, J.bare, J.base, J.hok, rv, q⟩
  match fl, hs with
  | .ret u, ⟨v, σ', H', J, rv, q⟩ => exact fin J rv q
  | .next, ⟨σ', H', J, q⟩ => exact fin (v := V.non) (u := Value.none) J rfl q
  | .brk, ⟨_, _, _, q⟩ => exact q.elim
  | .cont, ⟨_, _, _, q⟩ => exact q.elim
end
section
variable {X : Cx} {k : Nat} {f : Addr} {fd : FuncData} {ps : List Str} {sp : Sp} {x : Str} {q pos : Pos} {e : Expr} {es : List Expr} {t : TA} {p : Addr × Obj}
def tCallX (sp : Sp) (t : TA) : TE := fun σ H Q => t σ H fun vs H1 => sp vs H1 Q fun _ _ _ => False
theorem pe_callX (F : FnX X.prog X.w X.K X.mg X.base k f fd ps p sp) (hr : RoomH k X.A) (hot : Hot1 X.A p) (hp : p ∈ X.pn) (hg : Gl X x) (hm : X.mg x = some (.ref f)) (hk : PySem.W.keepIn X.K (.ref f) = true) (hb : Binds X.K fd ps []) (ha : PA X (e :: es) t)
    (hdb : (x == ("__debug__" : Str)) = false := by decide) (he : starEach (e :: es) X.env = (false, eval e X.env) :: starEach es X.env := by rfl) (hpl : (backTo pos (starEach es X.env)).any (·.1) = false := by rfl) :
    PE X (.Call (.Name x q) (e :: es) [] pos) (tCallX sp t) := by
  refine ⟨fun pins s σ H Q I h => wpAny_Call_Name_kw (ld_glob I hg hm ?_ hdb)⟩
  refine PySem.W.callWith_K (h₀ := X.base) I.ok.mod.kin hk (thn (ha.run pos pins s σ H _ I h) fun us s1 ⟨vs, H1, I1, r, q⟩ => ⟨I1.kIn, ?_⟩) he hpl
  have hl : us.length = ps.length := by rw [← r.length]; exact F.len _ _ _ _ q
  have b := hb s1 us I1.kIn (by rw [List.append_nil]; exact hl)
  rw [List.append_nil] at b
  obtain ⟨a1, a2, a3, a4, a5⟩ := I1.pin p (List.mem_append_left _ hp)
  have hpin : PinOk X.stack H1 s1 p := ⟨a1, a2, fun hm => (List.mem_cons.mp (I1.stkSub p.1 hm)).elim a3 a4, a5⟩
  refine wpAny_call (codeAny_mono (F.run X.A X.stack s1 H1 ⟨us, []⟩ us vs Q hr hot hpin I1.env0 b r q) fun r s' hq => ?_)
  match r, hq with
  | .error e, hq =>
    obtain ⟨_, _, _, _, _, _, _, _, _, _, _, _, z⟩ := hq
    exact z.elim
  | .ok (.ret u), hq => exact I1.after hq
  | .ok .next, hq => exact hq.elim
  | .ok .brk, hq => exact hq.elim
  | .ok .cont, hq => exact hq.elim
end
/-! ### try: body, except x as n: suite, except y as n: suite, .. -/
abbrev Ends.lose (D : Ends) (i : Nat) : Ends := { nx := fun σ H => D.nx (σ.set i none) H, rt := D.rt, bk := fun σ H => D.bk (σ.set i none) H, ct := fun σ H => D.ct (σ.set i none) H }
abbrev Hd := Value × (Addr → Value → Option Addr → TS)
def wAsM (K : PySem.W.Frag) (i : Nat) (W : WX) (D : Ends) : List Hd → WX
  | [] => W
  | (c, ts) :: r => fun cls d σ H => ∃ b, PySem.W.exmOne K cls c = some b ∧ (b = true → ∀ a, H a = none → ts a cls d (Ends.lose D i) (σ.set i (some (.ref a))) H) ∧ (b = false → wAsM K i W D r cls d σ H)
inductive HdsAs (X : Cx) (n : Str) : List ExceptHandler → List Hd → Prop
  | nil : HdsAs X n [] []
  | cons {x : Str} {c : Value} {ts : Addr → Value → Option Addr → TS} {b₀ : Stmt} {su : List Stmt} {np pos' : Pos} {hds : List ExceptHandler} {l : List Hd} (hc : Names X x c)
      (hsu : ∀ (a : Addr) (oe : Obj) (cls : Value) (d : Option Addr) (pn : List (Addr × Obj)), L2N.Zn cls d oe → (∃ vs, oe.data = .fields vs) → PSs (X.suite a ((a, oe) :: pn)) (b₀ :: su) (ts a cls d)) (r : HdsAs X n hds l) :
      HdsAs X n (.ExceptHandler (some (.Name x np)) (some n) (b₀ :: su) pos' :: hds) ((c, ts) :: l)
section
variable {X : Cx} {body : List Stmt} {hd0 : ExceptHandler} {hds : List ExceptHandler} {l : List Hd} {pos : Pos} {tb : WX → TS} {W : WX} {n : Str} {i : Nat}
theorem ps_tryAs (hs : X.stack = X.env :: X.outer) (hf : X.env.frame = some X.env.locals) (hN : X.N.Nodup) (hi : X.N[i]? = some n) (hln : X.env.kindOf n = some .local) (tk : L2N.Takes X W)
    (hb : ∀ (W : WX) (pn : List (Addr × Obj)) (xe : Value → Shared → Prop), L2N.Takes (X.tr pn xe) W → PassesOwn (model X.prog X.w) X.A X.env xe → PSs (X.tr pn xe) body (tb W))
    (hh : HdsAs X n (hd0 :: hds) l) : PS X (.Try body (hd0 :: hds) [] [] pos) (fun D σ H => tb (wAsM X.K i W D l) D σ H) := by
  refine ⟨fun pins s σ H D I h => ?_⟩
  have ok := I.ok
  have hfr : X.A.frames = some (X.env :: X.outer) := ok.frames.trans (congrArg some hs)
  have hloc : Loc X.env.scope n := .inl hln
  let xe' : Value → Shared → Prop := fun e s₁ => wpAny (model X.prog X.w) X.A (noteFrame e X.env)
    (fun _ s₂ => wpAny (model X.prog X.w) X.A (setFlight e none) (fun _ s₃ => wpAny (model X.prog X.w) X.A (handleBy e X.env (hd0 :: hds)) (SP X pins D) X.xe s₃) X.xe s₂) X.xe s₁
  have pw : PassesOwn (model X.prog X.w) X.A X.env xe' := PassesOwn.looking
  refine wpAny_Try_except (wpAny_mono ((hb (wAsM X.K i W D l) (X.pn ++ pins) xe' (fun u s' xx => ?_) pw).run [] s σ H D (I.toTry _) h) (fun fl s1 hsp => ?_) (fun e s1 he => he))
  · obtain ⟨a, B, sI, pins', σ', H', cls, d, rfl, J', nb, up, sky, na, os, ag, w⟩ := xx
    have J : Inv X pins σ' H' sI := J'.ofTry ok
    refine L2N.Sky.land L2N.Zn.steady hfr hf (hs ▸ sky) fun h3 fl3 up3 => ?_
    have J3 : Inv X pins σ' H' { s' with heap := h3 } := J.landed nb fl3.1 (up.trans up3) os ag
    obtain ⟨oe3, vs3, he3, hz3, hd3⟩ := fl3.there
    have nfr : a ∉ frs (X.env :: X.outer) := fun hm => by
      obtain ⟨_, o', e', hnf⟩ := fl3.2.2.1.mem hm
      rw [he3] at e'
      cases e'
      exact hnf _ hd3
    have nL : a ≠ X.env.locals := fun z => nfr (List.mem_filterMap.mpr ⟨X.env, List.mem_cons_self, by rw [hf, z]⟩)
    have nF : a ∉ X.fs := fun hm => let ⟨e, he, q⟩ := List.mem_filterMap.mp hm; nfr (List.mem_filterMap.mpr ⟨e, List.mem_cons_of_mem _ he, q⟩)
    have S3 := J3.suite he3 hd3 na nL nF
    have go : ∀ {hds' : List ExceptHandler} {l' : List Hd}, HdsAs X n hds' l' → wAsM X.K i W D l' cls d σ' H' → wpAny (model X.prog X.w) X.A (handleBy (.ref a) X.env hds') (SP X pins D) X.xe { s' with heap := h3 } := by
      intro hds' l' hk
      induction hk with
      | nil =>
        intro w
        obtain ⟨k1, k2, k3, oe, vs, T, oT, ts', he, hz, hd, h1, hr⟩ := id fl3
        refine wpAny_handleBy_nil ?_
        unfold PySem.passOn
        refine wpAny_bind (wpAny_field he hd h1 ?_)
        rw [if_neg (show ¬ ((Value.ref T == Value.none) = true) from by simp)]
        have fin : wpAny (model X.prog X.w) X.A (setFlight (.ref a) X.env.frame) (fun _ s4 => wpAny (model X.prog X.w) X.A (throw (.ref a) : Sem Flow) (SP X pins D) X.xe s4) X.xe { s' with heap := h3 } := by
          rw [hf]
          exact HandSPX.setFlight_upZ fl3 fun h4 hh4 up4 => wpAny_throw (tk _ _ ⟨a, B, sI, pins, σ', H', cls, d, rfl, J, nb, (up.trans up3).trans up4, .inr (.inr (by rw [hs]; exact hh4)), na, os, ag, w⟩)
        first
          | exact wpAny_bind (wpAny_pure (wpAny_bind fin))
          | exact wpAny_bind fin
      | @cons x c ts b₀ su np pos' hds2 l2 hc hsu r ih =>
        intro w
        obtain ⟨b, hb1, hyes, hno⟩ := w
        have LT : PySem.W.Looks (model X.prog X.w) h3 (typeOf (.ref a)) cls := fun A Q E s k q => wpAny_typeOf_ref (k _ _ he3) (hz3.1.symm ▸ q)
        have test : ∀ {Q : Value → Shared → Prop} {E : Value → Shared → Prop}, Q c { s' with heap := h3 } → wpAny (model X.prog X.w) (X.A.mark (some (.ref a))) (eval (.Name x np) X.env) Q E { s' with heap := h3 } := fun {Q E} q => by
          obtain ⟨hg, hdbg, hm | ⟨hm, hv, hnn⟩⟩ := hc
          · exact ld_glob (X := X.suite a ((a, oe3) :: (X.pn ++ pins))) S3 hg hm q hdbg
          · exact ld_blt (X := X.suite a ((a, oe3) :: (X.pn ++ pins))) S3 hg hm hv q hnn hdbg
        refine wpAny_handleBy_cons (codeAny_handlers_test (test ((PySem.W.exm_one (M := model X.prog X.w) J3.kIn LT hb1).here ?_))) (by intro q; cases q)
        cases b with
        | false => exact ih (hno rfl)
        | true =>
          refine codeAny_handlers_suite_as (HandSPX.lands_againZ fl3 fun h4 fl4 up4 => ?_)
          have J4 : Inv X pins σ' H' { s' with heap := h4 } := J.landed nb fl4.1 ((up.trans up3).trans up4) os ag
          obtain ⟨oe4, vs4, he4, hz4, hd4⟩ := fl4.there
          have S4 := J4.suite he4 hd4 na nL nF
          refine store_ok (X := X.suite a ((a, oe4) :: (X.pn ++ pins))) (v := .ref a) S4 hN hi hloc rfl (fun s5 S5 => ?_) (.inr hln)
          refine wpAny_mono ((hsu a oe4 cls d (X.pn ++ pins) hz4 ⟨_, hd4⟩).run [] s5 _ H' _ S5 (hyes rfl a na)) (fun fl s6 hsp => ?_) (fun _ _ z => False.elim z)
          have end_ : ∀ {σ6 : L2.St} {H6 : Hp} {Q : Shared → Prop}, Inv (X.suite a ((a, oe4) :: (X.pn ++ pins))) [] σ6 H6 s6 → (∀ s7, Inv X pins (σ6.set i none) H6 s7 → Q s7) →
              wpAny (model X.prog X.w) X.A (do bindName X.env n .none; unbindBehindTheSuite X.env n pos') (fun _ s7 => Q s7) X.xe s6 := fun {σ6 H6 Q} S6 hq => gone_ok (S6.unsuite ok) hN hi hln hq
          match fl, hsp with
          | .next, ⟨σ6, H6, S6, q6⟩ => exact end_ S6 fun s7 J7 => ⟨_, _, J7, q6⟩
          | .brk, ⟨σ6, H6, S6, q6⟩ => exact end_ S6 fun s7 J7 => ⟨_, _, J7, q6⟩
          | .cont, ⟨σ6, H6, S6, q6⟩ => exact end_ S6 fun s7 J7 => ⟨_, _, J7, q6⟩
          | .ret u, ⟨v6, σ6, H6, S6, r6, q6⟩ => exact end_ S6 fun s7 J7 => ⟨_, _, _, J7, r6, q6⟩
    exact go hh w
  · match fl, hsp with
    | .next, ⟨σ', H', J', q⟩ => exact wpAny_execs_nil ⟨σ', H', J'.ofTry ok, q⟩
    | .brk, ⟨σ', H', J', q⟩ => exact ⟨σ', H', J'.ofTry ok, q⟩
    | .cont, ⟨σ', H', J', q⟩ => exact ⟨σ', H', J'.ofTry ok, q⟩
    | .ret u, ⟨v, σ', H', J', r, q⟩ => exact ⟨v, σ', H', J'.ofTry ok, r, q⟩
end
end DL
/- part DL19 -/
set_option Elab.async false
set_option linter.all false
set_option maxRecDepth 100000
set_option autoImplicit false
set_option maxHeartbeats 4000000
/-! DL19: try, except .. as e, by data; join. -/
namespace DL
open PySem L2 L2H HotX PySem.Spec PyProof.Rows
/-! ### sep.join(texts) -/
def strsD : List D → Option (List Str)
  | [] => some []
  | .str x :: r => (strsD r).map (x :: ·)
  | _ :: _ => none
theorem strsD_some : ∀ {ds : List D} {ys : List Str}, strsD ds = some ys → ds = ys.map PyData.str
  | [], _, h => by cases h; rfl
  | .str x :: r, _, h => by
    cases q : strsD r with
    | none => simp [strsD, q] at h
    | some zs =>
      simp [strsD, q] at h
      subst h
      rw [strsD_some q]
      rfl
  | .none :: _, _, h => by cases h
  | .bool _ :: _, _, h => by cases h
  | .int _ :: _, _, h => by cases h
  | .list _ :: _, _, h => by cases h
  | .tuple _ :: _, _, h => by cases h
  | .dict _ :: _, _, h => by cases h
theorem dv_strs {K : PySem.W.Frag} {G : Hp} : ∀ {vs : List V} {ys : List Str}, DvAll K G vs (ys.map PyData.str) → vs = ys.map V.str
  | _, [], h => by cases h; rfl
  | _, y :: ys, h => by
    cases h with
    | cons a b => cases a; rw [dv_strs b]; rfl
def joinG (a : Str) (ys : List Str) : Prop := (ys.map (·.length)).sum + ys.length * a.length ≤ 16777216
instance (a : Str) (ys : List Str) : Decidable (joinG a ys) := by unfold joinG; infer_instance
def dJoin (a : Str) : D → Option D
  | .list xs => match strsD xs with
    | some ys => if joinG a ys then some (.str (Txt.join a ys)) else none
    | none => none
  | .tuple xs => match strsD xs with
    | some ys => if joinG a ys then some (.str (Txt.join a ys)) else none
    | none => none
  | _ => none
def eJoin (da db : DE) : DE := fun env => (da env).bind fun x e1 => match x with
  | .str a => (db e1).bind fun y e2 => put (dJoin a y) e2
  | _ => .stuck
section
variable {X : Cx} {W : WX} {pos apos : Pos} {o e : Expr} {da db : DE}
theorem ce_join (ho : CE X W o da) (he : CE X W e db) (hs : starEach [e] X.env = [(false, eval e X.env)] := by rfl) (hbase : attributeBase o "join" X.env (eval o X.env) = eval o X.env := by rfl) (hline : (apos.endLine == pos.line) = true := by rfl) :
    CE X W (.Call (.Attribute o "join" apos) [e] [] pos) (eJoin da db) := pe_imp (pe_join ho he hs hbase hline) fun σ H Q h => by
  obtain ⟨env, G, R, h⟩ := h
  refine E_thenE R h fun d e1 v G1 H1 _ R1 dv F1 h1 => ?_
  cases dv with
  | str a =>
    refine ⟨⟨a, rfl⟩, E_thenE R1 h1 fun y e2 w G2 H2 _ R2 dw F2 h2 => ?_⟩
    obtain ⟨z, ez, k⟩ := RunE.put R2 h2
    have fin : ∀ {p : Addr} {vs : List V} {xs : List D}, (SqL X.K H2 p vs ∨ SqT X.K H2 p vs) → DvAll X.K G2 vs xs → (match strsD xs with
        | some ys => if joinG a ys then some (PyData.str (Txt.join a ys)) else none
        | none => none) = some z → ∃ a' p', ∃ ys : List Str, V.str a = .str a' ∧ [V.ref p] = [.ref p'] ∧ (SqL X.K H2 p' (ys.map V.str) ∨ SqT X.K H2 p' (ys.map V.str)) ∧ (ys.map (·.length)).sum + ys.length * a'.length ≤ 16777216 ∧ Q (.str (Txt.join a' ys)) H2 := fun {p vs xs} hq dvs ez => by
      cases q : strsD xs with
      | none => rw [q] at ez; cases ez
      | some ys =>
        rw [q] at ez
        by_cases c : joinG a ys
        · simp only [if_pos c] at ez
          cases ez
          rw [strsD_some q] at dvs
          rw [dv_strs dvs] at hq
          exact ⟨a, p, ys, rfl, rfl, hq, c, k _ G2 H2 (.str _) (Grow.refl R2.ex)⟩
        · simp only [if_neg c] at ez
          cases ez
    cases dw with
    | lst x y => exact fin (.inl (R2.ex.rl x).sq) y ez
    | tup x y => exact fin (.inr (R2.ex.n x).t) y ez
    | non => cases ez
    | bl _ => cases ez
    | int _ => cases ez
    | str _ => cases ez
    | dct _ _ => cases ez
  | non => exact h1.elim
  | bl _ => exact h1.elim
  | int _ => exact h1.elim
  | lst _ _ => exact h1.elim
  | tup _ _ => exact h1.elim
  | dct _ _ => exact h1.elim
end
/-! ### a comprehension over a range while an exception is handled -/
section
variable {X : Cx} {W : WX} {pos : Pos} {p : Addr × Obj}
theorem ci_range1H {tg a : Expr} {da : DA} {q : Pos} (hm : X.mg "range" = none) (ha : CA X W [a] da) (hg : Gl X "range" := by rfl) (hs : starEach [a] X.env = [(false, eval a X.env)] := by rfl) : CIH X W tg (.Call (.Name "range" q) [a] [] pos) (iRng1 da) :=
  pih_imp (pi_range1H hg hm ha hs) fun σ H R h => by
    obtain ⟨env, G, R0, h⟩ := h
    refine A_thenI R0 h fun ds e1 vs G1 H1 _ R1 dv F1 h1 => ?_
    cases q2 : int1 ds with
    | none => rw [q2] at h1; exact h1.elim
    | some j =>
      rw [q2] at h1
      have e := int1_some q2
      subst e
      obtain ⟨v, rfl, dv1⟩ := dv.inv1
      obtain rfl : v = .int j := by cases dv1; rfl
      have h2 : RunI X.K X.mg W e1 σ G1 H1 (if I62 j then .ok (rngD 0 j) e1 else .stuck) R := h1
      by_cases c : I62 j
      · rw [if_pos c] at h2
        have w := walk_rng (K := X.K) (G := G1) 0 j
        rw [Int.sub_zero] at w
        exact ⟨j, rfl, c.1, c.2, h2 _ G1 H1 R1 w (Fr.refl _ _ _ _)⟩
      · rw [if_neg c] at h2
        exact h2.elim
theorem cl_compH {elt tg iter : Expr} {ifs : List Expr} {sc : Scope} {own : List (Str × Nat)} {di : DA} {g : DG} {ws : List Nat} {t : DT} {de : DE} (hot : Hot1 X.A p) (hpn : p ∈ X.pn) (hN : X.N.Nodup) (hi : CIH X W tg iter di) (ok : BlkOk X.N X.env.scope sc own)
    (hg : ∀ (s : Shared) (H : Hp) (C : Addr) (cl : List (Str × Addr)) (fp : List Addr), CG (hblk X p s H sc (compEnvC sc cl C X.env) fp) tg g ws)
    (ht : ∀ (s : Shared) (H : Hp) (C : Addr) (cl : List (Str × Addr)) (fp : List Addr), PTs (hblk X p s H sc (compEnvC sc cl C X.env) fp) ifs (rdT X.K X.mg WF t))
    (he : ∀ (s : Shared) (H : Hp) (C : Addr) (cl : List (Str × Addr)) (fp : List Addr), CE (hblk X p s H sc (compEnvC sc cl C X.env) fp) WF elt de)
    (hws : ∀ j ∈ ws, j ∈ own.map (·.2) := by decide) (hs : ∀ x, foldedSetIterable iter X.env x = pure x := by intro _; rfl) : CL X W (.ListComp elt [⟨tg, iter, ifs, 0⟩] sc pos) (lComp di g t de (own.map (·.2))) :=
  pe_imp (pe_lcH hot hpn hN hi ok hg ht he hs) fun σ H Q h => lc_ok hws σ H Q h
end
/-! ### the exceptions of the program -/
def kNames : List Str := ["Harm", "NoHalf", "NoMarks", "NoPlain", "NoRim", "NoRow", "NoSkin", "NoText", "NothingLeft", "TooMany", "Unfit", "Unlike"]
def mtC (n c : Str) : Bool := n == ("SkinError" : Str) || c == n
structure Kx (K : PySem.W.Frag) (mg : Str → Option Value) : Prop where
  g : ∀ c ∈ kNames, mg c = some (.ref (He.ga K c))
  gs : mg "SkinError" = some (.ref (He.ga K "SkinError"))
  i : ∀ c ∈ kNames, ExI K (He.ga K c)
  kk : ∀ c ∈ kNames, ∀ n ∈ kNames, PySem.W.kitOne K (.ref (He.ga K c)) (.ref (He.ga K n)) = some (c == n)
  kv : ∀ c ∈ kNames, PySem.W.kitOne K (.ref (He.ga K c)) (.type "ValueError") = some true
  xk : ∀ c ∈ kNames, ∀ n ∈ ("SkinError" : Str) :: kNames, PySem.W.exmOne K (.ref (He.ga K c)) (.ref (He.ga K n)) = some (mtC n c)
  xf : ∀ c ∈ kNames, XfC K (He.ga K c) ∧ PySem.W.findIn K (.ref (He.ga K c)) "word" = some none ∧ PySem.W.findIn K (.ref (He.ga K c)) "half" = some none
def kxB (K : PySem.W.Frag) : Bool := kNames.all fun c => exiB K (He.ga K c) && (kNames.all (fun n => decide (PySem.W.kitOne K (.ref (He.ga K c)) (.ref (He.ga K n)) = some (c == n))) && (decide (PySem.W.kitOne K (.ref (He.ga K c)) (.type "ValueError") = some true) &&
  ((("SkinError" : Str) :: kNames).all (fun n => decide (PySem.W.exmOne K (.ref (He.ga K c)) (.ref (He.ga K n)) = some (mtC n c))) && (xfB K (He.ga K c) && (decide (PySem.W.findIn K (.ref (He.ga K c)) "word" = some none) && decide (PySem.W.findIn K (.ref (He.ga K c)) "half" = some none))))))
theorem kxB_ok {K : PySem.W.Frag} {mg : Str → Option Value} (h : kxB K = true) (g : ∀ c ∈ kNames, mg c = some (.ref (He.ga K c))) (gs : mg "SkinError" = some (.ref (He.ga K "SkinError"))) : Kx K mg := by
  have h' := fun c hc => List.all_eq_true.mp h c hc
  simp only [Bool.and_eq_true, decide_eq_true_eq] at h'
  exact ⟨g, gs, fun c hc => exiB_ok (h' c hc).1, fun c hc n hn => by simpa using List.all_eq_true.mp (h' c hc).2.1 n hn, fun c hc => (h' c hc).2.2.1, fun c hc n hn => by simpa using List.all_eq_true.mp (h' c hc).2.2.2.1 n hn,
    fun c hc => ⟨xfB_ok (h' c hc).2.2.2.2.1, (h' c hc).2.2.2.2.2.1, (h' c hc).2.2.2.2.2.2⟩⟩
/-- isinstance(e, C): the answer is b -/
def eIsE (a : Addr) (d : Option Addr) (i : Nat) (b : Bool) : DE := fun env => match env[i]? with
  | some (.a a' d' _) => if a' = a ∧ d' = d then .ok (.bool b) env else .stuck
  | _ => .stuck
/-- e.n -/
def eFld (a : Addr) (d : Option Addr) (i : Nat) (n : Str) : DE := fun env => match env[i]? with
  | some (.a a' d' (some (m, x))) => if a' = a ∧ d' = d ∧ m = n then .ok x env else .stuck
  | _ => .stuck
/-- _law_kinds(e) -/
def eKinds (a : Addr) (d : Option Addr) (c : Str) (i : Nat) : DE := fun env => match env[i]? with
  | some (.a a' d' _) => if a' = a ∧ d' = d then .ok (.str (c ++ "+")) env else .stuck
  | _ => .stuck
theorem a_slot {K : PySem.W.Frag} {env : DEnv} {σ : L2.St} {G H : Hp} {i : Nat} {a : Addr} {d : Option Addr} {f : Option (Str × D)} (R : Rel K env σ G H) (h : env[i]? = some (.a a d f)) : σ[i]? = some (some (.ref a)) ∧ XD K G d f := by
  have li : i < σ.length := by rw [← R.len]; exact (List.getElem?_eq_some_iff.mp h).1
  have ho : σ[i]? = some σ[i] := List.getElem?_eq_getElem li
  have q := R.slot i _ _ h ho
  exact ⟨by rw [ho]; exact congrArg some q.1, q.2⟩
theorem xd_there {K : PySem.W.Frag} {G H : Hp} {d : Option Addr} {f : Option (Str × D)} (e : Ex G H) (h : XD K G d f) : ∀ dx, d = some dx → ∃ fs, H dx = some (.xd fs) := fun dx q => by
  cases f with
  | none => rw [show d = none from h] at q; cases q
  | some p =>
    obtain ⟨a, v, h1, h2, _⟩ := h
    rw [q] at h1
    cases h1
    exact ⟨_, e _ _ h2⟩
section
variable {X : Cx} {W : WX} {pos p1 p2 p3 : Pos} {a : Addr} {d : Option Addr} {oe : Obj} {c : Str} {i : Nat} {x n : Str}
theorem isE_core {cv : Value} {v2 : V} {b : Bool} {e2 : Expr} (T : Kx X.K X.mg) (hc : c ∈ kNames) (hp : (a, oe) ∈ X.pn) (hz : Zc (.ref (He.ga X.K c)) d oe) (hf : ∃ vs, oe.data = .fields vs) (he2 : PE X e2 (tC v2)) (hv2 : ∀ u, RelV v2 u → u = cv)
    (hk : PySem.W.kitOne X.K (.ref (He.ga X.K c)) cv = some b) (hm : X.mg "isinstance" = none) (hb : bootBuiltins "isinstance" = some (.builtin "isinstance")) (hg : Gl X "isinstance") (hN : X.N[i]? = some x)
    (hv : Vis X.env.scope x) (hd : (x == ("__debug__" : Str)) = false) (hcd : (x == ("__classdict__" : Str)) = false)
    (hs : starEach (.Name x p1 :: [e2]) X.env = (false, eval (.Name x p1) X.env) :: starEach [e2] X.env) (hs2 : starEach [e2] X.env = (false, eval e2 X.env) :: starEach [] X.env) (hpl : (backTo pos (starEach [e2] X.env)).any (·.1) = false) :
    CE X W (.Call (.Name "isinstance" p3) [.Name x p1, e2] [] pos) (eIsE a d i b) := pe_imp (pe_callB (cr_isX (T.i c hc) hp hz hf) hg hm hb (pa_cons (pe_var hN hv hd hcd) (pa_cons he2 pa_nil hs2) hs) (by decide) (by decide) hs hpl) fun σ H Q h => by
  obtain ⟨env, G, R, h⟩ := h
  unfold eIsE at h
  split at h
  · rename_i a' d' f' q
    split at h
    · rename_i z
      obtain ⟨rfl, rfl⟩ := z
      obtain ⟨s1, s2⟩ := a_slot R q
      exact ⟨_, s1, v2, cv, b, rfl, hv2, hk, xd_there R.ex s2, h (.bl b) G H R (.bl b) (Fr.refl _ _ _ _)⟩
    · exact h.elim
  · exact h.elim
/-- isinstance(e, C), C a class of the program's own -/
theorem ce_isK (n : Str) (T : Kx X.K X.mg) (hc : c ∈ kNames) (hn : n ∈ kNames) (hp : (a, oe) ∈ X.pn) (hz : Zc (.ref (He.ga X.K c)) d oe) (hf : ∃ vs, oe.data = .fields vs) (hm : X.mg "isinstance" = none) (hgn : Gl X n := by rfl) (hdn : (n == ("__debug__" : Str)) = false := by decide) (hb : bootBuiltins "isinstance" = some (.builtin "isinstance") := by decide +kernel) (hg : Gl X "isinstance" := by rfl) (hN : X.N[i]? = some x := by rfl)
    (hv : Vis X.env.scope x := by first | exact Or.inl rfl | exact Or.inr (Or.inl rfl) | exact Or.inr (Or.inr rfl)) (hd : (x == ("__debug__" : Str)) = false := by decide) (hcd : (x == ("__classdict__" : Str)) = false := by decide)
    (hs : starEach (.Name x p1 :: [.Name n p2]) X.env = (false, eval (.Name x p1) X.env) :: starEach [.Name n p2] X.env := by rfl) (hs2 : starEach [.Name n p2] X.env = (false, eval (.Name n p2) X.env) :: starEach [] X.env := by rfl) (hpl : (backTo pos (starEach [.Name n p2] X.env)).any (·.1) = false := by rfl) :
    CE X W (.Call (.Name "isinstance" p3) [.Name x p1, .Name n p2] [] pos) (eIsE a d i (c == n)) :=
  isE_core (v2 := .ref (He.ga X.K n)) T hc hp hz hf (pe_glob hgn (T.g n hn) rfl hdn) (fun _ h => h) (T.kk c hc n hn) hm hb hg hN hv hd hcd hs hs2 hpl
/-- isinstance(e, ValueError) -/
theorem ce_isV (T : Kx X.K X.mg) (hc : c ∈ kNames) (hp : (a, oe) ∈ X.pn) (hz : Zc (.ref (He.ga X.K c)) d oe) (hf : ∃ vs, oe.data = .fields vs) (hm : X.mg "isinstance" = none) (hmv : X.mg "ValueError" = none) (hgn : Gl X "ValueError" := by rfl) (hb : bootBuiltins "isinstance" = some (.builtin "isinstance") := by decide +kernel) (hg : Gl X "isinstance" := by rfl) (hN : X.N[i]? = some x := by rfl)
    (hv : Vis X.env.scope x := by first | exact Or.inl rfl | exact Or.inr (Or.inl rfl) | exact Or.inr (Or.inr rfl)) (hd : (x == ("__debug__" : Str)) = false := by decide) (hcd : (x == ("__classdict__" : Str)) = false := by decide)
    (hs : starEach (.Name x p1 :: [.Name "ValueError" p2]) X.env = (false, eval (.Name x p1) X.env) :: starEach [.Name "ValueError" p2] X.env := by rfl) (hs2 : starEach [.Name "ValueError" p2] X.env = (false, eval (.Name "ValueError" p2) X.env) :: starEach [] X.env := by rfl) (hpl : (backTo pos (starEach [.Name "ValueError" p2] X.env)).any (·.1) = false := by rfl) :
    CE X W (.Call (.Name "isinstance" p3) [.Name x p1, .Name "ValueError" p2] [] pos) (eIsE a d i true) :=
  isE_core (v2 := .ty "ValueError") T hc hp hz hf (pe_bltn hgn hmv PyProof.Rows.Boot.«ValueError» rfl (by decide) (by decide)) (fun _ h => h) (T.kv c hc) hm hb hg hN hv hd hcd hs hs2 hpl
end
end DL
/- part DL20 -/
set_option Elab.async false
set_option linter.all false
set_option maxRecDepth 100000
set_option autoImplicit false
set_option maxHeartbeats 4000000
/-! DL20: try, except .. as e: kind = _law_kinds(e) .. -/
namespace DL
open PySem L2 L2H HotX PySem.Spec PyProof.Rows
abbrev DfX := Addr → Option Addr → Str → Df
abbrev DsX := Addr → Option Addr → Str → DS
/-- the def that tells an exception's classes -/
structure CalK (P : Program) (w : World) (K : PySem.W.Frag) (mg : Str → Option Value) (base : Heap) (k : Nat) (x : Str) (F : DfX) : Prop where
  ex : ∃ (fd : FuncData) (ps : List Str), ps.length = 1 ∧ Binds K fd ps [] ∧ ∀ (a : Addr) (oe : Obj) (d : Option Addr) (c : Str), c ∈ kNames → Zc (.ref (He.ga K c)) d oe → (∃ vs, oe.data = .fields vs) →
    FnX P w K mg base k (He.ga K x) fd ps (a, oe) (spD K mg 1 (F a d c))
  mg_ : mg x = some (.ref (He.ga K x))
  kp : PySem.W.keepIn K (.ref (He.ga K x)) = true
section
variable {P : Program} {w : World} {K : PySem.W.Frag} {mg : Str → Option Value} {base : Heap}
theorem calK_of {x : Str} {st : Stmt} {N ps : List Str} {k : Nat} {ds : DsX} (D : ∃ fd, FnT K x st fd) (g : mg x = some (.ref (He.ga K x))) (S : FnScope N ps (defScope st)) (h1 : ps.length = 1) (hps : ps.length ≤ N.length)
    (hb : ∀ (kV doc pm : Value) (an : Option Addr) (cdv ct : Value) (us : List Value), us.length = ps.length → bindArgs (PySem.W.fnOf x x (defArgs st) (defBody st) (defScope st) .none kV doc pm an cdv ct) ⟨us, []⟩ = pure (ps.zip us))
    (hbody : ∀ (cdv : Value) (A : Around) (outer : List Env) (s : Shared) (H : Hp) (a : Addr) (oe : Obj) (d : Option Addr) (c : Str), c ∈ kNames → Zc (.ref (He.ga K c)) d oe → (∃ vs, oe.data = .fields vs) → Hot1 A (a, oe) → RoomH k (A.deeper (PyProof.Rows.envOfC x (defScope st) s.heap.objs.size (He.ga K x) cdv)) →
      CSs (cxX P w K mg base N x (defScope st) (He.ga K x) cdv A outer s H (a, oe)) (fun _ _ _ _ => False) (defBody st) (ds a d c)) :
    CalK P w K mg base (k + 1) x fun a d c => bodyF N.length (ds a d c) := by
  obtain ⟨fd, F⟩ := D
  refine ⟨⟨fd, ps, h1, F.bindsN hb, fun a oe d c hc hz hf => ?_⟩, g, F.kp⟩
  obtain ⟨oc, od, dV, kV, doc, pm, an, cdv, ct, osl, rfl, lk, hcd, _, _⟩ := F.ex
  refine fnX_of lk hcd S (fun vs H Q E h => by rw [h1]; exact h.1) fun A outer s H vs Q hot hr h => ⟨_, hbody cdv A outer s H a oe d c hc hz hf hot hr, ?_⟩
  obtain ⟨hl, args, G, R, h⟩ := h
  have hn : vs.length ≤ N.length := by omega
  refine ⟨_, G, rel_start (N := N) R hn, ?_⟩
  unfold bodyF at h
  cases q : ds a d c (args ++ List.replicate (N.length - args.length) Sl.no) with
  | nx e =>
    rw [q] at h
    exact fun σ' G' H' R' F' => let ⟨a, b, _⟩ := ends_fr R hn R' F'; h .non G' H' a .non b
  | rt d e =>
    rw [q] at h
    exact fun v σ' G' H' R' dv F' => let ⟨a, b, _⟩ := ends_fr R hn R' F'; h v G' H' a dv b
  | rl d e =>
    rw [q] at h
    exact fun a vs' σ' G' H' R' h1 h2 h3 h4 dv F' => let ⟨r, b, c⟩ := ends_fr R hn R' F'; h a vs' G' H' r h1 h2 h3 (fun z => h4 (c a z)) dv b
  | ex x e =>
    rw [q] at h
    exact fun cls dd σ' G' H' xr R' F' => let ⟨a, b, _⟩ := ends_fr R hn R' F'; h cls dd G' H' xr a b
  | bk e => rw [q] at h; exact h.elim
  | ct e => rw [q] at h; exact h.elim
  | stuck => rw [q] at h; exact h.elim
end
/-- its function on data tells the class's word -/
def KindsF (F : DfX) : Prop := ∀ (a : Addr) (d : Option Addr) (f : Option (Str × D)) (c : Str), c ∈ kNames → F a d c [.a a d f] = .ok (.str (c ++ "+")) [.no]
theorem hot_suite {X : Cx} {a : Addr} {oe : Obj} {pn : List (Addr × Obj)} {cls : Value} {d : Option Addr} (hz : L2N.Zn cls d oe) (hf : ∃ vs, oe.data = .fields vs) : Hot1 (X.suite a ((a, oe) :: pn)).A (a, oe) :=
  let ⟨vs, e⟩ := hf
  ⟨rfl, vs, e, hz.2.2 vs e⟩
section
variable {X : Cx} {W : WX} {pos p1 p2 : Pos} {a : Addr} {d : Option Addr} {oe : Obj} {c : Str} {i k j : Nat} {x e : Str} {pn : List (Addr × Obj)} {F : DfX}
/-- _law_kinds(e) in the suite -/
theorem ce_kinds (C : CalK X.prog X.w X.K X.mg X.base j x F) (hF : KindsF F) (hc : c ∈ kNames) (hz : L2N.Zn (.ref (He.ga X.K c)) d oe) (hf : ∃ vs, oe.data = .fields vs) (hr : Room k X.A) (hjk : j ≤ k) (hg : Gl X x := by rfl) (hN : X.N[i]? = some e := by rfl)
    (hv : Vis X.env.scope e := by first | exact Or.inl rfl | exact Or.inr (Or.inl rfl) | exact Or.inr (Or.inr rfl)) (hd : (e == ("__debug__" : Str)) = false := by decide) (hcd : (e == ("__classdict__" : Str)) = false := by decide) (hdb : (x == ("__debug__" : Str)) = false := by decide)
    (hs : starEach [.Name e p1] X.env = (false, eval (.Name e p1) X.env) :: starEach [] X.env := by rfl) (hpl : (backTo pos (starEach [] X.env)).any (·.1) = false := by rfl) :
    CE (X.suite a ((a, oe) :: pn)) W (.Call (.Name x p2) [.Name e p1] [] pos) (eKinds a d c i) := by
  obtain ⟨fd, ps, h1, hb, Fn⟩ := C.ex
  have hr2 : RoomH j (X.suite a ((a, oe) :: pn)).A := ⟨(hr.mono hjk).dp, (hr.mono hjk).un⟩
  refine pe_imp (pe_callX (X := X.suite a ((a, oe) :: pn)) (Fn a oe d c hc hz.zc hf) hr2 (hot_suite hz hf) (List.mem_cons_self) hg C.mg_ C.kp hb (pa_cons (pe_var (i := i) hN hv hd hcd) pa_nil hs) hdb hs hpl) fun σ H Q h => ?_
  obtain ⟨env, G, R, h⟩ := h
  unfold eKinds at h
  split at h
  · rename_i a' d' f q
    split at h
    · rename_i z
      obtain ⟨rfl, rfl⟩ := z
      obtain ⟨s1, s2⟩ := a_slot R q
      refine ⟨_, s1, rfl, [.a a' d' f], G, ⟨R.ex, rfl, fun m s o e1 e2 => ?_, fun m1 m2 b ⟨⟨s, e1, e2⟩, _⟩ => ?_⟩, ?_⟩
      · match m, e1, e2 with
        | 0, e1, e2 => cases e1; cases e2; exact ⟨rfl, s2⟩
      · match m1, e1 with
        | 0, e1 => cases e1; cases e2
      · show RunF X.K X.mg _ _ G H (F a' d' c [.a a' d' f]) Q _
        rw [hF a' d' f c hc]
        intro v G' H' R' dv F'
        have g : Grow G H G' H' := ⟨F'.gg, fun b o hb => F'.keep b o hb (fun ⟨m, ⟨s, e1, e2⟩, _⟩ => by
          match m, e1 with
          | 0, e1 => cases e1; cases e2), R'.ex, fun b hb => by
            rcases F'.fresh b hb with z | z | ⟨m, ⟨s, e1, e2⟩, _⟩
            · exact .inl z
            · exact .inr z
            · match m, e1 with
              | 0, e1 => cases e1; cases e2⟩
        exact h v G' H' (R.grow g) dv (g.fr env σ)
    · exact h.elim
  · exact h.elim
/-- e.n in the suite -/
theorem ce_fld {n : Str} (T : Kx X.K X.mg) (hc : c ∈ kNames) (hno : PySem.W.findIn X.K (.ref (He.ga X.K c)) n = some none) (hz : L2N.Zn (.ref (He.ga X.K c)) d oe) (hf : ∃ vs, oe.data = .fields vs) (hN : X.N[i]? = some e := by rfl)
    (hv : Vis X.env.scope e := by first | exact Or.inl rfl | exact Or.inr (Or.inl rfl) | exact Or.inr (Or.inr rfl)) (hd : (e == ("__debug__" : Str)) = false := by decide) (hcd : (e == ("__classdict__" : Str)) = false := by decide)
    (hb : attributeBase (.Name e p1) n X.env (eval (.Name e p1) X.env) = eval (.Name e p1) X.env := by rfl) : CE (X.suite a ((a, oe) :: pn)) W (.Attribute (.Name e p1) n pos) (eFld a d i n) := by
  refine pe_imp (pe_xf (T.xf c hc).1 hno hz.zc hf (pe_var (X := X.suite a ((a, oe) :: pn)) (i := i) hN hv hd hcd) hb) fun σ H Q h => ?_
  obtain ⟨env, G, R, h⟩ := h
  unfold eFld at h
  split at h
  · rename_i a' d' m y q
    split at h
    · rename_i z
      obtain ⟨rfl, rfl, rfl⟩ := z
      obtain ⟨s1, dx, v, e1, e2, dv⟩ := a_slot R q
      exact ⟨_, s1, rfl, rfl, dx, _, v, e1, R.ex _ _ e2, by simp, h v G H R dv (Fr.refl _ _ _ _)⟩
    · exact h.elim
  · exact h.elim
end
/-! ### the statement -/
/-- a clause's text: the class's word, and the field's behind it -/
def kindD (x : Xc) : Option Str → Option D
  | none => some (.str (x.c ++ "+"))
  | some w => match x.f with
    | some (n, y) => if n = w then dAdd (.str (x.c ++ "+")) y else none
    | none => none
/-- what a clause assigns -/
def eHd (a : Addr) (d : Option Addr) (c : Str) (i : Nat) : Option Str → DE
  | none => eKinds a d c i
  | some w => eBin dAdd (eKinds a d c i) (eFld a d i w)
def tryH (iE iK : Nat) (x : Xc) : List (Str × Option Str) → DS
  | [] => fun e => .ex x e
  | (n, w) :: r => fun e => if mtC n x.c = true then (match setV iE .no e with
    | some e1 => match kindD x w with
      | some y => match setV iK (.v y) e1 with
        | some e2 => .nx e2
        | none => .stuck
      | none => .stuck
    | none => .stuck) else tryH iE iK x r e
def sTryK (ds : DS) (iE iK : Nat) (l : List (Str × Option Str)) : DS := fun env => match ds env with
  | .ex x e => if x.c ∈ kNames then tryH iE iK x l e else .stuck
  | r => r
inductive HsD (X : Cx) (nE : Str) (iE iK : Nat) : List ExceptHandler → List (Str × Option Str) → Prop
  | nil : HsD X nE iE iK [] []
  | cons {n : Str} {w : Option Str} {b₀ : Stmt} {su : List Stmt} {np pos' : Pos} {hds : List ExceptHandler} {l : List (Str × Option Str)} (hn : n ∈ ("SkinError" : Str) :: kNames) (hg : Gl X n) (hdb : (n == ("__debug__" : Str)) = false)
      (hsu : ∀ (c : Str), c ∈ kNames → mtC n c = true → ∀ (a : Addr) (oe : Obj) (d : Option Addr) (pn : List (Addr × Obj)), L2N.Zn (.ref (He.ga X.K c)) d oe → (∃ vs, oe.data = .fields vs) →
        CSs (X.suite a ((a, oe) :: pn)) WF (b₀ :: su) (sAsg (eHd a d c iE w) (gN iK))) (r : HsD X nE iE iK hds l) :
      HsD X nE iE iK (.ExceptHandler (some (.Name n np)) (some nE) (b₀ :: su) pos' :: hds) ((n, w) :: l)
section
variable {K : PySem.W.Frag} {env : DEnv} {σ : L2.St} {G H : Hp}
theorem own_set_no {i : Nat} {o : Option V} {a : Addr} {j : Nat} (h : OwnAt (env.set i .no) (σ.set i o) j a) : OwnAt env σ j a := by
  obtain ⟨⟨s, e1, e2⟩, e3⟩ := h
  by_cases z : i = j
  · subst z
    by_cases l : i < env.length
    · rw [List.getElem?_set_self l] at e1
      cases e1
      cases e2
    · rw [List.getElem?_eq_none (by simpa using l)] at e1
      cases e1
  · rw [List.getElem?_set_ne z] at e1 e3
    exact ⟨⟨s, e1, e2⟩, e3⟩
theorem Rel.lose (R : Rel K env σ G H) (i : Nat) : Rel K (env.set i .no) (σ.set i none) G H := by
  refine ⟨R.ex, by rw [List.length_set, List.length_set]; exact R.len, fun j s o e1 e2 => ?_, fun j k a x y => R.dist j k a (own_set_no x) (own_set_no y)⟩
  by_cases z : i = j
  · subst z
    by_cases l : i < env.length
    · rw [List.getElem?_set_self l] at e1
      cases e1
      trivial
    · rw [List.getElem?_eq_none (by simpa using l)] at e1
      cases e1
  · rw [List.getElem?_set_ne z] at e1 e2
    exact R.slot j s o e1 e2
theorem Fr.lose (env : DEnv) (σ : L2.St) (G H : Hp) (i : Nat) : Fr env σ G H (env.set i .no) (σ.set i none) G H := by
  refine ⟨Ex.refl _, fun _ _ h _ => h, fun _ h => h, fun _ h => .inl h, fun a ⟨j, h⟩ => .inl ⟨j, own_set_no h⟩, fun j xs e => ?_⟩
  by_cases z : i = j
  · subst z
    by_cases l : i < env.length
    · rw [List.getElem?_set_self l] at e
      cases e
    · rw [List.getElem?_eq_none (by simpa using l)] at e
      cases e
  · rw [List.getElem?_set_ne z] at e
    exact ⟨List.getElem?_set_ne z, xs, e⟩
theorem set_around {α : Type} (l : List α) {i j : Nat} (a b c : α) (h : i ≠ j) : ((l.set i a).set j b).set i c = (l.set i c).set j b := by
  rw [List.set_comm _ _ (Ne.symm h), List.set_set]
theorem setV_no {i : Nat} {e e1 : DEnv} (h : setV i .no e = some e1) (s : Sl) : setV i s e = some (e.set i s) ∧ e1 = e.set i .no ∧ ∃ s0, e[i]? = some s0 ∧ ∀ xs, s0 ≠ .p xs := by
  obtain ⟨s0, a1, a2, rfl⟩ := setV_some h
  refine ⟨?_, rfl, s0, a1, a2⟩
  unfold setV
  rw [a1]
  cases s0 with
  | p xs => exact (a2 xs rfl).elim
  | _ => rfl
end
section
variable {X : Cx} {W : WX} {pos : Pos} {body : List Stmt} {hd0 : ExceptHandler} {hds : List ExceptHandler} {l : List (Str × Option Str)} {nE : Str} {iE iK : Nat} {db : DS}
def tsOf (K : PySem.W.Frag) (mg : Str → Option Value) (iE iK : Nat) (n : Str) (w : Option Str) : Addr → Value → Option Addr → TS := fun a cls d D σ H => ∃ c, c ∈ kNames ∧ mtC n c = true ∧ cls = .ref (He.ga K c) ∧ rdS K mg WF (sAsg (eHd a d c iE w) (gN iK)) D σ H
def hdOf (K : PySem.W.Frag) (mg : Str → Option Value) (iE iK : Nat) (p : Str × Option Str) : Hd := (.ref (He.ga K p.1), tsOf K mg iE iK p.1 p.2)
theorem glo_any (T : Kx X.K X.mg) {n : Str} (h : n ∈ ("SkinError" : Str) :: kNames) : X.mg n = some (.ref (He.ga X.K n)) := by
  rcases List.mem_cons.mp h with e | h
  · subst e; exact T.gs
  · exact T.g n h
theorem HsD.as (T : Kx X.K X.mg) : ∀ {hds : List ExceptHandler} {l : List (Str × Option Str)}, HsD X nE iE iK hds l → HdsAs X nE hds (l.map (hdOf X.K X.mg iE iK))
  | _, _, .nil => .nil
  | _, _, .cons hn hg hdb hsu r => .cons ⟨hg, hdb, .inl (glo_any T hn)⟩ (fun a oe cls d pn hz hf => ⟨fun pins s σ H D I h => by
      obtain ⟨c, hc, hm, rfl, h⟩ := h
      exact (hsu c hc hm a oe d pn hz hf).run pins s σ H D I h⟩) (r.as T)
theorem HsD.names : ∀ {hds : List ExceptHandler} {l : List (Str × Option Str)}, HsD X nE iE iK hds l → ∀ p ∈ l, p.1 ∈ ("SkinError" : Str) :: kNames
  | _, _, .nil, _, h => by cases h
  | _, _, .cons hn _ _ _ r, p, h => by
    rcases List.mem_cons.mp h with e | h
    · subst e; exact hn
    · exact r.names p h
/-- what a clause assigns, where it stands -/
theorem hd_runs {a : Addr} {d : Option Addr} {x : Xc} {w : Option Str} {y : D} {e : DEnv} (h : kindD x w = some y) (l : iE < e.length) : eHd a d x.c iE w (e.set iE (.a a d x.f)) = .ok y (e.set iE (.a a d x.f)) := by
  have q : (e.set iE (.a a d x.f))[iE]? = some (.a a d x.f) := List.getElem?_set_self l
  have k : eKinds a d x.c iE (e.set iE (.a a d x.f)) = .ok (.str (x.c ++ "+")) (e.set iE (.a a d x.f)) := by
    unfold eKinds
    rw [q]
    simp
  cases w with
  | none =>
    cases h
    exact k
  | some w =>
    unfold kindD at h
    cases qf : x.f with
    | none => rw [qf] at h; cases h
    | some p =>
      obtain ⟨n, z⟩ := p
      rw [qf] at h q k
      by_cases c : n = w
      · simp only [if_pos c] at h
        show (eKinds a d x.c iE _).bind _ = _
        rw [k]
        show (eFld a d iE w _).bind _ = _
        have f : eFld a d iE w (e.set iE (.a a d (some (n, z)))) = .ok z (e.set iE (.a a d (some (n, z)))) := by
          unfold eFld
          rw [q]
          simp [c]
        rw [f]
        show put (dAdd _ _) _ = _
        rw [h]
        rfl
      · simp only [if_neg c] at h
        cases h
theorem cs_tryK (T : Kx X.K X.mg) (tk : L2N.Takes X W) (nd : X.N.Nodup) (hb : ∀ (W' : WX) (pn : List (Addr × Obj)) (xe : Value → Shared → Prop), L2N.Takes (X.tr pn xe) W' → PassesOwn (model X.prog X.w) X.A X.env xe → CSs (X.tr pn xe) W' body db)
    (hh : HsD X nE iE iK (hd0 :: hds) l) (hne : iE ≠ iK := by decide) (hs : X.stack = X.env :: X.outer := by rfl) (hf : X.env.frame = some X.env.locals := by rfl) (hi : X.N[iE]? = some nE := by rfl) (hln : X.env.kindOf nE = some .local := by rfl) :
    CS X W (.Try body (hd0 :: hds) [] [] pos) (sTryK db iE iK l) := ps_imp (ps_tryAs (i := iE) (tb := fun W1 => rdS X.K X.mg W1 db) hs hf nd hi hln tk hb (hh.as T)) fun E σ H h => by
  obtain ⟨env, G, R, h⟩ := h
  refine ⟨env, G, R, ?_⟩
  unfold sTryK at h
  cases q : db env with
  | nx e => rw [q] at h; exact h
  | bk e => rw [q] at h; exact h
  | ct e => rw [q] at h; exact h
  | rt d e => rw [q] at h; exact h
  | rl d e => rw [q] at h; exact h
  | stuck => rw [q] at h; exact h
  | ex x e =>
    rw [q] at h
    intro cls dd σ' G' H' xr R' F'
    obtain ⟨hc, xf⟩ := xr
    by_cases hk : x.c ∈ kNames
    · have h : RunS X.K X.mg W env σ G H (tryH iE iK x l e) E := by
        simp only [if_pos hk] at h
        exact h
      rw [T.g x.c hk] at hc
      cases hc
      have nm := hh.names
      rename_i hold
      clear hh q hold
      induction l with
      | nil => exact h _ dd σ' G' H' ⟨T.g x.c hk, xf⟩ R' F'
      | cons p r ih =>
        obtain ⟨n, w⟩ := p
        refine ⟨mtC n x.c, T.xk x.c hk n (nm _ List.mem_cons_self), fun hm a ha => ?_, fun hm => ?_⟩
        · have h : RunS X.K X.mg W env σ G H (match setV iE .no e with
              | some e1 => match kindD x w with
                | some y => match setV iK (.v y) e1 with
                  | some e2 => .nx e2
                  | none => .stuck
                | none => .stuck
              | none => .stuck) E := by
            have z := h
            unfold tryH at z
            rw [if_pos hm] at z
            exact z
          cases q1 : setV iE .no e with
          | none => rw [q1] at h; exact h.elim
          | some e1 =>
            rw [q1] at h
            obtain ⟨b1, b2, s0, b3, b4⟩ := setV_no q1 (.a a dd x.f)
            subst b2
            cases q2 : kindD x w with
            | none => simp only [q2] at h; exact h.elim
            | some y =>
              simp only [q2] at h
              cases q3 : setV iK (.v y) (e.set iE .no) with
              | none => rw [q3] at h; exact h.elim
              | some e2 =>
                rw [q3] at h
                obtain ⟨s1, c1, c2, rfl⟩ := setV_some q3
                have li : iE < e.length := (List.getElem?_eq_some_iff.mp b3).1
                have c1' : (e.set iE (.a a dd x.f))[iK]? = some s1 := by
                  rw [List.getElem?_set_ne hne] at c1 ⊢
                  exact c1
                have R1 : Rel X.K (e.set iE (.a a dd x.f)) (σ'.set iE (some (.ref a))) G' H' := R'.set b3 b4 ⟨rfl, xf⟩ (fun _ z => nomatch z) fun z => nomatch z
                have F1 := Fr.set (s := .a a dd x.f) (v := .ref a) R' b3 b4 (fun _ z => nomatch z) rfl
                refine ⟨x.c, hk, hm, rfl, _, G', R1, ?_⟩
                show RunS X.K X.mg WF _ _ G' H' ((eHd a dd x.c iE w (e.set iE (.a a dd x.f))).fl fun d e1 => match gN iK d e1 with
                  | some e2 => .nx e2
                  | none => .stuck) _
                rw [hd_runs q2 li, fl_ok]
                have g : gN iK y (e.set iE (.a a dd x.f)) = some ((e.set iE (.a a dd x.f)).set iK (.v y)) := by
                  show setV iK (.v y) _ = _
                  unfold setV
                  rw [c1']
                  cases s1 with
                  | p xs => exact (c2 xs rfl).elim
                  | _ => rfl
                rw [g]
                intro σ2 G2 H2 R2 F2
                have R3 := R2.lose iE
                have F3 := Fr.lose ((e.set iE (.a a dd x.f)).set iK (.v y)) σ2 G2 H2 iE
                rw [set_around e _ _ _ hne] at R3 F3
                exact h _ G2 H2 R3 (F'.trans (F1.trans (F2.trans F3)))
        · refine ih (by
            have z := h
            unfold tryH at z
            rw [if_neg (by rw [hm]; exact Bool.false_ne_true)] at z
            exact z) fun p hp => nm p (List.mem_cons_of_mem _ hp)
    · simp only [if_neg hk] at h
      exact h.elim
end
end DL
/- part LW -/
set_option Elab.async false
set_option linter.all false
set_option maxRecDepth 100000
set_option maxHeartbeats 4000000
namespace LW
open PySem L2 DL
noncomputable section
def c_TWOS : List Str := ["cut", "part", "sew"]
def c_ONES : List Str := ["split", "merge", "join", "turn", "unturn", "fold", "puff", "draw", "grow", "cap", "open", "rip"]
def c_LONE : List Str := ["undo", "redo", "skin", "marks", "deeds", "counts", "news"]
def c_WALKS : List Str := ["patch", "knot", "rim"]
def b_is_whole : DS :=
    (sRet ((eAnd ((eIsi "int" (eVar 0))) ((eNot ((eIsi "bool" (eVar 0))))))))
def f_is_whole : Df := bodyF 1 b_is_whole
def b_broken : DS :=
    (sSeq (sAsg ((eCB fLen (aCons (eVar 0) aNil))) (gN 2))
    (sSeq (sAsgM 3 lDict0)
    (sSeq (sFor (iRng1 (aCons (eVar 2) aNil)) (gN 4) (sSeq (sAsg ((eIxN 0 (eVar 4))) (gN 5))
    (sSeq (sIf ((tOrD ((tTst (eBin dLt (eVar 5) (eC (.int 0))))) ((tOrD ((tTst (eBin dGe (eVar 5) (eVar 2)))) ((tTst (eInM (eVar 5) 3))))))) (sRet (eVar 4)) sNx)
    (sSeq (sPutM 3 (eVar 5) (eC (.bool true)))
    (sSeq (sAsg ((eIxN 1 (eVar 4))) (gN 6))
    (sIf ((tAndD ((tTst (eBin dIsnt (eVar 6) (eC .none)))) ((tOrD ((tTst (eBin dLt (eVar 6) (eC (.int 0))))) ((tOrD ((tTst (eBin dGe (eVar 6) (eVar 2)))) ((tOrD ((tTst (eBin dEq (eVar 6) (eVar 4)))) ((tTst (eBin dNe ((eIxN 1 (eVar 6))) (eVar 4)))))))))))) (sRet (eVar 4)) sNx))))))
    (sRet (eC .none)))))
def f_broken : Df := bodyF 7 b_broken
def b_is_skin : DS :=
    (sSeq (sIf ((tOrD ((tNotD ((tTst (eIsi "tuple" (eVar 0)))))) ((tTst (eBin dNe ((eCB fLen (aCons (eVar 0) aNil))) (eC (.int 2))))))) (sRet (eC (.bool false))) sNx)
    (sSeq (sAsg (eVar 0) (gT [gN 1, gN 2]))
    (sSeq (sIf ((tOrD ((tNotD ((tTst (eIsi "tuple" (eVar 1)))))) ((tNotD ((tTst (eIsi "tuple" (eVar 2)))))))) (sRet (eC (.bool false))) sNx)
    (sSeq (sIf ((tOrD ((tTst (eBin dLt ((eCB fLen (aCons (eVar 1) aNil))) (eC (.int 1))))) ((tOrD ((tTst (eBin dGt ((eCB fLen (aCons (eVar 1) aNil))) (eC (.int 400))))) ((tTst (eBin dNe ((eCB fLen (aCons (eVar 2) aNil))) ((eCB fLen (aCons (eVar 1) aNil)))))))))) (sRet (eC (.bool false))) sNx)
    (sSeq (sIf ((tNotD ((tTst (eCB fAll (aCons ((eLst ((lComp (iSeq (eVar 1)) (gN 3) tYesD ((eCallN 1 f_is_whole (rCons (eVar 3) rNil))) [3])))) aNil)))))) (sRet (eC (.bool false))) sNx)
    (sSeq (sIf ((tNotD ((tTst (eCB fAll (aCons ((eLst ((lComp (iSeq (eVar 2)) (gN 4) tYesD ((eOr ((eBin dIs (eVar 4) (eC .none))) ((eCallN 1 f_is_whole (rCons (eVar 4) rNil))))) [4])))) aNil)))))) (sRet (eC (.bool false))) sNx)
    (sRet ((eBin dIs ((eCallN 2 f_broken (rCons (eVar 1) (rCons (eVar 2) rNil)))) (eC .none))))))))))
def f_is_skin : Df := bodyF 5 b_is_skin
def b__law_take : DS :=
    (sSeq (sIf ((tTst (eBin dGt ((eIxN 0 (eC (.int 0)))) (eC (.int 0))))) (sSeq (sAsg ((eBin dMod ((eIxN 0 (eC (.int 0)))) (eVar 1))) (gN 2))
    (sSeq (sSetO 0 (eC (.int 0)) ((eBin dFdiv ((eIxN 0 (eC (.int 0)))) (eVar 1))))
    (sRet (eVar 2)))) sNx)
    (sSeq (sSetO 0 (eC (.int 1)) ((eBin dMod ((eBin dMul ((eIxN 0 (eC (.int 1)))) (eC (.int 48271)))) (eC (.int 2147483647)))))
    (sRet ((eBin dMod ((eBin dFdiv ((eBin dMod ((eBin dMul ((eIxN 0 (eC (.int 1)))) ((eIxN 0 (eC (.int 1)))))) (eC (.int 2147483629)))) (eC (.int 64)))) (eVar 1))))))
def f__law_take : Df := bodyF 3 b__law_take
def b__law_odd : DS :=
    (sSeq (sAsg ((eLst ((lLst (aCons (eC (.int (-1))) (aCons (eC (.int 0)) (aCons (eC (.int 1)) (aCons (eC (.int 2)) (aCons (eC (.int 400)) (aCons (eC (.int 401)) (aCons (eC (.bool true)) (aCons (eC (.bool false)) (aCons (eC .none) (aCons (eC (.str "")) (aCons (eC (.str "0")) (aCons ((eTup (aNil))) (aCons ((eTup ((aCons (eC (.int 0)) aNil)))) (aCons ((eTup ((aCons (eC .none) aNil)))) (aCons ((eTup ((aCons ((eTup ((aCons (eC (.int 0)) aNil)))) (aCons ((eTup ((aCons (eC .none) aNil)))) aNil))))) (aCons ((eTup ((aCons ((eTup ((aCons (eC (.int 0)) aNil)))) (aCons ((eTup ((aCons (eC (.int 0)) aNil)))) aNil))))) (aCons ((eLst ((lLst (aCons (eC (.int 0)) aNil))))) aNil))))))))))))))))))))) (gN 1))
    (sSeq (sAsg ((eLst ((eBinL dCat (eVar 1) ((eLst ((lLst (aCons ((eTup ((aCons ((eTup (aNil))) (aCons ((eTup (aNil))) aNil))))) (aCons ((eTup ((aCons ((eLst ((lLst (aCons (eC (.int 0)) aNil))))) (aCons ((eTup ((aCons (eC .none) aNil)))) aNil))))) (aCons ((eTup ((aCons ((eTup ((aCons (eC (.int 0)) aNil)))) (aCons ((eLst ((lLst (aCons (eC .none) aNil))))) aNil))))) (aCons ((eTup ((aCons ((eTup ((aCons (eC (.int 0)) (aCons (eC (.int 1)) aNil))))) (aCons ((eTup ((aCons (eC (.int 1)) (aCons (eC (.int 0)) aNil))))) aNil))))) (aCons ((eTup ((aCons ((eTup ((aCons (eC (.int 1)) (aCons (eC (.int 0)) aNil))))) (aCons ((eTup ((aCons (eC (.int 1)) (aCons (eC (.int 0)) aNil))))) aNil))))) (aCons ((eTup ((aCons ((eTup ((aCons (eC (.int 0)) (aCons (eC (.int 1)) aNil))))) (aCons ((eTup ((aCons (eC (.int 1)) aNil)))) aNil))))) aNil)))))))))))))) (gN 1))
    (sRet ((eIxN 1 ((eCallN 2 f__law_take (rLendC 0 (rCons ((eCB fLen (aCons (eVar 1) aNil))) rNil)))))))))
def f__law_odd : Df := bodyF 2 b__law_odd
def b__law_bag : DS :=
    (sSeq (sAsg (eC (.int 0)) (gN 2))
    (sSeq (sIf ((tTst (eBin dLt (eVar 1) ((eCB fLen (aCons (eVar 0) aNil)))))) (sAsg ((eBin dMod ((eIxN 0 (eVar 1))) ((eBin dMul ((eBin dPow (eC (.int 10)) (eC (.int 60)))) ((eBin dPow (eC (.int 10)) (eC (.int 60)))))))) (gN 2)) sNx)
    (sSeq (sIf ((tTst (eBin dLt (eVar 2) ((eBin dPow (eC (.int 10)) (eC (.int 18))))))) (sRetL (lLst (aCons (eC (.int 0)) (aCons ((eBin dAdd (eC (.int 1)) ((eBin dMod ((eBin dAdd ((eBin dMul (eVar 2) (eC (.int 7919)))) ((eBin dMul (eC (.int 104729)) (eVar 1))))) (eC (.int 2147483646)))))) aNil)))) sNx)
    (sRetL (lLst (aCons (eVar 2) (aCons ((eBin dAdd (eC (.int 1)) ((eBin dMod ((eBin dAdd (eVar 2) (eVar 1))) (eC (.int 2147483646)))))) aNil)))))))
def f__law_bag : Df := bodyF 3 b__law_bag
def b__law_skin : DS :=
    (sSeq (sAsg ((eBin dAdd (eC (.int 1)) ((eCallN 2 f__law_take (rLendC 0 (rCons (eVar 1) rNil)))))) (gN 2))
    (sSeq (sAsgL 3 (lLst aNil))
    (sSeq (sFor (iRng1 (aCons (eVar 2) aNil)) (gN 4) (sDrop ((eMO 3 mInsert (aCons ((eCallN 2 f__law_take (rLendC 0 (rCons ((eBin dAdd (eVar 4) (eC (.int 1)))) rNil)))) (aCons (eVar 4) aNil))))))
    (sSeq (sAsgL 5 (lRep (lLst (aCons (eC (.int 0)) aNil)) (eVar 2)))
    (sSeq (sAsg ((eBin dIx ((eLst ((lLst (aCons ((eBin dAdd (eC (.int 1)) ((eCallN 2 f__law_take (rLendC 0 (rCons (eC (.int 6)) rNil)))))) (aCons (eC (.int 3)) (aCons (eVar 2) aNil))))))) ((eCallN 2 f__law_take (rLendC 0 (rCons (eC (.int 3)) rNil)))))) (gN 6))
    (sSeq (sAsg ((eLst ((lListO 3)))) (gN 7))
    (sSeq (whileD ((tTst (eBin dNe (eVar 7) ((eLst ((lLst aNil))))))) (sSeq (sAsg ((eCB fMin (aCons ((eCB fLen (aCons (eVar 7) aNil))) (aCons ((eBin dIx ((eLst ((lLst (aCons (eVar 6) (aCons ((eBin dAdd (eC (.int 1)) ((eCallN 2 f__law_take (rLendC 0 (rCons (eVar 6) rNil)))))) aNil)))))) ((eCallN 2 f__law_take (rLendC 0 (rCons (eC (.int 2)) rNil)))))) aNil)))) (gN 8))
    (sSeq (sAsg ((eSl (eVar 7) .no (.of (eVar 8)))) (gN 9))
    (sSeq (sAsg ((eSl (eVar 7) (.of (eVar 8)) .no)) (gN 7))
    (sFor (iRng1 (aCons (eVar 8) aNil)) (gN 10) (sSetO 5 ((eIxN 9 ((eBin dSub (eVar 10) (eC (.int 1)))))) ((eIxN 9 (eVar 10)))))))) FUEL)
    (sSeq (sAsgL 11 (lRep (lLst (aCons (eC .none) aNil)) (eVar 2)))
    (sSeq (sAsg ((eBin dIx ((eLst ((lLst (aCons (eC (.int 2)) (aCons (eC (.int 5)) (aCons (eC (.int 99)) aNil))))))) ((eCallN 2 f__law_take (rLendC 0 (rCons (eC (.int 3)) rNil)))))) (gN 12))
    (sSeq (sAsgL 13 (lRange1 (eVar 2)))
    (sSeq (whileD ((tTst (eBin dGt ((eLenO 13)) (eC (.int 1))))) (sSeq (sAsg ((eMO 13 mPopAt (aCons ((eCallN 2 f__law_take (rLendC 0 (rCons ((eLenO 13)) rNil)))) aNil))) (gN 14))
    (sSeq (sAsg ((eMO 13 mPopAt (aCons ((eCallN 2 f__law_take (rLendC 0 (rCons ((eLenO 13)) rNil)))) aNil))) (gN 15))
    (sIf ((tTst (eBin dGt ((eCallN 2 f__law_take (rLendC 0 (rCons (eVar 12) rNil)))) (eC (.int 0))))) (sSeq (sSetO 11 (eVar 14) (eVar 15))
    (sSetO 11 (eVar 15) (eVar 14))) sNx))) FUEL)
    (sRet ((eTup ((aCons ((eTupO 5)) (aCons ((eTupO 11)) aNil)))))))))))))))))
def f__law_skin : Df := bodyF 16 b__law_skin
def b__law_broken : DS :=
    (sSeq (sAsg ((eCB fLen (aCons (eVar 0) aNil))) (gN 2))
    (sSeq (sFor (iRng1 (aCons (eVar 2) aNil)) (gN 3) (sSeq (sIf ((tOrD ((tNotD ((tTst (eChain dLe dLt (eC (.int 0)) ((eIxN 0 (eVar 3))) (eVar 2)))))) ((tTst (eBin dIn ((eIxN 0 (eVar 3))) ((eSl (eVar 0) .no (.of (eVar 3))))))))) (sRet (eVar 3)) sNx)
    (sSeq (sAsg ((eIxN 1 (eVar 3))) (gN 4))
    (sIf ((tAndD ((tTst (eBin dIsnt (eVar 4) (eC .none)))) ((tOrD ((tNotD ((tTst (eChain dLe dLt (eC (.int 0)) (eVar 4) (eVar 2)))))) ((tOrD ((tTst (eBin dEq (eVar 4) (eVar 3)))) ((tTst (eBin dNe ((eIxN 1 (eVar 4))) (eVar 3)))))))))) (sRet (eVar 3)) sNx))))
    (sRet (eC .none))))
def f__law_broken : Df := bodyF 5 b__law_broken
def b__law_is_skin : DS :=
    (sSeq (sIf ((tOrD ((tNotD ((tTst (eIsi "tuple" (eVar 0)))))) ((tOrD ((tTst (eBin dNe ((eCB fLen (aCons (eVar 0) aNil))) (eC (.int 2))))) ((tNotD ((tTst (eCB fAll (aCons ((eLst ((lComp (iSeq (eVar 0)) (gN 3) tYesD ((eIsi "tuple" (eVar 3))) [3])))) aNil)))))))))) (sRet (eC (.bool false))) sNx)
    (sSeq (sAsg ((eCB fLen (aCons ((eIxN 0 (eC (.int 0)))) aNil))) (gN 1))
    (sSeq (sIf ((tOrD ((tTst (eBin dLt (eVar 1) (eC (.int 1))))) ((tOrD ((tTst (eBin dGt (eVar 1) (eC (.int 400))))) ((tTst (eBin dNe ((eCB fLen (aCons ((eIxN 0 (eC (.int 1)))) aNil))) (eVar 1)))))))) (sRet (eC (.bool false))) sNx)
    (sSeq (sFor (iSeq ((eBin dAdd ((eIxN 0 (eC (.int 0)))) ((eCB fTup (aCons ((eLst ((lComp (iSeq ((eIxN 0 (eC (.int 1))))) (gN 4) (tTst (eBin dIsnt (eVar 4) (eC .none))) (eVar 4) [4])))) aNil)))))) (gN 2) (sIf ((tOrD ((tNotD ((tTst (eIsi "int" (eVar 2)))))) ((tTst (eIsi "bool" (eVar 2)))))) (sRet (eC (.bool false))) sNx))
    (sRet ((eBin dIs ((eCallN 2 f__law_broken (rCons ((eIxN 0 (eC (.int 0)))) (rCons ((eIxN 0 (eC (.int 1)))) rNil)))) (eC .none))))))))
def f__law_is_skin : Df := bodyF 5 b__law_is_skin
def b__law_truths : DS :=
    (sRet ((eCB fTup (aCons ((eLst ((lComp (iSeq (eVar 0)) (gN 1) tYesD ((eIf ((tTst (eBin dIn (eVar 1) ((eTup ((aCons (eC (.int 0)) (aCons (eC (.int 1)) aNil)))))))) ((eBin dEq (eVar 1) (eC (.int 1)))) (eVar 1))) [1])))) aNil))))
def f__law_truths : Df := bodyF 2 b__law_truths
def b_look_at_half : DS :=
    (sIf ((tOrD ((tTst (eBin dLt (eVar 1) (eC (.int 0))))) ((tTst (eBin dGe (eVar 1) ((eCB fLen (aCons ((eIxN 0 (eC (.int 0)))) aNil)))))))) (sRaise "NoHalf") sNx)
def f_look_at_half : Df := bodyF 2 b_look_at_half
def b_ahead_of : DS :=
    (sSeq (sDrop ((eCallN 2 f_look_at_half (rCons (eVar 0) (rCons (eVar 1) rNil)))))
    (sRet ((eIndex ((eIxN 0 (eC (.int 0)))) (eVar 1)))))
def f_ahead_of : Df := bodyF 2 b_ahead_of
def b_left_of : DS :=
    (sRet ((eBin dIx ((eIxN 0 (eC (.int 1)))) ((eCallN 2 f_ahead_of (rCons (eVar 0) (rCons (eVar 1) rNil)))))))
def f_left_of : Df := bodyF 2 b_left_of
def b_right_of : DS :=
    (sSeq (sDrop ((eCallN 2 f_look_at_half (rCons (eVar 0) (rCons (eVar 1) rNil)))))
    (sSeq (sAsg ((eBin dIx ((eIxN 0 (eC (.int 1)))) (eVar 1))) (gN 2))
    (sSeq (sIf ((tTst (eBin dIs (eVar 2) (eC .none)))) (sRet (eC .none)) sNx)
    (sRet ((eBin dIx ((eIxN 0 (eC (.int 0)))) (eVar 2)))))))
def f_right_of : Df := bodyF 3 b_right_of
def b_patch_of : DS :=
    (sSeq (sDrop ((eCallN 2 f_look_at_half (rCons (eVar 0) (rCons (eVar 1) rNil)))))
    (sSeq (sAsgL 2 (lLst (aCons (eVar 1) aNil)))
    (sSeq (sAsg ((eBin dIx ((eIxN 0 (eC (.int 0)))) (eVar 1))) (gN 3))
    (sSeq (whileD ((tTst (eBin dNe (eVar 3) (eVar 1)))) (sSeq (sDrop ((eMO 2 mAppend (aCons (eVar 3) aNil))))
    (sAsg ((eBin dIx ((eIxN 0 (eC (.int 0)))) (eVar 3))) (gN 3))) FUEL)
    (sRet ((eTupO 2)))))))
def f_patch_of : Df := bodyF 4 b_patch_of
def b_round_knot : DS :=
    (sSeq (sAsg (eVar 1) (gN 2))
    (sSeq (sAsg ((eCallN 2 f_right_of (rCons (eVar 0) (rCons (eVar 1) rNil)))) (gN 3))
    (sSeq (whileD ((tAndD ((tTst (eBin dIsnt (eVar 3) (eC .none)))) ((tTst (eBin dNe (eVar 3) (eVar 1)))))) (sSeq (sAsg (eVar 3) (gN 2))
    (sAsg ((eCallN 2 f_right_of (rCons (eVar 0) (rCons (eVar 3) rNil)))) (gN 3))) FUEL)
    (sSeq (sIf ((tTst (eBin dEq (eVar 3) (eVar 1)))) (sAsg (eVar 1) (gN 2)) sNx)
    (sSeq (sAsgL 4 (lLst (aCons (eVar 2) aNil)))
    (sSeq (sAsg ((eCallN 2 f_left_of (rCons (eVar 0) (rCons (eVar 2) rNil)))) (gN 3))
    (sSeq (whileD ((tAndD ((tTst (eBin dIsnt (eVar 3) (eC .none)))) ((tTst (eBin dNe (eVar 3) (eVar 2)))))) (sSeq (sDrop ((eMO 4 mAppend (aCons (eVar 3) aNil))))
    (sAsg ((eCallN 2 f_left_of (rCons (eVar 0) (rCons (eVar 3) rNil)))) (gN 3))) FUEL)
    (sRet ((eTupO 4))))))))))
def f_round_knot : Df := bodyF 5 b_round_knot
def b_next_at_rim : DS :=
    (sSeq (sAsg ((eBin dIx ((eIxN 0 (eC (.int 0)))) (eVar 1))) (gN 2))
    (sSeq (whileD ((tTst (eBin dIsnt ((eBin dIx ((eIxN 0 (eC (.int 1)))) (eVar 2))) (eC .none)))) (sAsg ((eBin dIx ((eIxN 0 (eC (.int 0)))) ((eBin dIx ((eIxN 0 (eC (.int 1)))) (eVar 2))))) (gN 2)) FUEL)
    (sRet (eVar 2))))
def f_next_at_rim : Df := bodyF 3 b_next_at_rim
def b_rim_of : DS :=
    (sSeq (sDrop ((eCallN 2 f_look_at_half (rCons (eVar 0) (rCons (eVar 1) rNil)))))
    (sSeq (sIf ((tTst (eBin dIsnt ((eBin dIx ((eIxN 0 (eC (.int 1)))) (eVar 1))) (eC .none)))) (sRaise "NoRim") sNx)
    (sSeq (sAsgL 2 (lLst (aCons (eVar 1) aNil)))
    (sSeq (sAsg ((eCallN 2 f_next_at_rim (rCons (eVar 0) (rCons (eVar 1) rNil)))) (gN 3))
    (sSeq (whileD ((tTst (eBin dNe (eVar 3) (eVar 1)))) (sSeq (sDrop ((eMO 2 mAppend (aCons (eVar 3) aNil))))
    (sAsg ((eCallN 2 f_next_at_rim (rCons (eVar 0) (rCons (eVar 3) rNil)))) (gN 3))) FUEL)
    (sRet ((eTupO 2))))))))
def f_rim_of : Df := bodyF 4 b_rim_of
def b__law_left : DS :=
    (sRet ((eBin dIx ((eIxN 0 (eC (.int 1)))) ((eIndex ((eIxN 0 (eC (.int 0)))) (eVar 1))))))
def f__law_left : Df := bodyF 2 b__law_left
def b__law_right : DS :=
    (sSeq (sIf ((tTst (eBin dIs ((eBin dIx ((eIxN 0 (eC (.int 1)))) (eVar 1))) (eC .none)))) (sRet (eC .none)) sNx)
    (sRet ((eBin dIx ((eIxN 0 (eC (.int 0)))) ((eBin dIx ((eIxN 0 (eC (.int 1)))) (eVar 1)))))))
def f__law_right : Df := bodyF 2 b__law_right
def b__law_kinds (a : Addr) (d : Option Addr) (c : Str) : DS :=
    (sSeq (sAsgL 1 (lLst (aCons ((eIsE a d 0 (c == "Harm"))) (aCons ((eIsE a d 0 (c == "NoHalf"))) (aCons ((eIsE a d 0 (c == "NoMarks"))) (aCons ((eIsE a d 0 (c == "NoPlain"))) aNil))))))
    (sSeq (sAsgL 1 (eBinL dCat (eVar 1) ((eLst ((lLst (aCons ((eIsE a d 0 (c == "NoRim"))) (aCons ((eIsE a d 0 (c == "NoRow"))) (aCons ((eIsE a d 0 (c == "NoSkin"))) (aCons ((eIsE a d 0 (c == "NoText"))) aNil))))))))))
    (sSeq (sAsgL 1 (eBinL dCat (eVar 1) ((eLst ((lLst (aCons ((eIsE a d 0 (c == "NothingLeft"))) (aCons ((eIsE a d 0 (c == "TooMany"))) (aCons ((eIsE a d 0 (c == "Unfit"))) (aCons ((eIsE a d 0 (c == "Unlike"))) aNil))))))))))
    (sSeq (sAsg ((eLst ((lLst (aCons (eC (.str "Harm")) (aCons (eC (.str "NoHalf")) (aCons (eC (.str "NoMarks")) (aCons (eC (.str "NoPlain")) (aCons (eC (.str "NoRim")) (aCons (eC (.str "NoRow")) (aCons (eC (.str "NoSkin")) (aCons (eC (.str "NoText")) (aCons (eC (.str "NothingLeft")) (aCons (eC (.str "TooMany")) aNil)))))))))))))) (gN 2))
    (sSeq (sAsg ((eLst ((eBinL dCat (eVar 2) ((eLst ((lLst (aCons (eC (.str "Unfit")) (aCons (eC (.str "Unlike")) (aCons (eC (.str "+")) aNil))))))))))) (gN 2))
    (sSeq (sDrop ((eMO 1 mAppend (aCons ((eIsE a d 0 true)) aNil))))
    (sRet ((eJoin (eC (.str "")) ((eLst ((lComp (iRng1 (aCons (eC (.int 13)) aNil)) (gN 3) (tTru ((eIxN 1 (eVar 3)))) ((eIxN 2 (eVar 3))) [3])))))))))))))
def f__law_kinds : DfX := fun a d c => bodyF 4 (b__law_kinds a d c)
theorem rng13 : iRng1 (aCons (eC (.int 13)) aNil) = fun env => .ok (rngD 0 13) env := by
  funext env
  show (if I62 13 then Rs.ok (rngD 0 13) env else .stuck) = _
  rw [if_pos (i62_of (by decide) (by decide))]
theorem isE_at {a : Addr} {d : Option Addr} {b : Bool} {f : Option (Str × D)} {r : DEnv} : eIsE a d 0 b (.a a d f :: r) = .ok (.bool b) (.a a d f :: r) := by
  show (if a = a ∧ d = d then _ else _) = _
  rw [if_pos ⟨rfl, rfl⟩]
theorem acons_at {de : DE} {da : DA} {x : D} {xs : List D} {e e1 e2 : DEnv} (h : de e = .ok x e1) (h2 : da e1 = .ok xs e2) : aCons de da e = .ok (x :: xs) e2 := by
  show (de e).bind _ = _
  rw [h]
  show (da e1).bind _ = _
  rw [h2]
  rfl
theorem isE4 {a : Addr} {d : Option Addr} {f : Option (Str × D)} (b1 b2 b3 b4 : Bool) (r : DEnv) : lLst (aCons (eIsE a d 0 b1) (aCons (eIsE a d 0 b2) (aCons (eIsE a d 0 b3) (aCons (eIsE a d 0 b4) aNil)))) (.a a d f :: r) = .ok [.bool b1, .bool b2, .bool b3, .bool b4] (.a a d f :: r) := by
  unfold lLst
  rw [acons_at isE_at (acons_at isE_at (acons_at isE_at (acons_at isE_at (da := aNil) (xs := []) (e2 := .a a d f :: r) rfl)))]
  rfl
theorem kin13 {a : Addr} {d : Option Addr} {f : Option (Str × D)} {b1 b2 b3 b4 b5 b6 b7 b8 b9 b10 b11 b12 : Bool} :
    (sSeq (sAsgL 1 (lLst (aCons (eIsE a d 0 b1) (aCons (eIsE a d 0 b2) (aCons (eIsE a d 0 b3) (aCons (eIsE a d 0 b4) aNil))))))
    (sSeq (sAsgL 1 (eBinL dCat (eVar 1) (eLst (lLst (aCons (eIsE a d 0 b5) (aCons (eIsE a d 0 b6) (aCons (eIsE a d 0 b7) (aCons (eIsE a d 0 b8) aNil))))))))
    (sSeq (sAsgL 1 (eBinL dCat (eVar 1) (eLst (lLst (aCons (eIsE a d 0 b9) (aCons (eIsE a d 0 b10) (aCons (eIsE a d 0 b11) (aCons (eIsE a d 0 b12) aNil))))))))
    (sSeq (sAsg (eLst (lLst (aCons (eC (.str "Harm")) (aCons (eC (.str "NoHalf")) (aCons (eC (.str "NoMarks")) (aCons (eC (.str "NoPlain")) (aCons (eC (.str "NoRim")) (aCons (eC (.str "NoRow")) (aCons (eC (.str "NoSkin")) (aCons (eC (.str "NoText")) (aCons (eC (.str "NothingLeft")) (aCons (eC (.str "TooMany")) aNil)))))))))))) (gN 2))
    (sSeq (sAsg (eLst (eBinL dCat (eVar 2) (eLst (lLst (aCons (eC (.str "Unfit")) (aCons (eC (.str "Unlike")) (aCons (eC (.str "+")) aNil))))))) (gN 2))
    (sSeq (sDrop (eMO 1 mAppend (aCons (eIsE a d 0 true) aNil)))
    (sRet (eJoin (eC (.str "")) (eLst (lComp (fun env => .ok (rngD 0 13) env) (gN 3) (tTru (eIxN 1 (eVar 3))) (eIxN 2 (eVar 3)) [3])))))))))) [.a a d f, .no, .no, .no] = (sRet (eJoin (eC (.str "")) (eLst (lComp (fun env => .ok (rngD 0 13) env) (gN 3) (tTru (eIxN 1 (eVar 3))) (eIxN 2 (eVar 3)) [3])))) [.a a d f, .l ([.bool b1, .bool b2, .bool b3, .bool b4, .bool b5, .bool b6, .bool b7, .bool b8, .bool b9, .bool b10, .bool b11, .bool b12] ++ [.bool true]), .v (.list [.str "Harm", .str "NoHalf", .str "NoMarks", .str "NoPlain", .str "NoRim", .str "NoRow", .str "NoSkin", .str "NoText", .str "NothingLeft", .str "TooMany", .str "Unfit", .str "Unlike", .str "+"]), .no] := by
  generalize (sRet (eJoin (eC (.str "")) (eLst (lComp (fun env => .ok (rngD 0 13) env) (gN 3) (tTru (eIxN 1 (eVar 3))) (eIxN 2 (eVar 3)) [3])))) = k
  have s1 : ∀ k : DS, sSeq (sAsgL 1 (lLst (aCons (eIsE a d 0 b1) (aCons (eIsE a d 0 b2) (aCons (eIsE a d 0 b3) (aCons (eIsE a d 0 b4) aNil)))))) k [.a a d f, .no, .no, .no] = k [.a a d f, .l [.bool b1, .bool b2, .bool b3, .bool b4], .no, .no] := fun k => by
    unfold sSeq sAsgL
    rw [isE4]
    rfl
  have s2 : ∀ k : DS, sSeq (sAsgL 1 (eBinL dCat (eVar 1) (eLst (lLst (aCons (eIsE a d 0 b5) (aCons (eIsE a d 0 b6) (aCons (eIsE a d 0 b7) (aCons (eIsE a d 0 b8) aNil)))))))) k [.a a d f, .l [.bool b1, .bool b2, .bool b3, .bool b4], .no, .no] = k [.a a d f, .l [.bool b1, .bool b2, .bool b3, .bool b4, .bool b5, .bool b6, .bool b7, .bool b8], .no, .no] := fun k => by
    show (((((lLst (aCons (eIsE a d 0 b5) (aCons (eIsE a d 0 b6) (aCons (eIsE a d 0 b7) (aCons (eIsE a d 0 b8) aNil))))) (.a a d f :: [.v (.list [.bool b1, .bool b2, .bool b3, .bool b4]), .no, .no])).bind _).bind _).fl _).seq k = _
    rw [isE4]
    rfl
  have s3 : ∀ k : DS, sSeq (sAsgL 1 (eBinL dCat (eVar 1) (eLst (lLst (aCons (eIsE a d 0 b9) (aCons (eIsE a d 0 b10) (aCons (eIsE a d 0 b11) (aCons (eIsE a d 0 b12) aNil)))))))) k [.a a d f, .l [.bool b1, .bool b2, .bool b3, .bool b4, .bool b5, .bool b6, .bool b7, .bool b8], .no, .no] = k [.a a d f, .l [.bool b1, .bool b2, .bool b3, .bool b4, .bool b5, .bool b6, .bool b7, .bool b8, .bool b9, .bool b10, .bool b11, .bool b12], .no, .no] := fun k => by
    show (((((lLst (aCons (eIsE a d 0 b9) (aCons (eIsE a d 0 b10) (aCons (eIsE a d 0 b11) (aCons (eIsE a d 0 b12) aNil))))) (.a a d f :: [.v (.list [.bool b1, .bool b2, .bool b3, .bool b4, .bool b5, .bool b6, .bool b7, .bool b8]), .no, .no])).bind _).bind _).fl _).seq k = _
    rw [isE4]
    rfl
  rw [s1, s2, s3]
  show (sSeq (sDrop (eMO 1 mAppend (aCons (eIsE a d 0 true) aNil))) k) [.a a d f, .l [.bool b1, .bool b2, .bool b3, .bool b4, .bool b5, .bool b6, .bool b7, .bool b8, .bool b9, .bool b10, .bool b11, .bool b12], .v (.list [.str "Harm", .str "NoHalf", .str "NoMarks", .str "NoPlain", .str "NoRim", .str "NoRow", .str "NoSkin", .str "NoText", .str "NothingLeft", .str "TooMany", .str "Unfit", .str "Unlike", .str "+"]), .no] = _
  have q : aCons (eIsE a d 0 true) aNil [.a a d f, .l [.bool b1, .bool b2, .bool b3, .bool b4, .bool b5, .bool b6, .bool b7, .bool b8, .bool b9, .bool b10, .bool b11, .bool b12], .v (.list [.str "Harm", .str "NoHalf", .str "NoMarks", .str "NoPlain", .str "NoRim", .str "NoRow", .str "NoSkin", .str "NoText", .str "NothingLeft", .str "TooMany", .str "Unfit", .str "Unlike", .str "+"]), .no] = .ok [.bool true] [.a a d f, .l [.bool b1, .bool b2, .bool b3, .bool b4, .bool b5, .bool b6, .bool b7, .bool b8, .bool b9, .bool b10, .bool b11, .bool b12], .v (.list [.str "Harm", .str "NoHalf", .str "NoMarks", .str "NoPlain", .str "NoRim", .str "NoRow", .str "NoSkin", .str "NoText", .str "NothingLeft", .str "TooMany", .str "Unfit", .str "Unlike", .str "+"]), .no] := acons_at isE_at (da := aNil) (xs := []) rfl
  show ((((aCons (eIsE a d 0 true) aNil [.a a d f, .l [.bool b1, .bool b2, .bool b3, .bool b4, .bool b5, .bool b6, .bool b7, .bool b8, .bool b9, .bool b10, .bool b11, .bool b12], .v (.list [.str "Harm", .str "NoHalf", .str "NoMarks", .str "NoPlain", .str "NoRim", .str "NoRow", .str "NoSkin", .str "NoText", .str "NothingLeft", .str "TooMany", .str "Unfit", .str "Unlike", .str "+"]), .no])).bind _).fl _).seq k = _
  rw [q]
  rfl
theorem kinds_ok : KindsF f__law_kinds := fun a d f c hc => by
  unfold f__law_kinds bodyF b__law_kinds
  rw [rng13]
  show (match (sSeq _ _) [.a a d f, .no, .no, .no] with
    | .nx e => Fo.ok .none (outsOf [.a a d f] e)
    | .rt d1 e => Fo.ok d1 (outsOf [.a a d f] e)
    | .rl xs e => Fo.okl xs (outsOf [.a a d f] e)
    | .ex x e => Fo.ex x (outsOf [.a a d f] e)
    | _ => Fo.stuck) = _
  rw [kin13]
  simp only [kNames, List.mem_cons, List.not_mem_nil, or_false] at hc
  rcases hc with rfl | rfl | rfl | rfl | rfl | rfl | rfl | rfl | rfl | rfl | rfl | rfl
  all_goals kernel_rfl

def b__law_knot : DS :=
    (sSeq (sAsgL 2 (lLst (aCons (eVar 1) aNil)))
    (sSeq (whileD ((tTst (eBin dNotIn ((eCallN 2 f__law_left (rCons (eVar 0) (rCons ((eIxN 2 (eC (.int (-1))))) rNil)))) ((eTup ((aCons (eC .none) (aCons (eVar 1) aNil)))))))) (sDrop ((eMO 2 mAppend (aCons ((eCallN 2 f__law_left (rCons (eVar 0) (rCons ((eIxN 2 (eC (.int (-1))))) rNil)))) aNil)))) FUEL)
    (sSeq (sIf ((tTst (eBin dIs ((eCallN 2 f__law_left (rCons (eVar 0) (rCons ((eIxN 2 (eC (.int (-1))))) rNil)))) (eC .none)))) (whileD ((tTst (eBin dIsnt ((eCallN 2 f__law_right (rCons (eVar 0) (rCons ((eIxN 2 (eC (.int 0)))) rNil)))) (eC .none)))) (sDrop ((eMO 2 mInsert (aCons (eC (.int 0)) (aCons ((eCallN 2 f__law_right (rCons (eVar 0) (rCons ((eIxN 2 (eC (.int 0)))) rNil)))) aNil))))) FUEL) sNx)
    (sRet ((eTupO 2))))))
def f__law_knot : Df := bodyF 3 b__law_knot
def b__law_patch : DS :=
    (sSeq (sAsgL 2 (lLst (aCons (eVar 1) aNil)))
    (sSeq (whileD ((tTst (eBin dNe ((eBin dIx ((eIxN 0 (eC (.int 0)))) ((eIxN 2 (eC (.int (-1))))))) (eVar 1)))) (sDrop ((eMO 2 mAppend (aCons ((eBin dIx ((eIxN 0 (eC (.int 0)))) ((eIxN 2 (eC (.int (-1))))))) aNil)))) FUEL)
    (sRet ((eTupO 2)))))
def f__law_patch : Df := bodyF 3 b__law_patch
def b__law_rim : DS :=
    (sSeq (sAsgL 2 (lLst (aCons (eVar 1) aNil)))
    (whileD ((tTru (eC (.bool true)))) (sSeq (sAsg ((eBin dIx ((eCallN 2 f__law_knot (rCons (eVar 0) (rCons ((eBin dIx ((eIxN 0 (eC (.int 0)))) ((eIxN 2 (eC (.int (-1))))))) rNil)))) (eC (.int 0)))) (gN 3))
    (sSeq (sIf ((tTst (eBin dEq (eVar 3) (eVar 1)))) (sRet ((eTupO 2))) sNx)
    (sDrop ((eMO 2 mAppend (aCons (eVar 3) aNil)))))) FUEL))
def f__law_rim : Df := bodyF 4 b__law_rim
def b__law_at_rim : DS :=
    (sSeq (sAsg (eC (.str "")) (gN 2))
    (sSeq (sAsg (eC .none) (gN 3))
    (sSeq (sTryK (sAsg ((eCallN 2 f_rim_of (rCons (eVar 0) (rCons (eVar 1) rNil)))) (gN 3)) 4 2 [("SkinError", none)])
    (sRet ((eTup ((aCons (eVar 3) (aCons (eVar 2) aNil)))))))))
def f__law_at_rim : Df := bodyF 5 b__law_at_rim
def b_seam_of : DS :=
    (sSeq (sAsg ((eBin dIx ((eIxN 0 (eC (.int 1)))) (eVar 1))) (gN 2))
    (sSeq (sIf ((tTst (eBin dIs (eVar 2) (eC .none)))) (sRet ((eTup ((aCons (eVar 1) aNil))))) sNx)
    (sRet ((eTup ((aCons ((eCB fMin (aCons (eVar 1) (aCons (eVar 2) aNil)))) (aCons ((eCB fMax (aCons (eVar 1) (aCons (eVar 2) aNil)))) aNil))))))))
def f_seam_of : Df := bodyF 3 b_seam_of
def b_all_walks : DS :=
    (sSeq (sAsgM 3 lDict0)
    (sSeq (sAsgL 4 (lLst aNil))
    (sSeq (sFor (iSeq (eVar 0)) (gN 5) (sIf ((tTst (eNotInM (eVar 5) 3))) (sSeq (sAsg ((eCallV 2 1 [("patch_of", f_patch_of), ("rim_of", f_rim_of), ("round_knot", f_round_knot), ("seam_of", f_seam_of)] (rCons (eVar 2) (rCons (eVar 5) rNil)))) (gN 6))
    (sSeq (sFor (iSeq (eVar 6)) (gN 7) (sPutM 3 (eVar 7) (eC (.bool true))))
    (sDrop ((eMO 4 mAppend (aCons (eVar 6) aNil)))))) sNx))
    (sRet ((eTupO 4))))))
def f_all_walks : Df := bodyF 8 b_all_walks
def b_knots : DS :=
    (sRet ((eCallN 3 f_all_walks (rCons ((eLst ((lRange1 ((eCB fLen (aCons ((eIxN 0 (eC (.int 0)))) aNil))))))) (rFn "round_knot" (rCons (eVar 0) rNil))))))
def f_knots : Df := bodyF 1 b_knots
def b_patches : DS :=
    (sRet ((eCallN 3 f_all_walks (rCons ((eLst ((lRange1 ((eCB fLen (aCons ((eIxN 0 (eC (.int 0)))) aNil))))))) (rFn "patch_of" (rCons (eVar 0) rNil))))))
def f_patches : Df := bodyF 1 b_patches
def b_rims : DS :=
    (sRet ((eCallN 3 f_all_walks (rCons ((eLst ((lComp (iEnm (aCons ((eIxN 0 (eC (.int 1)))) aNil)) (gT [gN 1, gN 2]) (tTst (eBin dIs (eVar 2) (eC .none))) (eVar 1) [1, 2])))) (rFn "rim_of" (rCons (eVar 0) rNil))))))
def f_rims : Df := bodyF 3 b_rims
def b_seams : DS :=
    (sRet ((eCallN 3 f_all_walks (rCons ((eLst ((lRange1 ((eCB fLen (aCons ((eIxN 0 (eC (.int 0)))) aNil))))))) (rFn "seam_of" (rCons (eVar 0) rNil))))))
def f_seams : Df := bodyF 1 b_seams
def b__law_walks : DS :=
    (sSeq (sAsgL 2 (lLst aNil))
    (sSeq (sAsgM 3 lDict0)
    (sSeq (sFor (iRng1 (aCons ((eCB fLen (aCons ((eIxN 0 (eC (.int 0)))) aNil))) aNil)) (gN 4) (sIf ((tAndD ((tTst (eNotInM (eVar 4) 3))) ((tOrD ((tTst (eBin dNe (eVar 1) (eC (.str "rim"))))) ((tTst (eBin dIs ((eBin dIx ((eIxN 0 (eC (.int 1)))) (eVar 4))) (eC .none)))))))) (sSeq (sIf ((tTst (eBin dEq (eVar 1) (eC (.str "knot"))))) (sAsg ((eCallN 2 f__law_knot (rCons (eVar 0) (rCons (eVar 4) rNil)))) (gN 5)) (sIf ((tTst (eBin dEq (eVar 1) (eC (.str "patch"))))) (sAsg ((eCallN 2 f__law_patch (rCons (eVar 0) (rCons (eVar 4) rNil)))) (gN 5)) (sIf ((tTst (eBin dEq (eVar 1) (eC (.str "rim"))))) (sAsg ((eCallN 2 f__law_rim (rCons (eVar 0) (rCons (eVar 4) rNil)))) (gN 5)) (sAsg ((eCB fTup (aCons ((eLst ((eCL fSort (aCons ((eLst ((lComp (iSeq ((eTup ((aCons (eVar 4) (aCons ((eBin dIx ((eIxN 0 (eC (.int 1)))) (eVar 4))) aNil)))))) (gN 6) (tTst (eBin dIsnt (eVar 6) (eC .none))) (eVar 6) [6])))) aNil))))) aNil))) (gN 5)))))
    (sSeq (sDrop ((eMO 2 mAppend (aCons (eVar 5) aNil))))
    (sFor (iSeq (eVar 5)) (gN 6) (sPutM 3 (eVar 6) (eC (.bool true)))))) sNx))
    (sRet ((eTupO 2))))))
def f__law_walks : Df := bodyF 7 b__law_walks
def b__law_once : DS :=
    (sSeq (sAsgL 2 (lLst aNil))
    (sSeq (sFor (iSeq (eVar 0)) (gN 3) (sDrop ((eMO 2 mExtend (aCons (eVar 3) aNil)))))
    (sRet ((eBin dEq ((eLst ((eCL fSort (aCons (eVar 2) aNil))))) (eVar 1))))))
def f__law_once : Df := bodyF 4 b__law_once
def b__law_begun : DS :=
    (sSeq (sAsg ((eIndex (eVar 0) (eVar 1))) (gN 2))
    (sRet ((eBin dAdd ((eSl (eVar 0) (.of (eVar 2)) .no)) ((eSl (eVar 0) .no (.of (eVar 2))))))))
def f__law_begun : Df := bodyF 3 b__law_begun
def b__law_beside : DS :=
    (sSeq (sAsg ((eCB fLen (aCons ((eIxN 0 (eC (.int 0)))) aNil))) (gN 2))
    (sSeq (sAsg ((eBin dAdd ((eIxN 0 (eC (.int 0)))) ((eCB fTup (aCons ((eLst ((lComp (iSeq ((eIxN 1 (eC (.int 0))))) (gN 5) tYesD ((eBin dAdd (eVar 5) (eVar 2))) [5])))) aNil))))) (gN 3))
    (sSeq (sAsg (eLst (lComp (iSeq ((eIxN 1 (eC (.int 1))))) (gN 6) tYesD ((eIf ((tTst (eBin dIs (eVar 6) (eC .none)))) (eC .none) ((eBin dAdd (eVar 6) (eVar 2))))) [6])) (gN 4))
    (sRet ((eTup ((aCons (eVar 3) (aCons ((eBin dAdd ((eIxN 0 (eC (.int 1)))) ((eCB fTup (aCons (eVar 4) aNil))))) aNil)))))))))
def f__law_beside : Df := bodyF 7 b__law_beside
def b_handles_of : DS :=
    (sRet ((eBin dFdiv ((eBin dSub ((eBin dSub ((eBin dAdd ((eBin dSub (eC (.int 2)) ((eIxN 0 (eC (.int 0)))))) ((eIxN 0 (eC (.int 1)))))) ((eIxN 0 (eC (.int 2)))))) ((eIxN 0 (eC (.int 3)))))) (eC (.int 2)))))
def f_handles_of : Df := bodyF 1 b_handles_of
def b__law_net : DS :=
    (sSeq (sAsgL 4 (lLst aNil))
    (sSeq (sAsgL 5 (lLst aNil))
    (sSeq (sFor (iRng1 (aCons ((eBin dMul (eVar 0) (eVar 1))) aNil)) (gN 6) (sSeq (sAsg ((eBin dMod (eVar 6) (eVar 0))) (gN 7))
    (sSeq (sAsg ((eBin dFdiv (eVar 6) (eVar 0))) (gN 8))
    (sSeq (sDrop ((eMO 4 mExtend (aCons ((eLst ((lLst (aCons ((eBin dAdd ((eBin dMul (eC (.int 4)) (eVar 6))) (eC (.int 1)))) (aCons ((eBin dAdd ((eBin dMul (eC (.int 4)) (eVar 6))) (eC (.int 2)))) (aCons ((eBin dAdd ((eBin dMul (eC (.int 4)) (eVar 6))) (eC (.int 3)))) (aCons ((eBin dMul (eC (.int 4)) (eVar 6))) aNil)))))))) aNil))))
    (sSeq (sAsg ((eBin dAdd ((eBin dMul ((eBin dMod ((eBin dSub (eVar 8) (eC (.int 1)))) (eVar 1))) (eVar 0))) (eVar 7))) (gN 9))
    (sSeq (sAsg ((eBin dAdd ((eBin dMul ((eBin dMod ((eBin dAdd (eVar 8) (eC (.int 1)))) (eVar 1))) (eVar 0))) (eVar 7))) (gN 10))
    (sSeq (sAsg ((eBin dAdd ((eBin dMul (eVar 8) (eVar 0))) ((eBin dMod ((eBin dAdd (eVar 7) (eC (.int 1)))) (eVar 0))))) (gN 11))
    (sSeq (sAsg ((eBin dAdd ((eBin dMul (eVar 8) (eVar 0))) ((eBin dMod ((eBin dSub (eVar 7) (eC (.int 1)))) (eVar 0))))) (gN 12))
    (sSeq (sAsg ((eLst ((lLst (aCons ((eBin dAdd ((eBin dMul (eC (.int 4)) (eVar 9))) (eC (.int 2)))) (aCons ((eBin dAdd ((eBin dMul (eC (.int 4)) (eVar 11))) (eC (.int 3)))) (aCons ((eBin dMul (eC (.int 4)) (eVar 10))) (aCons ((eBin dAdd ((eBin dMul (eC (.int 4)) (eVar 12))) (eC (.int 1)))) aNil)))))))) (gN 13))
    (sSeq (sAsg ((eLst ((lLst (aCons ((eAnd ((eBin dEq (eVar 8) (eC (.int 0)))) ((eNot (eVar 3))))) (aCons ((eAnd ((eBin dEq (eVar 7) ((eBin dSub (eVar 0) (eC (.int 1)))))) ((eNot (eVar 2))))) aNil)))))) (gN 14))
    (sSeq (sAsg ((eLst ((eBinL dCat (eVar 14) ((eLst ((lLst (aCons ((eAnd ((eBin dEq (eVar 8) ((eBin dSub (eVar 1) (eC (.int 1)))))) ((eNot (eVar 3))))) (aCons ((eAnd ((eBin dEq (eVar 7) (eC (.int 0)))) ((eNot (eVar 2))))) aNil)))))))))) (gN 14))
    (sDrop ((eMO 5 mExtend (aCons ((eLst ((lComp (iZp (aCons (eVar 13) (aCons (eVar 14) aNil))) (gT [gN 15, gN 16]) tYesD ((eIf ((tTru (eVar 16))) (eC .none) (eVar 15))) [15, 16])))) aNil)))))))))))))))
    (sRet ((eTup ((aCons ((eTupO 4)) (aCons ((eTupO 5)) aNil)))))))))
def f__law_net : Df := bodyF 17 b__law_net
def b__law_word_skin : DS :=
    (sSeq (sAsg ((eBin dAdd ((eBin dMul (eC (.int 4)) (eVar 0))) ((eBin dMul (eC (.int 3)) (eVar 1))))) (gN 2))
    (sSeq (sAsgL 3 (lLst aNil))
    (sSeq (sFor (iRng1 (aCons (eVar 0) aNil)) (gN 4) (sSeq (sAsg ((eBin dMul (eC (.int 4)) (eVar 4))) (gN 5))
    (sDrop ((eMO 3 mExtend (aCons ((eLst ((lLst (aCons ((eBin dAdd (eVar 5) (eC (.int 2)))) (aCons ((eBin dAdd (eVar 5) (eC (.int 3)))) (aCons (eVar 5) (aCons ((eBin dAdd (eVar 5) (eC (.int 1)))) aNil)))))))) aNil))))))
    (sSeq (sFor (iRng1 (aCons (eVar 1) aNil)) (gN 4) (sSeq (sAsg ((eBin dAdd ((eBin dMul (eC (.int 4)) (eVar 0))) ((eBin dMul (eC (.int 3)) (eVar 4))))) (gN 5))
    (sDrop ((eMO 3 mExtend (aCons ((eLst ((lLst (aCons ((eBin dAdd (eVar 5) (eC (.int 2)))) (aCons (eC .none) (aCons (eVar 5) aNil))))))) aNil))))))
    (sRet ((eTup ((aCons ((eCB fTup (aCons ((eLst ((lComp (iRng1 (aCons (eVar 2) aNil)) (gN 6) tYesD ((eBin dMod ((eBin dAdd (eVar 6) (eC (.int 1)))) (eVar 2))) [6])))) aNil))) (aCons ((eTupO 3)) aNil))))))))))
def f__law_word_skin : Df := bodyF 7 b__law_word_skin
def b__law_renumbered : DS :=
    (sSeq (sAsg ((eCB fLen (aCons ((eIxN 1 (eC (.int 0)))) aNil))) (gN 2))
    (sSeq (sAsgL 3 (lLst aNil))
    (sSeq (sFor (iRng1 (aCons (eVar 2) aNil)) (gN 4) (sDrop ((eMO 3 mInsert (aCons ((eCallN 2 f__law_take (rLendC 0 (rCons ((eBin dAdd (eVar 4) (eC (.int 1)))) rNil)))) (aCons (eVar 4) aNil))))))
    (sSeq (sAsgL 5 (lRep (lLst (aCons (eC (.int 0)) aNil)) (eVar 2)))
    (sSeq (sAsgL 6 (lRep (lLst (aCons (eC .none) aNil)) (eVar 2)))
    (sSeq (sFor (iRng1 (aCons (eVar 2) aNil)) (gN 4) (sSeq (sSetO 5 ((eIxN 3 (eVar 4))) ((eIxN 3 ((eBin dIx ((eIxN 1 (eC (.int 0)))) (eVar 4))))))
    (sIf ((tTst (eBin dIsnt ((eBin dIx ((eIxN 1 (eC (.int 1)))) (eVar 4))) (eC .none)))) (sSetO 6 ((eIxN 3 (eVar 4))) ((eIxN 3 ((eBin dIx ((eIxN 1 (eC (.int 1)))) (eVar 4)))))) sNx)))
    (sRet ((eTup ((aCons ((eTup ((aCons ((eTupO 5)) (aCons ((eTupO 6)) aNil))))) (aCons (eVar 3) aNil))))))))))))
def f__law_renumbered : Df := bodyF 7 b__law_renumbered
def b_knot_places : DS :=
    (sSeq (sAsgM 1 lDict0)
    (sSeq (sFor (iEnm (aCons ((eCallN 1 f_knots (rCons (eVar 0) rNil))) aNil)) ((gT [gN 2, gN 3])) (sFor (iSeq (eVar 3)) (gN 4) (sPutM 1 (eVar 4) (eVar 2))))
    (sRet (eVar 1))))
def f_knot_places : Df := bodyF 5 b_knot_places
def b_steps_of : DS :=
    (sSeq (sAsgL 1 (lLst aNil))
    (sSeq (sAsgL 2 (lLst aNil))
    (sSeq (sFor (iSeq (eVar 0)) (gN 3) (sSeq (sAsg ((eLenO 1)) (gN 4))
    (sFor (iRng1 (aCons ((eCB fLen (aCons (eVar 3) aNil))) aNil)) (gN 5) (sSeq (sAsg ((eBin dMod ((eBin dAdd (eVar 5) (eC (.int 1)))) ((eCB fLen (aCons (eVar 3) aNil))))) (gN 6))
    (sSeq (sDrop ((eMO 1 mAppend (aCons ((eTup ((aCons ((eIxN 3 (eVar 5))) (aCons ((eIxN 3 (eVar 6))) aNil))))) aNil))))
    (sDrop ((eMO 2 mAppend (aCons ((eBin dAdd (eVar 4) (eVar 6))) aNil)))))))))
    (sRet ((eTup ((aCons (eVar 1) (aCons (eVar 2) aNil)))))))))
def f_steps_of : Df := bodyF 7 b_steps_of
def b_told_by_knots : DS :=
    (sSeq (sAsg ((eCallN 1 f_knot_places (rCons (eVar 0) rNil))) (gN 1))
    (sRet ((eCB fTup (aCons ((eLst ((lComp (iSeq ((eCallN 1 f_patches (rCons (eVar 0) rNil)))) (gN 2) tYesD ((eCB fTup (aCons ((eLst ((lComp (iSeq (eVar 2)) (gN 3) tYesD ((eIxN 1 (eVar 3))) [3])))) aNil))) [2])))) aNil)))))
def f_told_by_knots : Df := bodyF 4 b_told_by_knots
def b__law_triples : DS :=
    (sSeq (sAsg ((eCallN 2 f__law_take (rLendC 0 (rCons (eC (.int 4)) rNil)))) (gN 1))
    (sSeq (sAsg ((eBin dAdd (eC (.int 3)) ((eCallN 2 f__law_take (rLendC 0 (rCons (eC (.int 9)) rNil)))))) (gN 2))
    (sSeq (sAsgL 3 (lComp (iRng1 (aCons (eVar 2) aNil)) (gN 10) tYesD ((eTup ((aCons (eC (.int 99)) (aCons (eVar 10) (aCons ((eBin dMod ((eBin dAdd (eVar 10) (eC (.int 1)))) (eVar 2))) aNil)))))) [10]))
    (sSeq (sIf ((tTst (eBin dGt (eVar 1) (eC (.int 0))))) (sAsgL 3 (eBinL dCat (eVar 3) ((eLst ((lComp (iRng1 (aCons (eVar 2) aNil)) (gN 10) tYesD ((eTup ((aCons (eC (.int 98)) (aCons ((eBin dMod ((eBin dAdd (eVar 10) (eC (.int 1)))) (eVar 2))) (aCons (eVar 10) aNil)))))) [10])))))) sNx)
    (sSeq (sIf ((tTst (eBin dEq (eVar 1) (eC (.int 2))))) (sSeq (sAsgL 3 (lLst aNil))
    (sFor (iRng1 (aCons ((eBin dMul (eVar 2) (eC (.int 4)))) aNil)) (gN 4) (sSeq (sAsg ((eBin dMod (eVar 4) (eVar 2))) (gN 5))
    (sSeq (sAsg ((eBin dFdiv (eVar 4) (eVar 2))) (gN 6))
    (sSeq (sAsg ((eLst ((lLst (aCons ((eBin dAdd ((eBin dMul (eVar 6) (eC (.int 20)))) (eVar 5))) (aCons ((eBin dAdd ((eBin dAdd ((eBin dMul (eVar 6) (eC (.int 20)))) (eVar 5))) (eC (.int 1)))) (aCons ((eBin dAdd ((eBin dAdd ((eBin dMul (eVar 6) (eC (.int 20)))) (eVar 5))) (eC (.int 21)))) (aCons ((eBin dAdd ((eBin dAdd ((eBin dMul (eVar 6) (eC (.int 20)))) (eVar 5))) (eC (.int 20)))) aNil)))))))) (gN 7))
    (sDrop ((eMO 3 mExtend (aCons ((eLst ((lLst (aCons ((eTup ((aCons ((eIxN 7 (eC (.int 0)))) (aCons ((eIxN 7 (eC (.int 1)))) (aCons ((eIxN 7 (eC (.int 2)))) aNil)))))) (aCons ((eTup ((aCons ((eIxN 7 (eC (.int 0)))) (aCons ((eIxN 7 (eC (.int 2)))) (aCons ((eIxN 7 (eC (.int 3)))) aNil)))))) aNil)))))) aNil))))))))) sNx)
    (sSeq (sIf ((tTst (eBin dEq (eVar 1) (eC (.int 3))))) (sAsgL 3 (eBinL dCat ((eLst ((lComp (iSeq (eVar 3)) (gN 11) (tTst (eBin dGt ((eCallN 2 f__law_take (rLendC 0 (rCons (eC (.int 5)) rNil)))) (eC (.int 0)))) (eVar 11) [11])))) ((eLst ((lLst (aCons ((eTup ((aCons (eC (.int 0)) (aCons (eC (.int 1)) (aCons (eC (.int 99)) aNil)))))) aNil))))))) sNx)
    (sSeq (sAsg ((eBin dIx ((eLst ((lLst (aCons (eC (.int 1)) (aCons (eC (.int 1)) (aCons ((eBin dPow (eC (.int 10)) (eC (.int 6)))) aNil))))))) ((eCallN 2 f__law_take (rLendC 0 (rCons (eC (.int 3)) rNil)))))) (gN 8))
    (sSeq (sAsg (eLst (lComp (iSeq (eVar 3)) (gN 11) tYesD ((eCallN 2 f__law_take (rLendC 0 (rCons (eC (.int 3)) rNil)))) [11])) (gN 9))
    (sRetL (lComp (iZp (aCons (eVar 3) (aCons (eVar 9) aNil))) (gT [gN 11, gN 12]) tYesD ((eCB fTup (aCons ((eLst ((lComp (iSeq ((eBin dAdd ((eSl (eVar 11) (.of (eVar 12)) .no)) ((eSl (eVar 11) .no (.of (eVar 12))))))) (gN 13) tYesD ((eBin dMul (eVar 13) (eVar 8))) [13])))) aNil))) [11, 12]))))))))))
def f__law_triples : Df := bodyF 14 b__law_triples
def b_look_at_room : DS :=
    (sIf ((tTst (eBin dGt ((eBin dAdd ((eCB fLen (aCons ((eIxN 0 (eC (.int 0)))) aNil))) (eVar 1))) (eC (.int 400))))) (sRaise "TooMany") sNx)
def f_look_at_room : Df := bodyF 2 b_look_at_room
def b_without : DS :=
    (sSeq (sAsg (eLst (lComp (iRng1 (aCons ((eCB fLen (aCons (eVar 0) aNil))) aNil)) (gN 6) (tTst (eBin dNotIn (eVar 6) (eVar 2))) (eVar 6) [6])) (gN 3))
    (sSeq (sAsgM 4 lDict0)
    (sSeq (sFor (iEnm (aCons (eVar 3) aNil)) ((gT [gN 5, gN 6])) (sPutM 4 (eVar 6) (eVar 5)))
    (sSeq (sAsgL 7 (lLst aNil))
    (sSeq (sFor (iSeq (eVar 3)) (gN 6) (sSeq (sAsg ((eIxN 0 (eVar 6))) (gN 8))
    (sSeq (whileD ((tTst (eBin dIn (eVar 8) (eVar 2)))) (sAsg ((eIxN 0 (eVar 8))) (gN 8)) FUEL)
    (sDrop ((eMO 7 mAppend (aCons ((eIxM 4 (eVar 8))) aNil)))))))
    (sRet ((eTup ((aCons ((eTupO 7)) (aCons ((eCB fTup (aCons ((eLst ((lComp (iSeq (eVar 3)) (gN 6) tYesD ((eGetM 4 ((eIxN 1 (eVar 6))))) [6])))) aNil))) aNil)))))))))))
def f_without : Df := bodyF 9 b_without
def b_split : DS :=
    (sSeq (sDrop ((eCallN 2 f_look_at_half (rCons (eVar 0) (rCons (eVar 1) rNil)))))
    (sSeq (sAsgL 2 (eCL fList (aCons ((eIxN 0 (eC (.int 0)))) aNil)))
    (sSeq (sAsgL 3 (eCL fList (aCons ((eIxN 0 (eC (.int 1)))) aNil)))
    (sSeq (sAsg ((eLenO 2)) (gN 4))
    (sSeq (sAsg ((eIxN 3 (eVar 1))) (gN 5))
    (sSeq (sDrop ((eCallN 2 f_look_at_room (rCons (eVar 0) (rCons ((eBin dAdd (eC (.int 1)) ((eCB fInt (aCons ((eBin dIsnt (eVar 5) (eC .none))) aNil))))) rNil)))))
    (sSeq (sDrop ((eMO 2 mAppend (aCons ((eIxN 2 (eVar 1))) aNil))))
    (sSeq (sSetO 2 (eVar 1) (eVar 4))
    (sSeq (sDrop ((eMO 3 mAppend (aCons (eVar 5) aNil))))
    (sSeq (sIf ((tTst (eBin dIsnt (eVar 5) (eC .none)))) (sSeq (sDrop ((eMO 2 mAppend (aCons ((eIxN 2 (eVar 5))) aNil))))
    (sSeq (sSetO 2 (eVar 5) ((eBin dAdd (eVar 4) (eC (.int 1)))))
    (sSeq (sDrop ((eMO 3 mAppend (aCons (eVar 1) aNil))))
    (sSeq (sSetO 3 (eVar 1) ((eBin dAdd (eVar 4) (eC (.int 1)))))
    (sSetO 3 (eVar 5) (eVar 4)))))) sNx)
    (sRet ((eTup ((aCons ((eTupO 2)) (aCons ((eTupO 3)) aNil))))))))))))))))
def f_split : Df := bodyF 6 b_split
def b_puffed : DS :=
    (sSeq (sDrop ((eCallN 2 f_look_at_half (rCons (eVar 0) (rCons (eVar 1) rNil)))))
    (sSeq (sDrop ((eCallN 2 f_look_at_room (rCons (eVar 0) (rCons (eC (.int 2)) rNil)))))
    (sSeq (sAsg (eVar 0) (gT [gN 2, gN 3]))
    (sSeq (sAsg ((eCB fLen (aCons (eVar 2) aNil))) (gN 4))
    (sSeq (sAsg ((eIxN 3 (eVar 1))) (gN 5))
    (sSeq (sAsgL 3 (eBinL dCat ((eLst ((lListO 3)))) ((eLst ((lLst (aCons (eVar 1) (aCons (eVar 5) aNil))))))))
    (sSeq (sSetO 3 (eVar 1) (eVar 4))
    (sSeq (sIf ((tTst (eBin dIsnt (eVar 5) (eC .none)))) (sSetO 3 (eVar 5) ((eBin dAdd (eVar 4) (eC (.int 1))))) sNx)
    (sRet ((eTup ((aCons ((eBin dAdd (eVar 2) ((eTup ((aCons ((eBin dAdd (eVar 4) (eC (.int 1)))) (aCons (eVar 4) aNil))))))) (aCons ((eTupO 3)) aNil))))))))))))))
def f_puffed : Df := bodyF 6 b_puffed
def b__law_rows_of : DS :=
    (sRetL (lComp (iSeq ((eCallN 2 f__law_walks (rCons (eVar 0) (rCons (eC (.str "patch")) rNil))))) (gN 1) tYesD ((eLst ((eCL fList (aCons (eVar 1) aNil))))) [1]))
def f__law_rows_of : Df := bodyF 2 b__law_rows_of
def b__law_put : DS :=
    (sFor (iSeq (eVar 0)) (gN 4) (sIf ((tTst (eBin dIn (eVar 1) (eVar 4)))) (sSeq (sDrop ((eMO 4 mInsert (aCons ((eBin dAdd ((eIndex (eVar 4) (eVar 1))) (eVar 3))) (aCons (eVar 2) aNil)))))
    sRetN) sNx))
def f__law_put : Df := bodyF 5 b__law_put
def b__law_left_out : DS :=
    (sSeq (sAsg (eLst (lComp (iSeq (eVar 0)) (gN 3) tYesD ((eLst ((lComp (iSeq (eVar 3)) (gN 4) (tTst (eBin dNotIn (eVar 4) (eVar 1))) (eVar 4) [4])))) [3])) (gN 2))
    (sRetL (lComp (iSeq (eVar 2)) (gN 3) (tTst (eBin dNe (eVar 3) ((eLst ((lLst aNil)))))) (eVar 3) [3])))
def f__law_left_out : Df := bodyF 5 b__law_left_out
def b__law_is_rimmed : DS :=
    (sRet ((eBin dIs ((eBin dIx ((eIxN 0 (eC (.int 1)))) ((eBin dIx ((eCallN 2 f__law_knot (rCons (eVar 0) (rCons (eVar 1) rNil)))) (eC (.int 0)))))) (eC .none))))
def f__law_is_rimmed : Df := bodyF 2 b__law_is_rimmed
def b__law_deed : DS :=
    (sSeq (sAsg ((eCB fLen (aCons ((eIxN 1 (eC (.int 0)))) aNil))) (gN 3))
    (sSeq (sAsg ((eIxN 2 ((eCallN 2 f__law_take (rLendC 0 (rCons ((eCB fLen (aCons (eVar 2) aNil))) rNil)))))) (gN 4))
    (sSeq (sAsg ((eCallN 2 f__law_take (rLendC 0 (rCons (eVar 3) rNil)))) (gN 5))
    (sSeq (sAsg (eLst (lComp (iRng1 (aCons (eVar 3) aNil)) (gN 10) (tTst (eBin dIs ((eBin dIx ((eIxN 1 (eC (.int 1)))) (eVar 10))) (eC .none))) (eVar 10) [10])) (gN 6))
    (sSeq (sIf ((tAndD ((tTst (eBin dIn (eVar 4) ((eLst ((lLst (aCons (eC (.str "cap")) (aCons (eC (.str "grow")) (aCons (eC (.str "sew")) aNil)))))))))) ((tAndD ((tTst (eBin dNe (eVar 6) ((eLst ((lLst aNil))))))) ((tTst (eBin dGt ((eCallN 2 f__law_take (rLendC 0 (rCons (eC (.int 4)) rNil)))) (eC (.int 0))))))))) (sAsg ((eIxN 6 ((eCallN 2 f__law_take (rLendC 0 (rCons ((eCB fLen (aCons (eVar 6) aNil))) rNil)))))) (gN 5)) sNx)
    (sSeq (sIf ((tTst (eBin dEq ((eCallN 2 f__law_take (rLendC 0 (rCons (eC (.int 20)) rNil)))) (eC (.int 0))))) (sAsg ((eBin dIx ((eLst ((lLst (aCons (eC (.int (-1))) (aCons (eVar 3) (aCons ((eBin dPow (eC (.int 10)) (eC (.int 8)))) (aCons ((eUn dNeg (eVar 3))) aNil)))))))) ((eCallN 2 f__law_take (rLendC 0 (rCons (eC (.int 4)) rNil)))))) (gN 5)) sNx)
    (sSeq (sIf ((tTst (eBin dNotIn (eVar 4) ((eLst ((lLst (aCons (eC (.str "cut")) (aCons (eC (.str "part")) (aCons (eC (.str "sew")) aNil)))))))))) (sRet ((eTup ((aCons (eVar 4) (aCons (eVar 5) aNil)))))) sNx)
    (sSeq (sAsg ((eLst ((lLst (aCons ((eCallN 2 f__law_take (rLendC 0 (rCons (eVar 3) rNil)))) (aCons (eVar 5) (aCons (eC (.int (-1))) (aCons (eVar 3) aNil)))))))) (gN 7))
    (sSeq (sAsg ((eIxN 7 ((eBin dIx ((eLst ((lLst (aCons (eC (.int 0)) (aCons (eC (.int 0)) (aCons (eC (.int 0)) (aCons (eC (.int 0)) (aCons (eC (.int 0)) (aCons (eC (.int 1)) (aCons (eC (.int 2)) (aCons (eC (.int 3)) aNil)))))))))))) ((eCallN 2 f__law_take (rLendC 0 (rCons (eC (.int 8)) rNil)))))))) (gN 8))
    (sSeq (sIf ((tAndD ((tTst (eChain dLe dLt (eC (.int 0)) (eVar 5) (eVar 3)))) ((tTst (eBin dGt ((eCallN 2 f__law_take (rLendC 0 (rCons (eC (.int 5)) rNil)))) (eC (.int 0))))))) (sSeq (sAsg ((eBin dIx ((eLst ((lLst (aCons ((eCallN 2 f__law_patch (rCons (eVar 1) (rCons (eVar 5) rNil)))) (aCons ((eCallN 2 f__law_knot (rCons (eVar 1) (rCons (eVar 5) rNil)))) (aCons (eVar 6) aNil))))))) ((eIndex ((eLst ((lLst (aCons (eC (.str "cut")) (aCons (eC (.str "part")) (aCons (eC (.str "sew")) aNil))))))) (eVar 4))))) (gN 9))
    (sIf ((tTst (eBin dGt ((eCB fLen (aCons (eVar 9) aNil))) (eC (.int 0))))) (sAsg ((eIxN 9 ((eCallN 2 f__law_take (rLendC 0 (rCons ((eCB fLen (aCons (eVar 9) aNil))) rNil)))))) (gN 8)) sNx)) sNx)
    (sRet ((eTup ((aCons (eVar 4) (aCons (eVar 5) (aCons (eVar 8) aNil)))))))))))))))))
def f__law_deed : Df := bodyF 11 b__law_deed
def b_cut : DS :=
    (sSeq (sDrop ((eCallN 2 f_look_at_half (rCons (eVar 0) (rCons (eVar 1) rNil)))))
    (sSeq (sDrop ((eCallN 2 f_look_at_half (rCons (eVar 0) (rCons (eVar 2) rNil)))))
    (sSeq (sIf ((tTst (eBin dNotIn (eVar 2) ((eCallN 2 f_patch_of (rCons (eVar 0) (rCons (eVar 1) rNil))))))) (sRaise "Unlike") sNx)
    (sSeq (sDrop ((eCallN 2 f_look_at_room (rCons (eVar 0) (rCons (eC (.int 2)) rNil)))))
    (sSeq (sAsgL 3 (eCL fList (aCons ((eIxN 0 (eC (.int 0)))) aNil)))
    (sSeq (sAsg ((eLenO 3)) (gN 4))
    (sSeq (sAsg ((eCallN 2 f_ahead_of (rCons (eVar 0) (rCons (eVar 1) rNil)))) (gN 5))
    (sSeq (sAsg ((eCallN 2 f_ahead_of (rCons (eVar 0) (rCons (eVar 2) rNil)))) (gN 6))
    (sSeq (sIf ((tTst (eBin dEq (eVar 1) (eVar 2)))) (sDrop ((eMO 3 mExtend (aCons ((eLst ((lLst (aCons (eVar 4) (aCons (eVar 2) aNil)))))) aNil)))) (sSeq (sDrop ((eMO 3 mExtend (aCons ((eLst ((lLst (aCons (eVar 1) (aCons (eVar 2) aNil)))))) aNil))))
    (sSetO 3 (eVar 6) (eVar 4))))
    (sSeq (sSetO 3 (eVar 5) ((eBin dAdd (eVar 4) (eC (.int 1)))))
    (sRet ((eTup ((aCons ((eTupO 3)) (aCons ((eBin dAdd ((eIxN 0 (eC (.int 1)))) ((eTup ((aCons ((eBin dAdd (eVar 4) (eC (.int 1)))) (aCons (eVar 4) aNil))))))) aNil))))))))))))))))
def f_cut : Df := bodyF 7 b_cut
def b_with_patches : DS :=
    (sSeq (sAsgL 0 (lListO 0))
    (sSeq (sFor (iSeq (eVar 1)) (gN 2) (sFor (iRng1 (aCons ((eCB fLen (aCons (eVar 2) aNil))) aNil)) (gN 3) (sSetO 0 ((eIxN 2 ((eBin dSub (eVar 3) (eC (.int 1)))))) ((eIxN 2 (eVar 3))))))
    (sRet ((eTupO 0)))))
def f_with_patches : Df := bodyF 4 b_with_patches
def b_is_at_rim : DS :=
    (sRet ((eBin dIs ((eBin dIx ((eIxN 0 (eC (.int 1)))) ((eBin dIx ((eCallN 2 f_round_knot (rCons (eVar 0) (rCons (eVar 1) rNil)))) (eC (.int 0)))))) (eC .none))))
def f_is_at_rim : Df := bodyF 2 b_is_at_rim
def b_parted : DS :=
    (sSeq (sDrop ((eCallN 2 f_look_at_half (rCons (eVar 0) (rCons (eVar 1) rNil)))))
    (sSeq (sDrop ((eCallN 2 f_look_at_half (rCons (eVar 0) (rCons (eVar 2) rNil)))))
    (sSeq (sIf ((tTst (eBin dNotIn (eVar 2) ((eCallN 2 f_round_knot (rCons (eVar 0) (rCons (eVar 1) rNil))))))) (sRaise "Unlike") sNx)
    (sSeq (sDrop ((eCallN 2 f_look_at_room (rCons (eVar 0) (rCons (eC (.int 2)) rNil)))))
    (sSeq (sAsgL 3 (eCL fList (aCons ((eIxN 0 (eC (.int 0)))) aNil)))
    (sSeq (sAsg ((eLenO 3)) (gN 4))
    (sSeq (sAsg ((eCallN 2 f_ahead_of (rCons (eVar 0) (rCons (eVar 1) rNil)))) (gN 5))
    (sSeq (sAsg ((eCallN 2 f_ahead_of (rCons (eVar 0) (rCons (eVar 2) rNil)))) (gN 6))
    (sSeq (sSetO 3 (eVar 5) (eVar 4))
    (sSeq (sIf ((tTst (eBin dEq (eVar 1) (eVar 2)))) (sDrop ((eMO 3 mExtend (aCons ((eLst ((lLst (aCons ((eBin dAdd (eVar 4) (eC (.int 1)))) (aCons (eVar 2) aNil)))))) aNil)))) (sSeq (sDrop ((eMO 3 mExtend (aCons ((eLst ((lLst (aCons (eVar 1) (aCons (eVar 2) aNil)))))) aNil))))
    (sSetO 3 (eVar 6) ((eBin dAdd (eVar 4) (eC (.int 1)))))))
    (sRet ((eTup ((aCons ((eTupO 3)) (aCons ((eBin dAdd ((eIxN 0 (eC (.int 1)))) ((eTup ((aCons ((eBin dAdd (eVar 4) (eC (.int 1)))) (aCons (eVar 4) aNil))))))) aNil))))))))))))))))
def f_parted : Df := bodyF 7 b_parted
def b_capped : DS :=
    (sSeq (sAsg ((eCallN 2 f_rim_of (rCons (eVar 0) (rCons (eVar 1) rNil)))) (gN 2))
    (sSeq (sAsg ((eCB fLen (aCons (eVar 2) aNil))) (gN 3))
    (sSeq (sDrop ((eCallN 2 f_look_at_room (rCons (eVar 0) (rCons (eVar 3) rNil)))))
    (sSeq (sAsg ((eCB fLen (aCons ((eIxN 0 (eC (.int 0)))) aNil))) (gN 4))
    (sSeq (sAsgL 5 (eCL fList (aCons ((eIxN 0 (eC (.int 1)))) aNil)))
    (sSeq (sFor (iRng1 (aCons (eVar 3) aNil)) (gN 6) (sSetO 5 ((eIxN 2 (eVar 6))) ((eBin dAdd (eVar 4) (eVar 6)))))
    (sSeq (sAsg ((eCB fTup (aCons ((eLst ((lComp (iRng1 (aCons (eVar 3) aNil)) (gN 6) tYesD ((eBin dAdd (eVar 4) ((eBin dMod ((eBin dSub (eVar 6) (eC (.int 1)))) (eVar 3))))) [6])))) aNil))) (gN 7))
    (sRet ((eTup ((aCons ((eBin dAdd ((eIxN 0 (eC (.int 0)))) (eVar 7))) (aCons ((eBin dAdd ((eTupO 5)) (eVar 2))) aNil)))))))))))))
def f_capped : Df := bodyF 8 b_capped
def b_sewn : DS :=
    (sSeq (sDrop ((eCallN 2 f_look_at_half (rCons (eVar 0) (rCons (eVar 1) rNil)))))
    (sSeq (sDrop ((eCallN 2 f_look_at_half (rCons (eVar 0) (rCons (eVar 2) rNil)))))
    (sSeq (sAsgL 3 (eCL fList (aCons ((eIxN 0 (eC (.int 1)))) aNil)))
    (sSeq (sIf ((tOrD ((tTst (eBin dIsnt ((eIxN 3 (eVar 1))) (eC .none)))) ((tTst (eBin dIsnt ((eIxN 3 (eVar 2))) (eC .none)))))) (sRaise "NoRim") sNx)
    (sSeq (sIf ((tTst (eBin dEq (eVar 1) (eVar 2)))) (sRaise "Unlike") sNx)
    (sSeq (sSetO 3 (eVar 1) (eVar 2))
    (sSeq (sSetO 3 (eVar 2) (eVar 1))
    (sRet ((eTup ((aCons ((eIxN 0 (eC (.int 0)))) (aCons ((eTupO 3)) aNil)))))))))))))
def f_sewn : Df := bodyF 4 b_sewn
def b_done_with_two : DS :=
    (sSeq (sIf ((tTst (eBin dEq (eVar 1) (eC (.str "cut"))))) (sRet ((eCallN 3 f_cut (rCons (eVar 0) (rCons (eVar 2) (rCons (eVar 3) rNil)))))) sNx)
    (sSeq (sIf ((tTst (eBin dEq (eVar 1) (eC (.str "part"))))) (sRet ((eCallN 3 f_parted (rCons (eVar 0) (rCons (eVar 2) (rCons (eVar 3) rNil)))))) sNx)
    (sRet ((eCallN 3 f_sewn (rCons (eVar 0) (rCons (eVar 2) (rCons (eVar 3) rNil))))))))
def f_done_with_two : Df := bodyF 4 b_done_with_two
def b__law_words : DS :=
    (sSeq (sAsg ((eLst ((lLst (aCons (eC (.str "split")) (aCons (eC (.str "merge")) (aCons (eC (.str "cut")) (aCons (eC (.str "join")) (aCons (eC (.str "turn")) (aCons (eC (.str "unturn")) (aCons (eC (.str "fold")) (aCons (eC (.str "puff")) (aCons (eC (.str "draw")) (aCons (eC (.str "part")) (aCons (eC (.str "grow")) (aCons (eC (.str "cap")) (aCons (eC (.str "open")) aNil))))))))))))))))) (gN 0))
    (sRet ((eLst ((eBinL dCat (eVar 0) ((eLst ((lLst (aCons (eC (.str "sew")) (aCons (eC (.str "rip")) aNil))))))))))))
def f__law_words : Df := bodyF 1 b__law_words
def b_is_deed : DS :=
    (sSeq (sIf ((tOrD ((tNotD ((tTst (eIsi "tuple" (eVar 0)))))) ((tOrD ((tTst (eBin dLt ((eCB fLen (aCons (eVar 0) aNil))) (eC (.int 2))))) ((tNotD ((tTst (eIsi "str" ((eIxN 0 (eC (.int 0))))))))))))) (sRet (eC (.bool false))) sNx)
    (sSeq (sIf ((tNotD ((tTst (eCB fAll (aCons ((eLst ((lComp (iSeq ((eSl (eVar 0) (.of (eC (.int 1))) .no))) (gN 1) tYesD ((eCallN 1 f_is_whole (rCons (eVar 1) rNil))) [1])))) aNil)))))) (sRet (eC (.bool false))) sNx)
    (sRet ((eOr ((eAnd ((eBin dIn ((eIxN 0 (eC (.int 0)))) (eC (.tuple (c_ONES.map PyData.str))))) ((eBin dEq ((eCB fLen (aCons (eVar 0) aNil))) (eC (.int 2)))))) ((eAnd ((eBin dIn ((eIxN 0 (eC (.int 0)))) (eC (.tuple (c_TWOS.map PyData.str))))) ((eBin dEq ((eCB fLen (aCons (eVar 0) aNil))) (eC (.int 3)))))))))))
def f_is_deed : Df := bodyF 2 b_is_deed
def b__law_is_deed : DS :=
    (sSeq (sIf ((tOrD ((tNotD ((tTst (eIsi "tuple" (eVar 0)))))) ((tOrD ((tTst (eBin dEq (eVar 0) ((eTup (aNil)))))) ((tNotD ((tTst (eIsi "str" ((eIxN 0 (eC (.int 0))))))))))))) (sRet (eC (.bool false))) sNx)
    (sSeq (sAsg ((eGet2 ((eDct ((lDisp [(eC (.str "cut"), eC (.int 3)), (eC (.str "part"), eC (.int 3)), (eC (.str "sew"), eC (.int 3))])))) ((eIxN 0 (eC (.int 0)))) (eC (.int 2)))) (gN 1))
    (sSeq (sIf ((tOrD ((tTst (eBin dNotIn ((eIxN 0 (eC (.int 0)))) ((eCall0 f__law_words))))) ((tTst (eBin dNe ((eCB fLen (aCons (eVar 0) aNil))) (eVar 1)))))) (sRet (eC (.bool false))) sNx)
    (sRet ((eBin dEq ((eLst ((lComp (iSeq ((eSl (eVar 0) (.of (eC (.int 1))) .no))) (gN 2) (tOrD ((tNotD ((tTst (eIsi "int" (eVar 2)))))) ((tTst (eIsi "bool" (eVar 2))))) (eVar 2) [2])))) ((eLst ((lLst aNil))))))))))
def f__law_is_deed : Df := bodyF 3 b__law_is_deed
def b__law_wide : DS :=
    (sSeq (sAsg ((eBin dAdd (eC (.int 396)) ((eCallN 2 f__law_take (rLendC 0 (rCons (eC (.int 5)) rNil)))))) (gN 1))
    (sSeq (sAsg ((eBin dIx ((eLst ((lLst (aCons (eC (.int 1)) (aCons (eC (.int 2)) (aCons (eC (.int 3)) (aCons (eC (.int 4)) (aCons (eVar 1) aNil))))))))) ((eCallN 2 f__law_take (rLendC 0 (rCons (eC (.int 5)) rNil)))))) (gN 2))
    (sSeq (sAsgL 3 (lLst aNil))
    (sSeq (sFor (iRng1 (aCons (eVar 1) aNil)) (gN 4) (sSeq (sAsg ((eBin dMul ((eBin dFdiv (eVar 4) (eVar 2))) (eVar 2))) (gN 5))
    (sDrop ((eMO 3 mAppend (aCons ((eBin dAdd (eVar 5) ((eBin dMod ((eBin dAdd ((eBin dSub (eVar 4) (eVar 5))) (eC (.int 1)))) ((eCB fMin (aCons (eVar 2) (aCons ((eBin dSub (eVar 1) (eVar 5))) aNil)))))))) aNil))))))
    (sSeq (sAsgL 6 (lRep (lLst (aCons (eC .none) aNil)) (eVar 1)))
    (sSeq (sAsg ((eCallN 2 f__law_take (rLendC 0 (rCons (eC (.int 2)) rNil)))) (gN 7))
    (sSeq (sFor (iRng1 (aCons ((eBin dFdiv ((eBin dSub (eVar 1) (eVar 7))) (eC (.int 2)))) aNil)) (gN 8) (sIf ((tTst (eBin dGt ((eCallN 2 f__law_take (rLendC 0 (rCons (eC (.int 9)) rNil)))) (eC (.int 0))))) (sSeq (sSetO 6 ((eBin dAdd ((eBin dMul (eC (.int 2)) (eVar 8))) (eVar 7))) ((eBin dAdd ((eBin dAdd ((eBin dMul (eC (.int 2)) (eVar 8))) (eVar 7))) (eC (.int 1)))))
    (sSetO 6 ((eBin dAdd ((eBin dAdd ((eBin dMul (eC (.int 2)) (eVar 8))) (eVar 7))) (eC (.int 1)))) ((eBin dAdd ((eBin dMul (eC (.int 2)) (eVar 8))) (eVar 7))))) sNx))
    (sRet ((eTup ((aCons ((eTupO 3)) (aCons ((eTupO 6)) aNil)))))))))))))
def f__law_wide : Df := bodyF 9 b__law_wide
def b_number_behind : DS :=
    (sRet ((eBin dSub (eVar 1) ((eCB fLen (aCons ((eLst ((lComp (iSeq (eVar 0)) (gN 2) (tTst (eBin dLt (eVar 2) (eVar 1))) (eVar 2) [2])))) aNil))))))
def f_number_behind : Df := bodyF 3 b_number_behind
def b_taken_by : DS :=
    (sSeq (sAsg ((eIxN 1 (eC (.int 0)))) (gN 2))
    (sSeq (sAsg ((eIxN 1 (eC (.int 1)))) (gN 3))
    (sSeq (sAsg ((eBin dIx ((eIxN 0 (eC (.int 1)))) (eVar 3))) (gN 4))
    (sSeq (sAsg ((eBin dIx ((eIxN 0 (eC (.int 0)))) (eVar 3))) (gN 5))
    (sSeq (sAsg ((eLst ((lLst aNil)))) (gN 6))
    (sSeq (sIf ((tTst (eBin dEq (eVar 2) (eC (.str "merge"))))) (sAsg ((eLst ((lLst (aCons (eVar 5) (aCons (eVar 4) aNil)))))) (gN 6)) (sIf ((tOrD ((tTst (eBin dEq (eVar 2) (eC (.str "join"))))) ((tTst (eBin dEq (eVar 2) (eC (.str "draw"))))))) (sAsg ((eLst ((lLst (aCons (eVar 3) (aCons (eVar 4) aNil)))))) (gN 6)) (sIf ((tTst (eBin dEq (eVar 2) (eC (.str "fold"))))) (sAsg ((eLst ((lLst (aCons (eVar 3) (aCons (eVar 5) aNil)))))) (gN 6)) (sIf ((tTst (eBin dEq (eVar 2) (eC (.str "open"))))) (sAsg ((eLst ((eCL fList (aCons ((eCallN 2 f_patch_of (rCons (eVar 0) (rCons (eVar 3) rNil)))) aNil))))) (gN 6)) sNx))))
    (sRet ((eLst ((lComp (iSeq (eVar 6)) (gN 7) (tTst (eBin dIsnt (eVar 7) (eC .none))) (eVar 7) [7])))))))))))
def f_taken_by : Df := bodyF 8 b_taken_by
def b_back_of_taking : DS :=
    (sSeq (sAsg ((eIxN 1 (eC (.int 0)))) (gN 2))
    (sSeq (sAsg ((eIxN 1 (eC (.int 1)))) (gN 3))
    (sSeq (sAsg ((eBin dIx ((eIxN 0 (eC (.int 1)))) (eVar 3))) (gN 4))
    (sSeq (sAsg ((eBin dIx ((eIxN 0 (eC (.int 0)))) (eVar 3))) (gN 5))
    (sSeq (sIf ((tTst (eBin dEq (eVar 2) (eC (.str "merge"))))) (sRet ((eTup ((aCons (eC (.str "split")) (aCons (eVar 3) aNil)))))) sNx)
    (sSeq (sIf ((tTst (eBin dEq (eVar 2) (eC (.str "open"))))) (sRet ((eTup ((aCons (eC (.str "cap")) (aCons (eVar 4) aNil)))))) sNx)
    (sSeq (sIf ((tTst (eBin dEq (eVar 2) (eC (.str "fold"))))) (sRet ((eTup ((aCons (eC (.str "puff")) (aCons ((eIf ((tTst (eBin dIs (eVar 4) (eC .none)))) ((eBin dIx ((eIxN 0 (eC (.int 1)))) (eVar 5))) (eVar 4))) aNil)))))) sNx)
    (sSeq (sIf ((tTst (eBin dIs (eVar 4) (eC .none)))) (sRet ((eTup ((aCons (eC (.str "grow")) (aCons (eVar 5) aNil)))))) sNx)
    (sSeq (sAsg ((eBin dIx ((eIxN 0 (eC (.int 0)))) (eVar 4))) (gN 6))
    (sSeq (sIf ((tTst (eBin dEq (eVar 2) (eC (.str "join"))))) (sSeq (sIf ((tTst (eBin dEq (eVar 5) (eVar 3)))) (sRet ((eTup ((aCons (eC (.str "cut")) (aCons (eVar 6) (aCons (eVar 6) aNil))))))) sNx)
    (sRet ((eTup ((aCons (eC (.str "cut")) (aCons (eVar 5) (aCons ((eIf ((tTst (eBin dEq (eVar 6) (eVar 4)))) (eVar 5) (eVar 6))) aNil)))))))) sNx)
    (sSeq (sIf ((tTst (eBin dEq (eVar 5) (eVar 4)))) (sRet ((eTup ((aCons (eC (.str "part")) (aCons (eVar 6) (aCons (eVar 6) aNil))))))) sNx)
    (sRet ((eTup ((aCons (eC (.str "part")) (aCons (eVar 5) (aCons ((eIf ((tTst (eBin dEq (eVar 6) (eVar 3)))) (eVar 5) (eVar 6))) aNil))))))))))))))))))
def f_back_of_taking : Df := bodyF 7 b_back_of_taking
def b_back_of_leaving : DS :=
    (sSeq (sAsg ((eCB fLen (aCons ((eIxN 0 (eC (.int 0)))) aNil))) (gN 2))
    (sSeq (sAsg ((eIxN 1 (eC (.int 0)))) (gN 3))
    (sSeq (sIf ((tTst (eBin dEq (eVar 3) (eC (.str "rip"))))) (sRet ((eTup ((aCons (eC (.str "sew")) (aCons ((eIxN 1 (eC (.int 1)))) (aCons ((eBin dIx ((eIxN 0 (eC (.int 1)))) ((eIxN 1 (eC (.int 1)))))) aNil))))))) sNx)
    (sSeq (sAsgM 4 (lDisp [(eC (.str "split"), eC (.str "merge")), (eC (.str "turn"), eC (.str "unturn")), (eC (.str "unturn"), eC (.str "turn")), (eC (.str "sew"), eC (.str "rip"))]))
    (sSeq (sIf ((tTst (eInM (eVar 3) 4))) (sRet ((eTup ((aCons ((eIxM 4 (eVar 3))) (aCons ((eIxN 1 (eC (.int 1)))) aNil)))))) sNx)
    (sSeq (sAsgM 4 (lDisp [(eC (.str "cut"), eC (.str "join")), (eC (.str "part"), eC (.str "draw")), (eC (.str "grow"), eC (.str "draw")), (eC (.str "puff"), eC (.str "fold")), (eC (.str "cap"), eC (.str "open"))]))
    (sRet ((eTup ((aCons ((eIxM 4 (eVar 3))) (aCons (eVar 2) aNil))))))))))))
def f_back_of_leaving : Df := bodyF 5 b_back_of_leaving
def b__law_order : DS :=
    (sSeq (sAsgL 2 (lLst (aCons (eVar 1) aNil)))
    (sSeq (sAsgM 3 (lDisp [(eVar 1, eC (.bool true))]))
    (sSeq (sAsg (eC (.int 0)) (gN 4))
    (sSeq (whileD ((tTst (eBin dLt (eVar 4) ((eLenO 2))))) (sSeq (sFor (iSeq ((eTup ((aCons ((eBin dIx ((eIxN 0 (eC (.int 0)))) ((eIxN 2 (eVar 4))))) (aCons ((eBin dIx ((eIxN 0 (eC (.int 1)))) ((eIxN 2 (eVar 4))))) aNil)))))) (gN 5) (sIf ((tAndD ((tTst (eBin dIsnt (eVar 5) (eC .none)))) ((tTst (eNotInM (eVar 5) 3))))) (sSeq (sPutM 3 (eVar 5) (eC (.bool true)))
    (sDrop ((eMO 2 mAppend (aCons (eVar 5) aNil))))) sNx))
    (sAsg ((eBin dAdd (eVar 4) (eC (.int 1)))) (gN 4))) FUEL)
    (sRet (eVar 2))))))
def f__law_order : Df := bodyF 6 b__law_order
def b__law_whole : DS :=
    (sSeq (sAsg ((eBin dAdd (eC (.int 2)) ((eBin dMul (eC (.int 2)) ((eCallN 2 f__law_take (rLendC 0 (rCons (eC (.int 10)) rNil)))))))) (gN 1))
    (sSeq (sAsgL 2 (lRange1 (eVar 1)))
    (sSeq (sAsgL 3 (lRep (lLst (aCons (eC .none) aNil)) (eVar 1)))
    (sSeq (whileD ((tTst (eBin dNe (eVar 2) ((eLst ((lLst aNil))))))) (sSeq (sAsg ((eMO 2 mPopAt (aCons ((eCallN 2 f__law_take (rLendC 0 (rCons ((eLenO 2)) rNil)))) aNil))) (gN 4))
    (sSeq (sAsg ((eMO 2 mPopAt (aCons ((eCallN 2 f__law_take (rLendC 0 (rCons ((eLenO 2)) rNil)))) aNil))) (gN 5))
    (sSeq (sSetO 3 (eVar 4) (eVar 5))
    (sSetO 3 (eVar 5) (eVar 4))))) FUEL)
    (sRet ((eTup ((aCons ((eCB fTup (aCons ((eLst ((lComp (iRng1 (aCons (eVar 1) aNil)) (gN 6) tYesD ((eBin dMod ((eBin dAdd (eVar 6) (eC (.int 1)))) (eVar 1))) [6])))) aNil))) (aCons ((eTupO 3)) aNil))))))))))
def f__law_whole : Df := bodyF 7 b__law_whole
def b_corners_of : DS :=
    (sSeq (sAsg ((eCallN 1 f_knot_places (rCons (eVar 0) rNil))) (gN 1))
    (sRet ((eLst ((lComp (iSeq ((eCallN 1 f_patches (rCons (eVar 0) rNil)))) (gN 2) tYesD ((eCB fTup (aCons ((eLst ((eCL fSort (aCons ((eLst ((lComp (iSeq (eVar 2)) (gN 3) tYesD ((eIxN 1 (eVar 3))) [3])))) aNil))))) aNil))) [2]))))))
def f_corners_of : Df := bodyF 4 b_corners_of
def b_ends_of : DS :=
    (sSeq (sAsg ((eCallN 1 f_knot_places (rCons (eVar 0) rNil))) (gN 1))
    (sSeq (sAsgL 2 (lLst aNil))
    (sSeq (sFor (iSeq ((eCallN 1 f_seams (rCons (eVar 0) rNil)))) (gN 3) (sDrop ((eMO 2 mAppend (aCons ((eCB fTup (aCons ((eLst ((eCL fSort (aCons ((eLst ((lLst (aCons ((eIxN 1 ((eIxN 3 (eC (.int 0)))))) (aCons ((eIxN 1 ((eBin dIx ((eIxN 0 (eC (.int 0)))) ((eIxN 3 (eC (.int 0)))))))) aNil)))))) aNil))))) aNil))) aNil)))))
    (sRet (eVar 2)))))
def f_ends_of : Df := bodyF 4 b_ends_of
def b__law_skin_of : DS :=
    (sSeq (sAsgM 1 lDict0)
    (sSeq (sAsgL 2 (lLst aNil))
    (sSeq (sAsgL 3 (lLst aNil))
    (sSeq (sFor (iSeq (eVar 0)) (gN 4) (sSeq (sAsg ((eLenO 3)) (gN 5))
    (sFor (iRng1 (aCons ((eCB fLen (aCons (eVar 4) aNil))) aNil)) (gN 6) (sSeq (sDrop ((eMO 3 mAppend (aCons ((eTup ((aCons ((eIxN 4 (eVar 6))) (aCons ((eIxN 4 ((eBin dMod ((eBin dAdd (eVar 6) (eC (.int 1)))) ((eCB fLen (aCons (eVar 4) aNil))))))) aNil))))) aNil))))
    (sDrop ((eMO 2 mAppend (aCons ((eBin dAdd (eVar 5) ((eBin dMod ((eBin dAdd (eVar 6) (eC (.int 1)))) ((eCB fLen (aCons (eVar 4) aNil))))))) aNil))))))))
    (sSeq (sFor (iRng1 (aCons ((eLenO 3)) aNil)) (gN 7) (sPutM 1 ((eIxN 3 (eVar 7))) (eVar 7)))
    (sRet ((eTup ((aCons ((eTupO 2)) (aCons ((eCB fTup (aCons ((eLst ((lComp (iSeq (eVar 3)) (gN 8) tYesD ((eGetM 1 ((eTup ((aCons ((eIxN 8 (eC (.int 1)))) (aCons ((eIxN 8 (eC (.int 0)))) aNil))))))) [8])))) aNil))) aNil)))))))))))
def f__law_skin_of : Df := bodyF 9 b__law_skin_of
def b_joined_to : DS :=
    (sSeq (sAsgM 2 lDict0)
    (sSeq (sFor (iSeq (eVar 0)) ((gT [gN 3, gN 4])) (sSeq (sIf ((tTst (eBin dEq (eVar 3) (eVar 1)))) (sPutM 2 (eVar 4) (eC (.bool true))) sNx)
    (sIf ((tTst (eBin dEq (eVar 4) (eVar 1)))) (sPutM 2 (eVar 3) (eC (.bool true))) sNx)))
    (sRet (eVar 2))))
def f_joined_to : Df := bodyF 5 b_joined_to
def b__law_shrunk_rows : DS :=
    (sSeq (sAsgL 3 (lLst aNil))
    (sSeq (sFor (iSeq (eVar 0)) (gN 4) (sIf ((tNotD ((tAndD ((tTst (eBin dIn (eVar 1) (eVar 4)))) ((tTst (eBin dIn (eVar 2) (eVar 4)))))))) (sDrop ((eMO 3 mAppend (aCons ((eCB fTup (aCons ((eLst ((lComp (iSeq (eVar 4)) (gN 5) tYesD ((eIf ((tTst (eBin dEq (eVar 5) (eVar 2)))) (eVar 1) (eVar 5))) [5])))) aNil))) aNil)))) sNx))
    (sRet (eVar 3))))
def f__law_shrunk_rows : Df := bodyF 6 b__law_shrunk_rows
def b_mirrored : DS :=
    (sSeq (sAsgL 1 (lRep (lLst (aCons (eC (.int 0)) aNil)) ((eCB fLen (aCons ((eIxN 0 (eC (.int 0)))) aNil)))))
    (sSeq (sFor (iEnm (aCons ((eIxN 0 (eC (.int 0)))) aNil)) ((gT [gN 2, gN 3])) (sSetO 1 (eVar 3) (eVar 2)))
    (sRet ((eTup ((aCons ((eTupO 1)) (aCons ((eIxN 0 (eC (.int 1)))) aNil))))))))
def f_mirrored : Df := bodyF 4 b_mirrored
def b__law_mirror : DS :=
    (sRet ((eTup ((aCons ((eCB fTup (aCons ((eLst ((lComp (iRng1 (aCons ((eCB fLen (aCons ((eIxN 0 (eC (.int 0)))) aNil))) aNil)) (gN 1) tYesD ((eIndex ((eIxN 0 (eC (.int 0)))) (eVar 1))) [1])))) aNil))) (aCons ((eIxN 0 (eC (.int 1)))) aNil))))))
def f__law_mirror : Df := bodyF 2 b__law_mirror
def b__law_orders : DS :=
    (sSeq (sAsg ((eLst ((lLst (aCons ((eTup (aNil))) aNil))))) (gN 1))
    (sSeq (sFor (iRng1 (aCons (eVar 0) aNil)) (gN 2) (sSeq (sAsgL 3 (lLst aNil))
    (sSeq (sFor (iSeq (eVar 1)) (gN 4) (sDrop ((eMO 3 mExtend (aCons ((eLst ((lComp (iRng1 (aCons (eVar 0) aNil)) (gN 5) (tTst (eBin dNotIn (eVar 5) (eVar 4))) ((eBin dAdd (eVar 4) ((eTup ((aCons (eVar 5) aNil)))))) [5])))) aNil)))))
    (sAsg (eVar 3) (gN 1)))))
    (sRet (eVar 1))))
def f__law_orders : Df := bodyF 6 b__law_orders
def b__law_another : DS :=
    (sSeq (sAsg ((eCallN 2 f__law_take (rLendC 0 (rCons (eC (.int 4)) rNil)))) (gN 2))
    (sSeq (sIf ((tTst (eBin dEq (eVar 2) (eC (.int 0))))) (sRet ((eCallN 2 f__law_skin (rLendC 0 (rCons (eC (.int 6)) rNil))))) sNx)
    (sSeq (sIf ((tTst (eBin dEq (eVar 2) (eC (.int 1))))) (sAsg ((eTup ((aCons ((eCB fTup (aCons ((eLst ((lComp (iRng1 (aCons ((eCB fLen (aCons ((eIxN 1 (eC (.int 0)))) aNil))) aNil)) (gN 4) tYesD ((eIndex ((eIxN 1 (eC (.int 0)))) (eVar 4))) [4])))) aNil))) (aCons ((eIxN 1 (eC (.int 1)))) aNil))))) (gN 1)) sNx)
    (sSeq (sIf ((tTst (eBin dEq (eVar 2) (eC (.int 2))))) (sSeq (sAsg (eLst (lComp (iEnm (aCons ((eIxN 1 (eC (.int 1)))) aNil)) (gT [gN 4, gN 5]) tYesD ((eIf ((tOrD ((tTst (eBin dEq (eVar 4) (eC (.int 0))))) ((tTst (eBin dEq (eVar 5) (eC (.int 0))))))) (eC .none) (eVar 5))) [4, 5])) (gN 3))
    (sAsg ((eTup ((aCons ((eIxN 1 (eC (.int 0)))) (aCons ((eCB fTup (aCons (eVar 3) aNil))) aNil))))) (gN 1))) sNx)
    (sRet ((eBin dIx ((eCallN 2 f__law_renumbered (rLendC 0 (rCons (eVar 1) rNil)))) (eC (.int 0)))))))))
def f__law_another : Df := bodyF 6 b__law_another
def b__law_known : DS :=
    (sSeq (sAsg ((eLst ((lLst (aCons ((eTup ((aCons (eC (.int 0)) (aCons (eC (.int 1)) (aCons (eC (.int 2)) aNil)))))) (aCons ((eTup ((aCons (eC (.int 0)) (aCons (eC (.int 2)) (aCons (eC (.int 3)) aNil)))))) (aCons ((eTup ((aCons (eC (.int 0)) (aCons (eC (.int 3)) (aCons (eC (.int 1)) aNil)))))) (aCons ((eTup ((aCons (eC (.int 1)) (aCons (eC (.int 3)) (aCons (eC (.int 2)) aNil)))))) aNil)))))))) (gN 0))
    (sSeq (sAsg ((eLst ((lLst (aCons ((eTup ((aCons (eC (.int 0)) (aCons (eC (.int 3)) (aCons (eC (.int 2)) (aCons (eC (.int 1)) aNil))))))) (aCons ((eTup ((aCons (eC (.int 4)) (aCons (eC (.int 5)) (aCons (eC (.int 6)) (aCons (eC (.int 7)) aNil))))))) (aCons ((eTup ((aCons (eC (.int 0)) (aCons (eC (.int 1)) (aCons (eC (.int 5)) (aCons (eC (.int 4)) aNil))))))) (aCons ((eTup ((aCons (eC (.int 1)) (aCons (eC (.int 2)) (aCons (eC (.int 6)) (aCons (eC (.int 5)) aNil))))))) (aCons ((eTup ((aCons (eC (.int 2)) (aCons (eC (.int 3)) (aCons (eC (.int 7)) (aCons (eC (.int 6)) aNil))))))) (aCons ((eTup ((aCons (eC (.int 3)) (aCons (eC (.int 0)) (aCons (eC (.int 4)) (aCons (eC (.int 7)) aNil))))))) aNil)))))))))) (gN 1))
    (sSeq (sAsgL 2 (lLst (aCons ((eTup ((aCons (eC (.int 0)) (aCons (eC (.int 1)) (aCons (eC (.int 2)) (aCons (eC (.int 3)) (aCons (eC (.int 4)) aNil)))))))) aNil)))
    (sSeq (sFor (iRng1 (aCons (eC (.int 5)) aNil)) (gN 3) (sDrop ((eMO 2 mAppend (aCons ((eTup ((aCons ((eBin dMod ((eBin dAdd (eVar 3) (eC (.int 1)))) (eC (.int 5)))) (aCons (eVar 3) (aCons ((eBin dAdd (eC (.int 5)) (eVar 3))) (aCons ((eBin dAdd (eC (.int 10)) (eVar 3))) (aCons ((eBin dAdd (eC (.int 5)) ((eBin dMod ((eBin dAdd (eVar 3) (eC (.int 1)))) (eC (.int 5)))))) aNil)))))))) aNil)))))
    (sSeq (sFor (iRng1 (aCons (eC (.int 5)) aNil)) (gN 3) (sDrop ((eMO 2 mAppend (aCons ((eTup ((aCons ((eBin dAdd (eC (.int 10)) (eVar 3))) (aCons ((eBin dAdd (eC (.int 5)) (eVar 3))) (aCons ((eBin dAdd (eC (.int 10)) ((eBin dMod ((eBin dAdd (eVar 3) (eC (.int 4)))) (eC (.int 5)))))) (aCons ((eBin dAdd (eC (.int 15)) ((eBin dMod ((eBin dAdd (eVar 3) (eC (.int 4)))) (eC (.int 5)))))) (aCons ((eBin dAdd (eC (.int 15)) (eVar 3))) aNil)))))))) aNil)))))
    (sSeq (sDrop ((eMO 2 mAppend (aCons ((eTup ((aCons (eC (.int 19)) (aCons (eC (.int 18)) (aCons (eC (.int 17)) (aCons (eC (.int 16)) (aCons (eC (.int 15)) aNil)))))))) aNil))))
    (sRet ((eLst ((lLst (aCons ((eTup ((aCons (eVar 0) (aCons (eC (.int 12)) aNil))))) (aCons ((eTup ((aCons (eVar 1) (aCons (eC (.int 24)) aNil))))) (aCons ((eTup ((aCons (eVar 2) (aCons (eC (.int 60)) aNil))))) aNil))))))))))))))
def f__law_known : Df := bodyF 4 b__law_known
def b__law_closed_net : DS :=
    (sSeq (sAsgL 1 (lLst aNil))
    (sSeq (sFor (iRng1 (aCons ((eBin dMul (eVar 0) (eVar 0))) aNil)) (gN 2) (sSeq (sAsg ((eBin dMod (eVar 2) (eVar 0))) (gN 3))
    (sSeq (sAsg ((eBin dFdiv (eVar 2) (eVar 0))) (gN 4))
    (sSeq (sAsg ((eBin dMod ((eBin dAdd (eVar 3) (eC (.int 1)))) (eVar 0))) (gN 5))
    (sSeq (sAsg ((eBin dMod ((eBin dAdd (eVar 4) (eC (.int 1)))) (eVar 0))) (gN 6))
    (sDrop ((eMO 1 mAppend (aCons ((eTup ((aCons ((eBin dAdd ((eBin dMul (eVar 4) (eVar 0))) (eVar 3))) (aCons ((eBin dAdd ((eBin dMul (eVar 4) (eVar 0))) (eVar 5))) (aCons ((eBin dAdd ((eBin dMul (eVar 6) (eVar 0))) (eVar 5))) (aCons ((eBin dAdd ((eBin dMul (eVar 6) (eVar 0))) (eVar 3))) aNil))))))) aNil)))))))))
    (sRet (eVar 1))))
def f__law_closed_net : Df := bodyF 7 b__law_closed_net
def b__law_mated : DS :=
    (sSeq (sAsgL 2 (lRange1 ((eBin dMul ((eBin dFdiv ((eCB fLen (aCons ((eIxN 1 (eC (.int 0)))) aNil))) (eC (.int 2)))) (eC (.int 2))))))
    (sSeq (sAsgL 3 (lRep (lLst (aCons (eC .none) aNil)) ((eCB fLen (aCons ((eIxN 1 (eC (.int 0)))) aNil)))))
    (sSeq (whileD ((tTst (eBin dNe (eVar 2) ((eLst ((lLst aNil))))))) (sSeq (sAsg ((eMO 2 mPopAt (aCons ((eCallN 2 f__law_take (rLendC 0 (rCons ((eLenO 2)) rNil)))) aNil))) (gN 4))
    (sSeq (sAsg ((eMO 2 mPopAt (aCons ((eCallN 2 f__law_take (rLendC 0 (rCons ((eLenO 2)) rNil)))) aNil))) (gN 5))
    (sSeq (sSetO 3 (eVar 4) (eVar 5))
    (sSetO 3 (eVar 5) (eVar 4))))) FUEL)
    (sRet ((eTup ((aCons ((eIxN 1 (eC (.int 0)))) (aCons ((eTupO 3)) aNil)))))))))
def f__law_mated : Df := bodyF 6 b__law_mated
def b__law_finer : DS :=
    (sSeq (sAsg ((eCB fLen (aCons ((eIxN 0 (eC (.int 0)))) aNil))) (gN 1))
    (sSeq (sAsgL 2 (lLst aNil))
    (sSeq (sAsgL 3 (lLst aNil))
    (sSeq (sFor (iRng1 (aCons (eVar 1) aNil)) (gN 4) (sSeq (sDrop ((eMO 2 mExtend (aCons ((eLst ((lLst (aCons ((eBin dAdd ((eBin dMul (eC (.int 4)) (eVar 4))) (eC (.int 1)))) (aCons ((eBin dAdd ((eBin dMul (eC (.int 4)) (eVar 4))) (eC (.int 2)))) (aCons ((eBin dMul (eC (.int 4)) (eVar 4))) (aCons ((eBin dAdd ((eBin dMul (eC (.int 4)) ((eBin dIx ((eIxN 0 (eC (.int 0)))) (eVar 4))))) (eC (.int 3)))) aNil)))))))) aNil))))
    (sDrop ((eMO 3 mExtend (aCons ((eLst ((lLst (aCons (eC .none) (aCons ((eBin dAdd ((eBin dMul (eC (.int 4)) (eVar 4))) (eC (.int 3)))) (aCons (eC .none) (aCons ((eBin dAdd ((eBin dMul (eC (.int 4)) (eVar 4))) (eC (.int 1)))) aNil)))))))) aNil))))))
    (sSeq (sFor (iRng1 (aCons (eVar 1) aNil)) (gN 4) (sSeq (sAsg ((eBin dIx ((eIxN 0 (eC (.int 1)))) (eVar 4))) (gN 5))
    (sIf ((tTst (eBin dIsnt (eVar 5) (eC .none)))) (sSeq (sSetO 3 ((eBin dMul (eC (.int 4)) (eVar 4))) ((eBin dAdd ((eBin dMul (eC (.int 4)) ((eBin dIx ((eIxN 0 (eC (.int 0)))) (eVar 5))))) (eC (.int 2)))))
    (sSetO 3 ((eBin dAdd ((eBin dMul (eC (.int 4)) ((eBin dIx ((eIxN 0 (eC (.int 0)))) (eVar 5))))) (eC (.int 2)))) ((eBin dMul (eC (.int 4)) (eVar 4))))) sNx)))
    (sRet ((eTup ((aCons ((eTupO 2)) (aCons ((eTupO 3)) aNil)))))))))))
def f__law_finer : Df := bodyF 6 b__law_finer
def b_look_at_far : DS :=
    (sSeq (sIf ((tOrD ((tTst (eBin dLt (eVar 1) (eC (.int 0))))) ((tTst (eBin dGt (eVar 1) (eC (.int 60))))))) (sRaise "TooMany") sNx)
    (sSeq (sAsg ((eCB fLen (aCons ((eIxN 0 (eC (.int 0)))) aNil))) (gN 3))
    (sSeq (sFor (iRng1 (aCons (eVar 1) aNil)) (gN 4) (sAsg ((eBin dMul (eC (.int 4)) (eVar 3))) (gN 3)))
    (sIf ((tOrD ((tTst (eBin dLt (eVar 2) (eC (.int 0))))) ((tTst (eBin dGe (eVar 2) (eVar 3)))))) (sRaise "NoHalf") sNx))))
def f_look_at_far : Df := bodyF 5 b_look_at_far
def b_is_mark : DS :=
    (sSeq (sIf ((tTst (eBin dIs (eVar 0) (eC .none)))) (sRet (eC (.bool true))) sNx)
    (sSeq (sIf ((tOrD ((tNotD ((tTst (eIsi "str" (eVar 0)))))) ((tOrD ((tTst (eBin dLt ((eCB fLen (aCons (eVar 0) aNil))) (eC (.int 1))))) ((tTst (eBin dGt ((eCB fLen (aCons (eVar 0) aNil))) (eC (.int 8))))))))) (sRet (eC (.bool false))) sNx)
    (sRet ((eCB fAll (aCons ((eLst ((lComp (iSeq (eVar 0)) (gN 1) tYesD ((eBin dIn (eVar 1) (eC (.str "abcdefghijklmnopqrstuvwxyz")))) [1])))) aNil))))))
def f_is_mark : Df := bodyF 2 b_is_mark
def b_look_at_marks : DS :=
    (sSeq (sIf ((tOrD ((tNotD ((tTst (eIsi "tuple" (eVar 1)))))) ((tTst (eBin dNe ((eCB fLen (aCons (eVar 1) aNil))) ((eCB fLen (aCons ((eIxN 0 (eC (.int 0)))) aNil)))))))) (sRaise "NoMarks") sNx)
    (sIf ((tNotD ((tTst (eCB fAll (aCons ((eLst ((lComp (iSeq (eVar 1)) (gN 2) tYesD ((eCallN 1 f_is_mark (rCons (eVar 2) rNil))) [2])))) aNil)))))) (sRaise "NoMarks") sNx))
def f_look_at_marks : Df := bodyF 3 b_look_at_marks
def b__law_no_marks : DS :=
    (sSeq (sAsg ((eCallN 2 f__law_take (rLendC 0 (rCons ((eCB fLen (aCons (eVar 1) aNil))) rNil)))) (gN 2))
    (sSeq (sAsg ((eBin dIx ((eLst ((lLst (aCons (eC (.str "")) (aCons ((eBin dMul (eC (.str "a")) (eC (.int 9)))) (aCons (eC (.str "A")) (aCons (eC (.str "a b")) (aCons (eC (.str "ab1")) (aCons (eC (.int 7)) (aCons (eC (.bool true)) (aCons ((eTup ((aCons (eC (.str "a")) aNil)))) (aCons ((eLst ((lLst (aCons (eC (.str "a")) aNil))))) (aCons (eC (.str "a\n")) aNil)))))))))))))) ((eCallN 2 f__law_take (rLendC 0 (rCons (eC (.int 10)) rNil)))))) (gN 3))
    (sSeq (sAsg ((eLst ((lLst (aCons ((eSl (eVar 1) (.of (eC (.int 1))) .no)) (aCons ((eBin dAdd (eVar 1) ((eTup ((aCons (eC .none) aNil)))))) (aCons ((eLst ((eCL fList (aCons (eVar 1) aNil))))) (aCons (eC .none) (aCons (eC (.str "a")) (aCons ((eBin dAdd ((eBin dAdd ((eSl (eVar 1) .no (.of (eVar 2)))) ((eTup ((aCons (eVar 3) aNil)))))) ((eSl (eVar 1) (.of ((eBin dAdd (eVar 2) (eC (.int 1))))) .no)))) aNil)))))))))) (gN 4))
    (sRet ((eIxN 4 ((eCB fMin (aCons (eC (.int 5)) (aCons ((eCallN 2 f__law_take (rLendC 0 (rCons (eC (.int 9)) rNil)))) aNil))))))))))
def f__law_no_marks : Df := bodyF 5 b__law_no_marks
def b__law_carried : DS :=
    (sSeq (sAsg ((eIxN 2 (eC (.int 0)))) (gN 4))
    (sSeq (sAsg ((eIxN 2 (eC (.int 1)))) (gN 5))
    (sSeq (sAsg ((eGet2 ((eDct ((lDisp [(eC (.str "merge"), (eLst ((lLst (aCons ((eBin dIx ((eIxN 0 (eC (.int 0)))) (eVar 5))) (aCons ((eBin dIx ((eIxN 0 (eC (.int 1)))) (eVar 5))) aNil)))))), (eC (.str "fold"), (eLst ((lLst (aCons (eVar 5) (aCons ((eBin dIx ((eIxN 0 (eC (.int 0)))) (eVar 5))) aNil))))))])))) (eVar 4) ((eLst ((lLst aNil)))))) (gN 6))
    (sSeq (sIf ((tTst (eBin dIn (eVar 4) ((eLst ((lLst (aCons (eC (.str "join")) (aCons (eC (.str "draw")) aNil))))))))) (sAsg ((eLst ((lLst (aCons (eVar 5) (aCons ((eBin dIx ((eIxN 0 (eC (.int 1)))) (eVar 5))) aNil)))))) (gN 6)) sNx)
    (sSeq (sIf ((tTst (eBin dEq (eVar 4) (eC (.str "open"))))) (sAsg ((eLst ((eCL fList (aCons ((eCallN 2 f__law_patch (rCons (eVar 0) (rCons (eVar 5) rNil)))) aNil))))) (gN 6)) sNx)
    (sSeq (sAsgL 7 (lComp (iEnm (aCons (eVar 1) aNil)) (gT [gN 8, gN 9]) (tTst (eBin dNotIn (eVar 8) (eVar 6))) (eVar 9) [8, 9]))
    (sSeq (sIf ((tTst (eBin dEq (eVar 4) (eC (.str "split"))))) (sSeq (sDrop ((eMO 7 mAppend (aCons ((eIxN 1 (eVar 5))) aNil))))
    (sIf ((tTst (eBin dIsnt ((eBin dIx ((eIxN 0 (eC (.int 1)))) (eVar 5))) (eC .none)))) (sDrop ((eMO 7 mAppend (aCons ((eIxN 1 ((eBin dIx ((eIxN 0 (eC (.int 1)))) (eVar 5))))) aNil)))) sNx)) sNx)
    (sRet ((eCB fTup (aCons ((eLst ((eBinL dCat (eVar 7) ((eLst ((lRep (lLst (aCons (eC .none) aNil)) ((eBin dSub (eVar 3) ((eLenO 7)))))))))))) aNil)))))))))))
def f__law_carried : Df := bodyF 10 b__law_carried
def b__law_mark : DS :=
    (sSeq (sAsg (eC (.str "abcdefghijklmnopqrstuvwxyz")) (gN 1))
    (sSeq (sIf ((tTst (eBin dEq ((eCallN 2 f__law_take (rLendC 0 (rCons (eC (.int 4)) rNil)))) (eC (.int 0))))) (sRet (eC .none)) sNx)
    (sRet ((eJoin (eC (.str "")) ((eLst ((lComp (iRng1 (aCons ((eBin dIx ((eLst ((lLst (aCons (eC (.int 1)) (aCons (eC (.int 8)) (aCons ((eBin dAdd (eC (.int 1)) ((eCallN 2 f__law_take (rLendC 0 (rCons (eC (.int 8)) rNil)))))) aNil))))))) ((eCallN 2 f__law_take (rLendC 0 (rCons (eC (.int 3)) rNil)))))) aNil)) (gN 2) tYesD ((eIxN 1 ((eCallN 2 f__law_take (rLendC 0 (rCons (eC (.int 26)) rNil)))))) [2])))))))))
def f__law_mark : Df := bodyF 3 b__law_mark
def b__law_name : DS :=
    (sSeq (sAsg (eC (.str "abcdefghijklmnopqrst")) (gN 1))
    (sRet ((eBin dAdd ((eBin dAdd (eC (.str "m")) ((eIxN 1 ((eBin dFdiv (eVar 0) (eC (.int 20)))))))) ((eIxN 1 ((eBin dMod (eVar 0) (eC (.int 20))))))))))
def f__law_name : Df := bodyF 2 b__law_name
def b__law_stays_right : DS :=
    (sSeq (sAsg (eLst (lComp (iSeq ((eCallN 2 f__law_walks (rCons (eVar 0) (rCons (eC (.str "patch")) rNil))))) (gN 9) tYesD ((eCB fTup (aCons ((eLst ((lComp (iSeq (eVar 9)) (gN 10) tYesD ((eIxN 1 (eVar 10))) [10])))) aNil))) [9])) (gN 4))
    (sSeq (sAsg (eLst (lComp (iSeq ((eCallN 2 f__law_walks (rCons (eVar 2) (rCons (eC (.str "patch")) rNil))))) (gN 9) tYesD ((eCB fTup (aCons ((eLst ((lComp (iSeq (eVar 9)) (gN 10) tYesD ((eIxN 3 (eVar 10))) [10])))) aNil))) [9])) (gN 5))
    (sSeq (sAsg (eLst (lComp (iSeq (eVar 4)) (gN 11) (tAndD ((tTst (eBin dNotIn (eC .none) (eVar 11)))) ((tTst (eBin dNotIn (eVar 11) (eVar 5))))) (eVar 11) [11])) (gN 6))
    (sSeq (sAsg (eLst (lComp (iSeq (eVar 1)) (gN 12) (tTst (eBin dIsnt (eVar 12) (eC .none))) (eVar 12) [12])) (gN 7))
    (sSeq (sAsg (eLst (lComp (iSeq (eVar 3)) (gN 12) (tTst (eBin dIsnt (eVar 12) (eC .none))) (eVar 12) [12])) (gN 8))
    (sRet ((eAnd ((eBin dLt ((eCB fLen (aCons (eVar 6) aNil))) (eC (.int 3)))) ((eBin dEq ((eLst ((lComp (iSeq (eVar 7)) (gN 12) (tTst (eBin dIn (eVar 12) (eVar 8))) (eVar 12) [12])))) (eVar 8)))))))))))
def f__law_stays_right : Df := bodyF 13 b__law_stays_right
def b_look_at_times : DS :=
    (sIf ((tOrD ((tTst (eBin dLt (eVar 0) (eC (.int 0))))) ((tTst (eBin dGt (eVar 0) (eC (.int 1000000000000000000000000000000))))))) (sRaise "TooMany") sNx)
def f_look_at_times : Df := bodyF 1 b_look_at_times
def b__law_goal : DS :=
    (sSeq (sIf ((tTst (eBin dEq (eVar 2) (eC (.str "over"))))) (sSeq (sAsg ((eBin dIx ((eIxN 0 (eC (.int 1)))) (eVar 1))) (gN 4))
    (sRet ((eIf ((tTst (eBin dIs (eVar 4) (eC .none)))) ((eTup ((aCons (eVar 1) (aCons (eC (.int 0)) aNil))))) ((eTup ((aCons (eVar 4) (aCons (eC (.int 1)) aNil))))))))) sNx)
    (sSeq (sIf ((tOrD ((tTst (eBin dEq (eVar 2) (eC (.str "on"))))) ((tTst (eBin dEq (eVar 2) (eC (.str "ahead"))))))) (sSeq (sAsg ((eCallN 2 f__law_patch (rCons (eVar 0) (rCons (eVar 1) rNil)))) (gN 5))
    (sRet ((eTup ((aCons ((eIxN 5 ((eBin dMod ((eBin dIx ((eLst ((lLst (aCons (eVar 3) (aCons ((eBin dSub (eC (.int 0)) (eVar 3))) aNil)))))) ((eCB fInt (aCons ((eBin dEq (eVar 2) (eC (.str "ahead")))) aNil))))) ((eCB fLen (aCons (eVar 5) aNil))))))) (aCons (eVar 3) aNil))))))) sNx)
    (sSeq (sAsg ((eCallN 2 f__law_knot (rCons (eVar 0) (rCons (eVar 1) rNil)))) (gN 5))
    (sSeq (sAsg ((eIndex (eVar 5) (eVar 1))) (gN 6))
    (sSeq (sIf ((tTst (eBin dIsnt ((eBin dIx ((eIxN 0 (eC (.int 1)))) ((eIxN 5 (eC (.int 0)))))) (eC .none)))) (sRet ((eTup ((aCons ((eIxN 5 ((eBin dMod ((eBin dAdd (eVar 6) ((eBin dIx ((eLst ((lLst (aCons (eVar 3) (aCons ((eBin dSub (eC (.int 0)) (eVar 3))) aNil)))))) ((eCB fInt (aCons ((eBin dEq (eVar 2) (eC (.str "right")))) aNil))))))) ((eCB fLen (aCons (eVar 5) aNil))))))) (aCons (eVar 3) aNil)))))) sNx)
    (sSeq (sAsg ((eBin dIx ((eLst ((lLst (aCons ((eBin dSub ((eBin dSub ((eCB fLen (aCons (eVar 5) aNil))) (eC (.int 1)))) (eVar 6))) (aCons (eVar 6) aNil)))))) ((eCB fInt (aCons ((eBin dEq (eVar 2) (eC (.str "right")))) aNil))))) (gN 7))
    (sSeq (sAsg ((eCB fMin (aCons (eVar 7) (aCons (eVar 3) aNil)))) (gN 8))
    (sRet ((eTup ((aCons ((eIxN 5 ((eBin dAdd (eVar 6) ((eBin dIx ((eLst ((lLst (aCons (eVar 8) (aCons ((eBin dSub (eC (.int 0)) (eVar 8))) aNil)))))) ((eCB fInt (aCons ((eBin dEq (eVar 2) (eC (.str "right")))) aNil))))))))) (aCons (eVar 8) aNil)))))))))))))
def f__law_goal : Df := bodyF 9 b__law_goal
def b__law_call : DS :=
    (sSeq (sAsg ((eCallN 2 f__law_take (rLendC 0 (rCons (eC (.int 12)) rNil)))) (gN 2))
    (sSeq (sIf ((tTst (eBin dLt (eVar 2) (eC (.int 6))))) (sRet ((eCallN 3 f__law_deed (rLendC 0 (rCons (eVar 1) (rCons ((eCall0 f__law_words)) rNil)))))) sNx)
    (sSeq (sIf ((tTst (eBin dLt (eVar 2) (eC (.int 8))))) (sSeq (sAsg ((eBin dIx ((eLst ((lLst (aCons (eC (.str "")) (aCons ((eBin dMul (eC (.str "a")) (eC (.int 9)))) (aCons (eC (.str "A")) (aCons (eC (.int 7)) (aCons ((eTup ((aCons (eC (.str "a")) aNil)))) aNil))))))))) ((eCallN 2 f__law_take (rLendC 0 (rCons (eC (.int 5)) rNil)))))) (gN 3))
    (sSeq (sAsg ((eBin dIx ((eLst ((lLst (aCons ((eCallN 2 f__law_take (rLendC 0 (rCons ((eCB fLen (aCons ((eIxN 1 (eC (.int 0)))) aNil))) rNil)))) (aCons ((eCB fLen (aCons ((eIxN 1 (eC (.int 0)))) aNil))) (aCons (eC (.int (-1))) aNil))))))) ((eCB fMax (aCons (eC (.int 0)) (aCons ((eBin dSub ((eCallN 2 f__law_take (rLendC 0 (rCons (eC (.int 9)) rNil)))) (eC (.int 6)))) aNil)))))) (gN 4))
    (sRet ((eTup ((aCons (eC (.str "mark")) (aCons (eVar 4) (aCons ((eBin dIx ((eLst ((lLst (aCons ((eCallN 1 f__law_mark (rLendC 0 rNil))) (aCons ((eCallN 1 f__law_mark (rLendC 0 rNil))) (aCons ((eCallN 1 f__law_mark (rLendC 0 rNil))) (aCons (eVar 3) aNil)))))))) ((eCallN 2 f__law_take (rLendC 0 (rCons (eC (.int 4)) rNil)))))) aNil))))))))) sNx)
    (sRet ((eBin dIx ((eLst ((lLst (aCons ((eTup ((aCons (eC (.str "undo")) aNil)))) (aCons ((eTup ((aCons (eC (.str "undo")) aNil)))) (aCons ((eTup ((aCons (eC (.str "redo")) aNil)))) (aCons ((eTup ((aCons (eC (.str "news")) aNil)))) aNil)))))))) ((eBin dSub (eVar 2) (eC (.int 8))))))))))
def f__law_call : Df := bodyF 5 b__law_call
def b__law_is_mark : DS :=
    (sSeq (sIf ((tTst (eBin dIs (eVar 0) (eC .none)))) (sRet (eC (.bool true))) sNx)
    (sSeq (sIf ((tOrD ((tNotD ((tTst (eIsi "str" (eVar 0)))))) ((tOrD ((tTst (eBin dLt ((eCB fLen (aCons (eVar 0) aNil))) (eC (.int 1))))) ((tTst (eBin dGt ((eCB fLen (aCons (eVar 0) aNil))) (eC (.int 8))))))))) (sRet (eC (.bool false))) sNx)
    (sRet ((eBin dEq ((eLst ((lComp (iSeq (eVar 0)) (gN 1) (tTst (eBin dNotIn (eVar 1) (eC (.str "abcdefghijklmnopqrstuvwxyz")))) (eVar 1) [1])))) ((eLst ((lLst aNil)))))))))
def f__law_is_mark : Df := bodyF 2 b__law_is_mark
def b__wall : DS :=
    (whileD ((tTru (eC (.bool true)))) sNx FUEL)
def f__wall : Df := bodyF 1 b__wall
def b__law_few : DS :=
    (sSeq (sAsg ((eCallN 2 f__law_call (rLendC 0 (rCons (eVar 1) rNil)))) (gN 2))
    (sSeq (sIf ((tAndD ((tTst (eBin dGt ((eCB fLen (aCons ((eIxN 1 (eC (.int 0)))) aNil))) (eC (.int 50))))) ((tTst (eBin dIn ((eIxN 2 (eC (.int 0)))) ((eLst ((lLst (aCons (eC (.str "split")) (aCons (eC (.str "cut")) (aCons (eC (.str "puff")) (aCons (eC (.str "part")) (aCons (eC (.str "grow")) (aCons (eC (.str "cap")) aNil))))))))))))))) (sRet ((eTup ((aCons (eC (.str "news")) aNil))))) sNx)
    (sRet (eVar 2))))
def f__law_few : Df := bodyF 3 b__law_few
def b__law_turned : DS :=
    (sSeq (sAsg ((eBin dIx ((eIxN 0 (eC (.int 1)))) (eVar 1))) (gN 2))
    (sSeq (sAsg ((eCallN 2 f__law_patch (rCons (eVar 0) (rCons (eVar 1) rNil)))) (gN 3))
    (sSeq (sIf ((tOrD ((tTst (eBin dIs (eVar 2) (eC .none)))) ((tOrD ((tTst (eBin dIn (eVar 2) (eVar 3)))) ((tOrD ((tTst (eBin dNe ((eCB fLen (aCons (eVar 3) aNil))) (eC (.int 3))))) ((tTst (eBin dNe ((eCB fLen (aCons ((eCallN 2 f__law_patch (rCons (eVar 0) (rCons (eVar 2) rNil)))) aNil))) (eC (.int 3))))))))))) (sRet (eC .none)) sNx)
    (sSeq (sAsg ((eCallN 2 f__law_patch (rCons (eVar 0) (rCons (eVar 2) rNil)))) (gN 4))
    (sSeq (sAsgL 5 (eCL fList (aCons ((eIxN 0 (eC (.int 0)))) aNil)))
    (sSeq (sFor (iSeq ((eLst ((lLst (aCons ((eTup ((aCons (eVar 1) (aCons ((eIxN 3 (eC (.int 2)))) (aCons ((eIxN 4 (eC (.int 1)))) aNil)))))) (aCons ((eTup ((aCons (eVar 2) (aCons ((eIxN 4 (eC (.int 2)))) (aCons ((eIxN 3 (eC (.int 1)))) aNil)))))) aNil))))))) (gN 6) (sFor (iRng1 (aCons (eC (.int 3)) aNil)) (gN 7) (sSetO 5 ((eIxN 6 ((eBin dSub (eVar 7) (eC (.int 1)))))) ((eIxN 6 (eVar 7))))))
    (sRet ((eTup ((aCons ((eTupO 5)) (aCons ((eIxN 0 (eC (.int 1)))) aNil))))))))))))
def f__law_turned : Df := bodyF 8 b__law_turned
def b__law_gone : DS :=
    (sSeq (sFor (iSeq (eVar 1)) (gN 2) (sSeq (sAsg ((eCallN 2 f__law_turned (rCons (eVar 0) (rCons (eVar 2) rNil)))) (gN 0))
    (sIf ((tTst (eBin dIs (eVar 0) (eC .none)))) (sRet (eC .none)) sNx)))
    (sRet (eVar 0)))
def f__law_gone : Df := bodyF 3 b__law_gone
def b__law_threes : DS :=
    (sSeq (sAsgL 2 (lLst aNil))
    (sSeq (sFor (iRng1 (aCons (eVar 1) aNil)) (gN 3) (sDrop ((eMO 2 mExtend (aCons ((eLst ((lLst (aCons ((eBin dAdd ((eBin dMul (eC (.int 3)) (eVar 3))) (eC (.int 1)))) (aCons ((eBin dAdd ((eBin dMul (eC (.int 3)) (eVar 3))) (eC (.int 2)))) (aCons ((eBin dMul (eC (.int 3)) (eVar 3))) aNil))))))) aNil)))))
    (sSeq (sFor (iRng1 (aCons (eC (.int 9)) aNil)) (gN 4) (sSeq (sAsgL 5 (lRange1 ((eBin dMul (eC (.int 3)) (eVar 1)))))
    (sSeq (sAsgL 6 (lRep (lLst (aCons (eC .none) aNil)) ((eBin dMul (eC (.int 3)) (eVar 1)))))
    (sSeq (whileD ((tTst (eBin dNe (eVar 5) ((eLst ((lLst aNil))))))) (sSeq (sAsg ((eMO 5 mPopAt (aCons ((eCallN 2 f__law_take (rLendC 0 (rCons ((eLenO 5)) rNil)))) aNil))) (gN 7))
    (sSeq (sAsg ((eMO 5 mPopAt (aCons ((eCallN 2 f__law_take (rLendC 0 (rCons ((eLenO 5)) rNil)))) aNil))) (gN 8))
    (sSeq (sSetO 6 (eVar 7) (eVar 8))
    (sSetO 6 (eVar 8) (eVar 7))))) FUEL)
    (sSeq (sAsg ((eTup ((aCons ((eTupO 2)) (aCons ((eTupO 6)) aNil))))) (gN 9))
    (sIf ((tTst (eBin dEq ((eCB fLen (aCons ((eCallN 2 f__law_order (rCons (eVar 9) (rCons (eC (.int 0)) rNil)))) aNil))) ((eBin dMul (eC (.int 3)) (eVar 1)))))) (sRet (eVar 9)) sNx))))))
    (sRet ((eTup ((aCons ((eTup ((aCons (eC (.int 1)) (aCons (eC (.int 2)) (aCons (eC (.int 0)) (aCons (eC (.int 4)) (aCons (eC (.int 5)) (aCons (eC (.int 3)) aNil))))))))) (aCons ((eTup ((aCons (eC (.int 3)) (aCons (eC (.int 5)) (aCons (eC (.int 4)) (aCons (eC (.int 0)) (aCons (eC (.int 2)) (aCons (eC (.int 1)) aNil))))))))) aNil)))))))))
def f__law_threes : Df := bodyF 10 b__law_threes
def b__law_unfit : DS :=
    (sSeq (sAsg (eLst (lComp (iEnm (aCons ((eIxN 1 (eC (.int 1)))) aNil)) (gT [gN 7, gN 8]) tYesD ((eIf ((tOrD ((tTst (eBin dEq (eVar 7) (eC (.int 0))))) ((tTst (eBin dEq (eVar 8) (eC (.int 0))))))) (eC .none) (eVar 8))) [7, 8])) (gN 2))
    (sSeq (sAsg ((eCB fLen (aCons ((eIxN 1 (eC (.int 0)))) aNil))) (gN 3))
    (sSeq (sAsg ((eTup ((aCons ((eBin dAdd ((eIxN 1 (eC (.int 0)))) ((eCB fTup (aCons ((eLst ((lComp (iSeq ((eIxN 1 (eC (.int 0))))) (gN 7) tYesD ((eBin dAdd (eVar 7) (eVar 3))) [7])))) aNil))))) (aCons ((eBin dAdd ((eIxN 1 (eC (.int 1)))) ((eCB fTup (aCons ((eLst ((lComp (iSeq ((eIxN 1 (eC (.int 1))))) (gN 8) tYesD ((eBin dAdd (eVar 8) (eVar 3))) [8])))) aNil))))) aNil))))) (gN 4))
    (sSeq (sAsg ((eCallN 2 f__law_threes (rLendC 0 (rCons (eC (.int 8)) rNil)))) (gN 5))
    (sSeq (sAsg ((eLst ((lLst (aCons ((eTup ((aCons ((eIxN 1 (eC (.int 0)))) (aCons ((eCB fTup (aCons (eVar 2) aNil))) aNil))))) (aCons (eVar 4) (aCons ((eTup ((aCons ((eTup ((aCons (eC (.int 1)) (aCons (eC (.int 0)) (aCons (eC (.int 3)) (aCons (eC (.int 2)) aNil))))))) (aCons ((eTup ((aCons (eC (.int 2)) (aCons (eC (.int 3)) (aCons (eC (.int 0)) (aCons (eC (.int 1)) aNil))))))) aNil))))) (aCons ((eTup ((aCons ((eTup ((aCons (eC (.int 1)) (aCons (eC (.int 2)) (aCons (eC (.int 3)) (aCons (eC (.int 0)) aNil))))))) (aCons ((eTup ((aCons (eC (.int 2)) (aCons (eC (.int 3)) (aCons (eC (.int 0)) (aCons (eC (.int 1)) aNil))))))) aNil))))) (aCons ((eTup ((aCons ((eTup ((aCons (eC (.int 0)) aNil)))) (aCons ((eTup ((aCons (eC .none) aNil)))) aNil))))) aNil))))))))) (gN 6))
    (sRet ((eLst ((eBinL dCat (eVar 6) ((eLst ((lRep (lLst (aCons (eVar 5) aNil)) ((eCB fInt (aCons ((eBin dEq ((eCB fLen (aCons ((eIxN 5 (eC (.int 0)))) aNil))) (eC (.int 24)))) aNil)))))))))))))))))
def f__law_unfit : Df := bodyF 9 b__law_unfit
def b__law_refusal : DS :=
    (sSeq (sIf ((tNotD ((tTst (eChain dLe dLt (eC (.int 0)) (eVar 1) ((eCB fLen (aCons ((eIxN 0 (eC (.int 0)))) aNil)))))))) (sRet (eC (.str "NoHalf+"))) sNx)
    (sSeq (sAsg ((eBin dIx ((eIxN 0 (eC (.int 1)))) (eVar 1))) (gN 2))
    (sSeq (sIf ((tTst (eBin dIs (eVar 2) (eC .none)))) (sRet (eC (.str "Harm+rim"))) sNx)
    (sSeq (sIf ((tTst (eBin dIn (eVar 2) ((eCallN 2 f__law_patch (rCons (eVar 0) (rCons (eVar 1) rNil))))))) (sRet (eC (.str "Harm+one"))) sNx)
    (sRet (eC (.str "Harm+three")))))))
def f__law_refusal : Df := bodyF 3 b__law_refusal
def b_number_of : DS :=
    (sSeq (sIf ((tOrD ((tTst (eBin dLt ((eCB fLen (aCons (eVar 0) aNil))) (eC (.int 1))))) ((tOrD ((tTst (eBin dGt ((eCB fLen (aCons (eVar 0) aNil))) (eC (.int 9))))) ((tAndD ((tTst (eBin dEq ((eIxN 0 (eC (.int 0)))) (eC (.str "0"))))) ((tTst (eBin dNe (eVar 0) (eC (.str "0"))))))))))) (sRet (eC .none)) sNx)
    (sSeq (sIf ((tNotD ((tTst (eCB fAll (aCons ((eLst ((lComp (iSeq (eVar 0)) (gN 1) tYesD ((eBin dIn (eVar 1) (eC (.str "0123456789")))) [1])))) aNil)))))) (sRet (eC .none)) sNx)
    (sRet ((eCB fInt (aCons (eVar 0) aNil))))))
def f_number_of : Df := bodyF 2 b_number_of
def b__law_onwards : DS :=
    (sSeq (sAsg ((eLst ((lLst (aCons ((eTup (aNil))) aNil))))) (gN 1))
    (sSeq (sFor (iRng1 (aCons (eVar 0) aNil)) (gN 2) (sSeq (sAsgL 3 (lLst aNil))
    (sSeq (sFor (iSeq (eVar 1)) (gN 4) (sDrop ((eMO 3 mExtend (aCons ((eLst ((lComp (iRng1 (aCons (eVar 0) aNil)) (gN 5) (tTst (eBin dNotIn (eVar 5) (eVar 4))) ((eBin dAdd (eVar 4) ((eTup ((aCons (eVar 5) aNil)))))) [5])))) aNil)))))
    (sAsg (eVar 3) (gN 1)))))
    (sRet (eVar 1))))
def f__law_onwards : Df := bodyF 6 b__law_onwards
end
end LW
/- part K03P -/
set_option Elab.async false
set_option linter.all false
set_option maxRecDepth 100000
set_option maxHeartbeats 4000000
namespace K03
open PySem L2 DL LW
noncomputable section
def b__law_asked : DS :=
    (sSeq (sAsg (eC (.str "")) (gN 3))
    (sSeq (sAsg (eC .none) (gN 4))
    (sSeq (sTryK (sIf ((tTst (eBin dEq (eVar 0) (eC (.int 0))))) (sAsg ((eCallN 2 f_ahead_of (rCons (eVar 1) (rCons (eVar 2) rNil)))) (gN 4)) (sIf ((tTst (eBin dEq (eVar 0) (eC (.int 1))))) (sAsg ((eCallN 2 f_left_of (rCons (eVar 1) (rCons (eVar 2) rNil)))) (gN 4)) (sIf ((tTst (eBin dEq (eVar 0) (eC (.int 2))))) (sAsg ((eCallN 2 f_right_of (rCons (eVar 1) (rCons (eVar 2) rNil)))) (gN 4)) (sIf ((tTst (eBin dEq (eVar 0) (eC (.int 3))))) (sAsg ((eCallN 2 f_patch_of (rCons (eVar 1) (rCons (eVar 2) rNil)))) (gN 4)) (sIf ((tTst (eBin dEq (eVar 0) (eC (.int 4))))) (sAsg ((eCallN 2 f_round_knot (rCons (eVar 1) (rCons (eVar 2) rNil)))) (gN 4)) (sAsg ((eCallN 2 f_rim_of (rCons (eVar 1) (rCons (eVar 2) rNil)))) (gN 4))))))) 5 3 [("SkinError", none)])
    (sRet ((eTup ((aCons (eVar 4) (aCons (eVar 3) aNil)))))))))
def f__law_asked : Df := bodyF 6 b__law_asked
def b__law_none_right : DS :=
    (sRet ((eBin dEq ((eLst ((lComp (iRng1 (aCons (eC (.int 6)) aNil)) (gN 2) tYesD ((eCallN 3 f__law_asked (rCons (eVar 2) (rCons (eVar 0) (rCons (eVar 1) rNil))))) [2])))) ((eLst ((lRep (lLst (aCons ((eTup ((aCons (eC .none) (aCons (eC (.str "NoHalf+")) aNil))))) aNil)) (eC (.int 6)))))))))
def f__law_none_right : Df := bodyF 3 b__law_none_right
def b_law : DS :=
    (sSeq (sFor (iRng1 (aCons ((eBin dAdd (eC (.int 1)) ((eCB fMin (aCons ((eCB fLen (aCons (eVar 0) aNil))) (aCons (eC (.int 20)) aNil)))))) aNil)) (gN 1) (sSeq (sAsgL 2 (lCallN 2 f__law_bag (rCons (eVar 0) (rCons (eVar 1) rNil))))
    (sSeq (sAsg ((eCallN 2 f__law_skin (rLendC 2 (rCons ((eBin dIx ((eLst ((lLst (aCons (eC (.int 30)) (aCons (eC (.int 400)) aNil)))))) ((eCB fInt (aCons ((eBin dEq ((eCallN 2 f__law_take (rLendC 2 (rCons (eC (.int 8)) rNil)))) (eC (.int 0)))) aNil))))) rNil)))) (gN 3))
    (sSeq (sAsg ((eCB fLen (aCons ((eIxN 3 (eC (.int 0)))) aNil))) (gN 4))
    (sSeq (sAsg ((eLst ((lRange1 (eVar 4))))) (gN 5))
    (sSeq (sIf ((tTst (eBin dGt (eVar 4) (eC (.int 30))))) (sAsg (eLst (lComp (iRng1 (aCons (eC (.int 20)) aNil)) (gN 9) tYesD ((eCallN 2 f__law_take (rLendC 2 (rCons (eVar 4) rNil)))) [9])) (gN 5)) sNx)
    (sSeq (sFor (iSeq (eVar 5)) (gN 6) (sSeq (sAsg ((eLst ((lLst (aCons ((eIndex ((eIxN 3 (eC (.int 0)))) (eVar 6))) (aCons ((eCallN 2 f__law_left (rCons (eVar 3) (rCons (eVar 6) rNil)))) (aCons ((eCallN 2 f__law_right (rCons (eVar 3) (rCons (eVar 6) rNil)))) aNil))))))) (gN 7))
    (sSeq (sAsg (eLst (lComp (iRng1 (aCons (eC (.int 3)) aNil)) (gN 10) tYesD ((eCallN 3 f__law_asked (rCons (eVar 10) (rCons (eVar 3) (rCons (eVar 6) rNil))))) [10])) (gN 8))
    (sIf ((tOrD ((tTst (eBin dNe (eVar 8) ((eLst ((lComp (iSeq (eVar 7)) (gN 11) tYesD ((eTup ((aCons (eVar 11) (aCons (eC (.str "")) aNil))))) [11]))))))) ((tTst (eBin dNe ((eLst ((lComp (iSeq (eVar 8)) (gN 11) (tTst (eIsi "bool" ((eIxN 11 (eC (.int 0)))))) (eVar 11) [11])))) ((eLst ((lLst aNil))))))))) (sRet (eC (.bool false))) sNx))))
    (sFor (iSeq ((eLst ((lLst (aCons (eC (.int (-1))) (aCons (eVar 4) (aCons ((eUn dNeg (eVar 4))) (aCons ((eBin dPow (eC (.int 10)) (eC (.int 8)))) (aCons ((eBin dAdd (eVar 4) ((eCallN 2 f__law_take (rLendC 2 (rCons (eC (.int 9)) rNil)))))) aNil)))))))))) (gN 6) (sIf ((tNotD ((tTru ((eCallN 2 f__law_none_right (rCons (eVar 3) (rCons (eVar 6) rNil)))))))) (sRet (eC (.bool false))) sNx)))))))))
    (sRet (eC (.bool true))))
def f_law : Df := bodyF 12 b_law
end
end K03
/- part K03W -/
set_option Elab.async false
set_option linter.all false
set_option maxRecDepth 100000
set_option maxHeartbeats 4000000
namespace K03
open PySem L2 DL LW
/-! ### the text -/
def topS (i : Nat) : Stmt := PySem.Challenge.pw_halfseams_k03_next_ones.main.body.getD i (.Pass ⟨0, 0, 0, 0⟩)
abbrev s_look_at_half : Stmt := topS 15
abbrev N_look_at_half : List Str := ["skin", "half"]
abbrev P_look_at_half : List Str := ["skin", "half"]
abbrev s_ahead_of : Stmt := topS 17
abbrev N_ahead_of : List Str := ["skin", "half"]
abbrev P_ahead_of : List Str := ["skin", "half"]
abbrev s_left_of : Stmt := topS 18
abbrev N_left_of : List Str := ["skin", "half"]
abbrev P_left_of : List Str := ["skin", "half"]
abbrev s_right_of : Stmt := topS 19
abbrev N_right_of : List Str := ["skin", "half", "mate"]
abbrev P_right_of : List Str := ["skin", "half"]
abbrev s_patch_of : Stmt := topS 20
abbrev N_patch_of : List Str := ["skin", "half", "found", "at"]
abbrev P_patch_of : List Str := ["skin", "half"]
abbrev s_round_knot : Stmt := topS 21
abbrev N_round_knot : List Str := ["skin", "half", "first", "at", "found"]
abbrev P_round_knot : List Str := ["skin", "half"]
abbrev s_next_at_rim : Stmt := topS 22
abbrev N_next_at_rim : List Str := ["skin", "half", "at"]
abbrev P_next_at_rim : List Str := ["skin", "half"]
abbrev s_rim_of : Stmt := topS 23
abbrev N_rim_of : List Str := ["skin", "half", "found", "at"]
abbrev P_rim_of : List Str := ["skin", "half"]
abbrev s__law_bag : Stmt := topS 25
abbrev N__law_bag : List Str := ["script", "k", "cell"]
abbrev P__law_bag : List Str := ["script", "k"]
abbrev s__law_take : Stmt := topS 26
abbrev N__law_take : List Str := ["bag", "many", "found"]
abbrev P__law_take : List Str := ["bag", "many"]
abbrev s__law_skin : Stmt := topS 27
abbrev N__law_skin : List Str := ["bag", "most", "many", "order", "half", "onward", "wide", "left", "size", "patch", "k", "mates", "rare", "waiting", "one", "other"]
abbrev P__law_skin : List Str := ["bag", "most"]
abbrev s__law_left : Stmt := topS 28
abbrev N__law_left : List Str := ["skin", "half"]
abbrev P__law_left : List Str := ["skin", "half"]
abbrev s__law_right : Stmt := topS 29
abbrev N__law_right : List Str := ["skin", "half"]
abbrev P__law_right : List Str := ["skin", "half"]
abbrev s__law_kinds : Stmt := topS 30
abbrev N__law_kinds : List Str := ["e", "some", "words", "k"]
abbrev P__law_kinds : List Str := ["e"]
abbrev s__law_asked : Stmt := topS 31
abbrev N__law_asked : List Str := ["way", "skin", "half", "kind", "found", "e"]
abbrev P__law_asked : List Str := ["way", "skin", "half"]
abbrev s__law_none_right : Stmt := topS 32
abbrev N__law_none_right : List Str := ["skin", "half", "way"]
abbrev P__law_none_right : List Str := ["skin", "half"]
abbrev s_law : Stmt := topS 33
abbrev N_law : List Str := ["script", "k", "bag", "skin", "many", "halves", "half", "due", "found", "turn", "way", "one"]
abbrev P_law : List Str := ["script"]
structure Txt (K : PySem.W.Frag) (mg : Str → Option Value) : Prop where
  d_look_at_half : ∃ fd, FnT K "look_at_half" s_look_at_half fd
  g_look_at_half : mg "look_at_half" = some (.ref (He.ga K "look_at_half"))
  d_ahead_of : ∃ fd, FnT K "ahead_of" s_ahead_of fd
  g_ahead_of : mg "ahead_of" = some (.ref (He.ga K "ahead_of"))
  d_left_of : ∃ fd, FnT K "left_of" s_left_of fd
  g_left_of : mg "left_of" = some (.ref (He.ga K "left_of"))
  d_right_of : ∃ fd, FnT K "right_of" s_right_of fd
  g_right_of : mg "right_of" = some (.ref (He.ga K "right_of"))
  d_patch_of : ∃ fd, FnT K "patch_of" s_patch_of fd
  g_patch_of : mg "patch_of" = some (.ref (He.ga K "patch_of"))
  d_round_knot : ∃ fd, FnT K "round_knot" s_round_knot fd
  g_round_knot : mg "round_knot" = some (.ref (He.ga K "round_knot"))
  d_next_at_rim : ∃ fd, FnT K "next_at_rim" s_next_at_rim fd
  g_next_at_rim : mg "next_at_rim" = some (.ref (He.ga K "next_at_rim"))
  d_rim_of : ∃ fd, FnT K "rim_of" s_rim_of fd
  g_rim_of : mg "rim_of" = some (.ref (He.ga K "rim_of"))
  d__law_bag : ∃ fd, FnT K "_law_bag" s__law_bag fd
  g__law_bag : mg "_law_bag" = some (.ref (He.ga K "_law_bag"))
  d__law_take : ∃ fd, FnT K "_law_take" s__law_take fd
  g__law_take : mg "_law_take" = some (.ref (He.ga K "_law_take"))
  d__law_skin : ∃ fd, FnT K "_law_skin" s__law_skin fd
  g__law_skin : mg "_law_skin" = some (.ref (He.ga K "_law_skin"))
  d__law_left : ∃ fd, FnT K "_law_left" s__law_left fd
  g__law_left : mg "_law_left" = some (.ref (He.ga K "_law_left"))
  d__law_right : ∃ fd, FnT K "_law_right" s__law_right fd
  g__law_right : mg "_law_right" = some (.ref (He.ga K "_law_right"))
  d__law_kinds : ∃ fd, FnT K "_law_kinds" s__law_kinds fd
  g__law_kinds : mg "_law_kinds" = some (.ref (He.ga K "_law_kinds"))
  d__law_asked : ∃ fd, FnT K "_law_asked" s__law_asked fd
  g__law_asked : mg "_law_asked" = some (.ref (He.ga K "_law_asked"))
  d__law_none_right : ∃ fd, FnT K "_law_none_right" s__law_none_right fd
  g__law_none_right : mg "_law_none_right" = some (.ref (He.ga K "_law_none_right"))
  d_law : ∃ fd, FnT K "law" s_law fd
  g_law : mg "law" = some (.ref (He.ga K "law"))
  n_ValueError : mg "ValueError" = none
  n_bool : mg "bool" = none
  n_int : mg "int" = none
  n_isinstance : mg "isinstance" = none
  n_len : mg "len" = none
  n_list : mg "list" = none
  n_min : mg "min" = none
  n_range : mg "range" = none
  n_tuple : mg "tuple" = none
  x_NoHalf : ExC K mg "NoHalf"
  x_NoRim : ExC K mg "NoRim"
  kx : Kx K mg
section
variable {P : Program} {w : World} {K : PySem.W.Frag} {mg : Str → Option Value} {base : Heap}
theorem sc_look_at_half : FnScope N_look_at_half P_look_at_half (defScope s_look_at_half) := ⟨rfl, rfl, rfl, by decide +kernel, rfl, by decide +kernel, by decide +kernel⟩
theorem ok_look_at_half (T : Txt K mg)  : Cal P w K mg base 1 "look_at_half" 2 f_look_at_half := by
  refine cal_of (k := 0) T.d_look_at_half T.g_look_at_half sc_look_at_half (by decide) (fun _ _ _ _ _ _ us hl => match us, hl with | [_, _], _ => rfl) fun cdv A outer s H E hr => ?_
  have nd := sc_look_at_half.nd
  have tk := fun σ => L2N.passAt (L2N.takes_of (X := cxOf (L2N.CX P w) P w K mg base N_look_at_half "look_at_half" (defScope s_look_at_half) (He.ga K "look_at_half") cdv A outer s H E) (E := E) rfl rfl rfl rfl) σ
  have tkx := L2N.takes_of (X := cxOf (L2N.CX P w) P w K mg base N_look_at_half "look_at_half" (defScope s_look_at_half) (He.ga K "look_at_half") cdv A outer s H E) (E := E) rfl rfl rfl rfl
  have hp : PassesOwn (model P w) _ _ (cxOf (L2N.CX P w) P w K mg base N_look_at_half "look_at_half" (defScope s_look_at_half) (He.ga K "look_at_half") cdv A outer s H E).xe := passes_of (X := cxOf (L2N.CX P w) P w K mg base N_look_at_half "look_at_half" (defScope s_look_at_half) (He.ga K "look_at_half") cdv A outer s H E) rfl
  exact (css_one (cs_if (ct_w (cw_or (ct_cmp op_lt od_lt (ce_var 1) ce_int (nomark _)) (cw_or1 (ct_cmp op_ge od_ge (ce_var 1) (ce_cb cd_len cr_lenA (by rfl) T.n_len PySem.boot_len (ca_cons (ce_ixN 0 ce_int (fun _ _ => rfl)) ca_nil)) (nomark _))))) (css_one (cs_raise T.x_NoHalf tkx)) css_nil))
theorem sc_ahead_of : FnScope N_ahead_of P_ahead_of (defScope s_ahead_of) := ⟨rfl, rfl, rfl, by decide +kernel, rfl, by decide +kernel, by decide +kernel⟩
theorem ok_ahead_of (T : Txt K mg) (c_look_at_half : Cal P w K mg base 1 "look_at_half" 2 f_look_at_half) : Cal P w K mg base 2 "ahead_of" 2 f_ahead_of := by
  refine cal_of (k := 1) T.d_ahead_of T.g_ahead_of sc_ahead_of (by decide) (fun _ _ _ _ _ _ us hl => match us, hl with | [_, _], _ => rfl) fun cdv A outer s H E hr => ?_
  have nd := sc_ahead_of.nd
  have tk := fun σ => L2N.passAt (L2N.takes_of (X := cxOf (L2N.CX P w) P w K mg base N_ahead_of "ahead_of" (defScope s_ahead_of) (He.ga K "ahead_of") cdv A outer s H E) (E := E) rfl rfl rfl rfl) σ
  have tkx := L2N.takes_of (X := cxOf (L2N.CX P w) P w K mg base N_ahead_of "ahead_of" (defScope s_ahead_of) (He.ga K "ahead_of") cdv A outer s H E) (E := E) rfl rfl rfl rfl
  have hp : PassesOwn (model P w) _ _ (cxOf (L2N.CX P w) P w K mg base N_ahead_of "ahead_of" (defScope s_ahead_of) (He.ga K "ahead_of") cdv A outer s H E).xe := passes_of (X := cxOf (L2N.CX P w) P w K mg base N_ahead_of "ahead_of" (defScope s_ahead_of) (He.ga K "ahead_of") cdv A outer s H E) rfl
  exact (css_cons (cs_drop (ce_callC c_look_at_half hr (by decide) tk (cr_cons (ce_var 0) (cr_cons (ce_var 1) cr_nil))))
    (css_one (cs_ret (ce_index (ce_ixN 0 ce_int (fun _ _ => rfl)) (ce_var 1)))))
theorem sc_left_of : FnScope N_left_of P_left_of (defScope s_left_of) := ⟨rfl, rfl, rfl, by decide +kernel, rfl, by decide +kernel, by decide +kernel⟩
theorem ok_left_of (T : Txt K mg) (c_ahead_of : Cal P w K mg base 2 "ahead_of" 2 f_ahead_of) : Cal P w K mg base 3 "left_of" 2 f_left_of := by
  refine cal_of (k := 2) T.d_left_of T.g_left_of sc_left_of (by decide) (fun _ _ _ _ _ _ us hl => match us, hl with | [_, _], _ => rfl) fun cdv A outer s H E hr => ?_
  have nd := sc_left_of.nd
  have tk := fun σ => L2N.passAt (L2N.takes_of (X := cxOf (L2N.CX P w) P w K mg base N_left_of "left_of" (defScope s_left_of) (He.ga K "left_of") cdv A outer s H E) (E := E) rfl rfl rfl rfl) σ
  have tkx := L2N.takes_of (X := cxOf (L2N.CX P w) P w K mg base N_left_of "left_of" (defScope s_left_of) (He.ga K "left_of") cdv A outer s H E) (E := E) rfl rfl rfl rfl
  have hp : PassesOwn (model P w) _ _ (cxOf (L2N.CX P w) P w K mg base N_left_of "left_of" (defScope s_left_of) (He.ga K "left_of") cdv A outer s H E).xe := passes_of (X := cxOf (L2N.CX P w) P w K mg base N_left_of "left_of" (defScope s_left_of) (He.ga K "left_of") cdv A outer s H E) rfl
  exact (css_one (cs_ret (ce_ix ix_seq od_ix (ce_ixN 0 ce_int (fun _ _ => rfl)) (ce_callC c_ahead_of hr (by decide) tk (cr_cons (ce_var 0) (cr_cons (ce_var 1) cr_nil))) (fun _ _ => rfl))))
theorem sc_right_of : FnScope N_right_of P_right_of (defScope s_right_of) := ⟨rfl, rfl, rfl, by decide +kernel, rfl, by decide +kernel, by decide +kernel⟩
theorem ok_right_of (T : Txt K mg) (c_look_at_half : Cal P w K mg base 1 "look_at_half" 2 f_look_at_half) : Cal P w K mg base 2 "right_of" 2 f_right_of := by
  refine cal_of (k := 1) T.d_right_of T.g_right_of sc_right_of (by decide) (fun _ _ _ _ _ _ us hl => match us, hl with | [_, _], _ => rfl) fun cdv A outer s H E hr => ?_
  have nd := sc_right_of.nd
  have tk := fun σ => L2N.passAt (L2N.takes_of (X := cxOf (L2N.CX P w) P w K mg base N_right_of "right_of" (defScope s_right_of) (He.ga K "right_of") cdv A outer s H E) (E := E) rfl rfl rfl rfl) σ
  have tkx := L2N.takes_of (X := cxOf (L2N.CX P w) P w K mg base N_right_of "right_of" (defScope s_right_of) (He.ga K "right_of") cdv A outer s H E) (E := E) rfl rfl rfl rfl
  have hp : PassesOwn (model P w) _ _ (cxOf (L2N.CX P w) P w K mg base N_right_of "right_of" (defScope s_right_of) (He.ga K "right_of") cdv A outer s H E).xe := passes_of (X := cxOf (L2N.CX P w) P w K mg base N_right_of "right_of" (defScope s_right_of) (He.ga K "right_of") cdv A outer s H E) rfl
  exact (css_cons (cs_drop (ce_callC c_look_at_half hr (by decide) tk (cr_cons (ce_var 0) (cr_cons (ce_var 1) cr_nil))))
    (css_cons (cs_set (i := 2) nd (ce_ix ix_seq od_ix (ce_ixN 0 ce_int (fun _ _ => rfl)) (ce_var 1) (fun _ _ => rfl)))
    (css_cons (cs_if (ct_cmp op_isA od_is (ce_var 2) ce_none (nomark _)) (css_one (cs_ret ce_none)) css_nil)
    (css_one (cs_ret (ce_ix ix_seq od_ix (ce_ixN 0 ce_int (fun _ _ => rfl)) (ce_var 2) (fun _ _ => rfl)))))))
theorem sc_patch_of : FnScope N_patch_of P_patch_of (defScope s_patch_of) := ⟨rfl, rfl, rfl, by decide +kernel, rfl, by decide +kernel, by decide +kernel⟩
theorem ok_patch_of (T : Txt K mg) (c_look_at_half : Cal P w K mg base 1 "look_at_half" 2 f_look_at_half) : Cal P w K mg base 2 "patch_of" 2 f_patch_of := by
  refine cal_of (k := 1) T.d_patch_of T.g_patch_of sc_patch_of (by decide) (fun _ _ _ _ _ _ us hl => match us, hl with | [_, _], _ => rfl) fun cdv A outer s H E hr => ?_
  have nd := sc_patch_of.nd
  have tk := fun σ => L2N.passAt (L2N.takes_of (X := cxOf (L2N.CX P w) P w K mg base N_patch_of "patch_of" (defScope s_patch_of) (He.ga K "patch_of") cdv A outer s H E) (E := E) rfl rfl rfl rfl) σ
  have tkx := L2N.takes_of (X := cxOf (L2N.CX P w) P w K mg base N_patch_of "patch_of" (defScope s_patch_of) (He.ga K "patch_of") cdv A outer s H E) (E := E) rfl rfl rfl rfl
  have hp : PassesOwn (model P w) _ _ (cxOf (L2N.CX P w) P w K mg base N_patch_of "patch_of" (defScope s_patch_of) (He.ga K "patch_of") cdv A outer s H E).xe := passes_of (X := cxOf (L2N.CX P w) P w K mg base N_patch_of "patch_of" (defScope s_patch_of) (He.ga K "patch_of") cdv A outer s H E) rfl
  exact (css_cons (cs_drop (ce_callC c_look_at_half hr (by decide) tk (cr_cons (ce_var 0) (cr_cons (ce_var 1) cr_nil))))
    (css_cons (cs_setL (i := 2) nd (cl_lst (ca_cons (ce_var 1) ca_nil)))
    (css_cons (cs_set (i := 3) nd (ce_ix ix_seq od_ix (ce_ixN 0 ce_int (fun _ _ => rfl)) (ce_var 1) (fun _ _ => rfl)))
    (css_cons (cs_while FUEL hp (ct_cmp (op_neD hr.units) od_ne (ce_var 3) (ce_var 1) (nomark _)) (css_cons (cs_drop (ce_mo 2 om_append PySem.F.slot_list_append PySem.F.type_list_append mt_append (ca_cons (ce_var 3) ca_nil)))
    (css_one (cs_set (i := 3) nd (ce_ix ix_seq od_ix (ce_ixN 0 ce_int (fun _ _ => rfl)) (ce_var 3) (fun _ _ => rfl))))))
    (css_one (cs_ret (ce_tupO 2 T.n_tuple)))))))
theorem sc_round_knot : FnScope N_round_knot P_round_knot (defScope s_round_knot) := ⟨rfl, rfl, rfl, by decide +kernel, rfl, by decide +kernel, by decide +kernel⟩
theorem ok_round_knot (T : Txt K mg) (c_right_of : Cal P w K mg base 2 "right_of" 2 f_right_of) (c_left_of : Cal P w K mg base 3 "left_of" 2 f_left_of) : Cal P w K mg base 4 "round_knot" 2 f_round_knot := by
  refine cal_of (k := 3) T.d_round_knot T.g_round_knot sc_round_knot (by decide) (fun _ _ _ _ _ _ us hl => match us, hl with | [_, _], _ => rfl) fun cdv A outer s H E hr => ?_
  have nd := sc_round_knot.nd
  have tk := fun σ => L2N.passAt (L2N.takes_of (X := cxOf (L2N.CX P w) P w K mg base N_round_knot "round_knot" (defScope s_round_knot) (He.ga K "round_knot") cdv A outer s H E) (E := E) rfl rfl rfl rfl) σ
  have tkx := L2N.takes_of (X := cxOf (L2N.CX P w) P w K mg base N_round_knot "round_knot" (defScope s_round_knot) (He.ga K "round_knot") cdv A outer s H E) (E := E) rfl rfl rfl rfl
  have hp : PassesOwn (model P w) _ _ (cxOf (L2N.CX P w) P w K mg base N_round_knot "round_knot" (defScope s_round_knot) (He.ga K "round_knot") cdv A outer s H E).xe := passes_of (X := cxOf (L2N.CX P w) P w K mg base N_round_knot "round_knot" (defScope s_round_knot) (He.ga K "round_knot") cdv A outer s H E) rfl
  exact (css_cons (cs_set (i := 2) nd (ce_var 1))
    (css_cons (cs_set (i := 3) nd (ce_callC c_right_of hr (by decide) tk (cr_cons (ce_var 0) (cr_cons (ce_var 1) cr_nil))))
    (css_cons (cs_while FUEL hp (ct_w (cw_and (ct_cmp op_isntA od_isnt (ce_var 3) ce_none (nomark _)) (cw_and1 (ct_cmp (op_neD hr.units) od_ne (ce_var 3) (ce_var 1) (nomark _))))) (css_cons (cs_set (i := 2) nd (ce_var 3))
    (css_one (cs_set (i := 3) nd (ce_callC c_right_of hr (by decide) tk (cr_cons (ce_var 0) (cr_cons (ce_var 3) cr_nil)))))))
    (css_cons (cs_if (ct_cmp (op_eqD hr.units) od_eq (ce_var 3) (ce_var 1) (nomark _)) (css_one (cs_set (i := 2) nd (ce_var 1))) css_nil)
    (css_cons (cs_setL (i := 4) nd (cl_lst (ca_cons (ce_var 2) ca_nil)))
    (css_cons (cs_set (i := 3) nd (ce_callC c_left_of hr (by decide) tk (cr_cons (ce_var 0) (cr_cons (ce_var 2) cr_nil))))
    (css_cons (cs_while FUEL hp (ct_w (cw_and (ct_cmp op_isntA od_isnt (ce_var 3) ce_none (nomark _)) (cw_and1 (ct_cmp (op_neD hr.units) od_ne (ce_var 3) (ce_var 2) (nomark _))))) (css_cons (cs_drop (ce_mo 4 om_append PySem.F.slot_list_append PySem.F.type_list_append mt_append (ca_cons (ce_var 3) ca_nil)))
    (css_one (cs_set (i := 3) nd (ce_callC c_left_of hr (by decide) tk (cr_cons (ce_var 0) (cr_cons (ce_var 3) cr_nil)))))))
    (css_one (cs_ret (ce_tupO 4 T.n_tuple))))))))))
theorem sc_next_at_rim : FnScope N_next_at_rim P_next_at_rim (defScope s_next_at_rim) := ⟨rfl, rfl, rfl, by decide +kernel, rfl, by decide +kernel, by decide +kernel⟩
theorem ok_next_at_rim (T : Txt K mg)  : Cal P w K mg base 1 "next_at_rim" 2 f_next_at_rim := by
  refine cal_of (k := 0) T.d_next_at_rim T.g_next_at_rim sc_next_at_rim (by decide) (fun _ _ _ _ _ _ us hl => match us, hl with | [_, _], _ => rfl) fun cdv A outer s H E hr => ?_
  have nd := sc_next_at_rim.nd
  have tk := fun σ => L2N.passAt (L2N.takes_of (X := cxOf (L2N.CX P w) P w K mg base N_next_at_rim "next_at_rim" (defScope s_next_at_rim) (He.ga K "next_at_rim") cdv A outer s H E) (E := E) rfl rfl rfl rfl) σ
  have tkx := L2N.takes_of (X := cxOf (L2N.CX P w) P w K mg base N_next_at_rim "next_at_rim" (defScope s_next_at_rim) (He.ga K "next_at_rim") cdv A outer s H E) (E := E) rfl rfl rfl rfl
  have hp : PassesOwn (model P w) _ _ (cxOf (L2N.CX P w) P w K mg base N_next_at_rim "next_at_rim" (defScope s_next_at_rim) (He.ga K "next_at_rim") cdv A outer s H E).xe := passes_of (X := cxOf (L2N.CX P w) P w K mg base N_next_at_rim "next_at_rim" (defScope s_next_at_rim) (He.ga K "next_at_rim") cdv A outer s H E) rfl
  exact (css_cons (cs_set (i := 2) nd (ce_ix ix_seq od_ix (ce_ixN 0 ce_int (fun _ _ => rfl)) (ce_var 1) (fun _ _ => rfl)))
    (css_cons (cs_while FUEL hp (ct_cmp op_isntA od_isnt (ce_ix ix_seq od_ix (ce_ixN 0 ce_int (fun _ _ => rfl)) (ce_var 2) (fun _ _ => rfl)) ce_none (nomark _)) (css_one (cs_set (i := 2) nd (ce_ix ix_seq od_ix (ce_ixN 0 ce_int (fun _ _ => rfl)) (ce_ix ix_seq od_ix (ce_ixN 0 ce_int (fun _ _ => rfl)) (ce_var 2) (fun _ _ => rfl)) (fun _ _ => rfl)))))
    (css_one (cs_ret (ce_var 2)))))
theorem sc_rim_of : FnScope N_rim_of P_rim_of (defScope s_rim_of) := ⟨rfl, rfl, rfl, by decide +kernel, rfl, by decide +kernel, by decide +kernel⟩
theorem ok_rim_of (T : Txt K mg) (c_look_at_half : Cal P w K mg base 1 "look_at_half" 2 f_look_at_half) (c_next_at_rim : Cal P w K mg base 1 "next_at_rim" 2 f_next_at_rim) : Cal P w K mg base 2 "rim_of" 2 f_rim_of := by
  refine cal_of (k := 1) T.d_rim_of T.g_rim_of sc_rim_of (by decide) (fun _ _ _ _ _ _ us hl => match us, hl with | [_, _], _ => rfl) fun cdv A outer s H E hr => ?_
  have nd := sc_rim_of.nd
  have tk := fun σ => L2N.passAt (L2N.takes_of (X := cxOf (L2N.CX P w) P w K mg base N_rim_of "rim_of" (defScope s_rim_of) (He.ga K "rim_of") cdv A outer s H E) (E := E) rfl rfl rfl rfl) σ
  have tkx := L2N.takes_of (X := cxOf (L2N.CX P w) P w K mg base N_rim_of "rim_of" (defScope s_rim_of) (He.ga K "rim_of") cdv A outer s H E) (E := E) rfl rfl rfl rfl
  have hp : PassesOwn (model P w) _ _ (cxOf (L2N.CX P w) P w K mg base N_rim_of "rim_of" (defScope s_rim_of) (He.ga K "rim_of") cdv A outer s H E).xe := passes_of (X := cxOf (L2N.CX P w) P w K mg base N_rim_of "rim_of" (defScope s_rim_of) (He.ga K "rim_of") cdv A outer s H E) rfl
  exact (css_cons (cs_drop (ce_callC c_look_at_half hr (by decide) tk (cr_cons (ce_var 0) (cr_cons (ce_var 1) cr_nil))))
    (css_cons (cs_if (ct_cmp op_isntA od_isnt (ce_ix ix_seq od_ix (ce_ixN 0 ce_int (fun _ _ => rfl)) (ce_var 1) (fun _ _ => rfl)) ce_none (nomark _)) (css_one (cs_raise T.x_NoRim tkx)) css_nil)
    (css_cons (cs_setL (i := 2) nd (cl_lst (ca_cons (ce_var 1) ca_nil)))
    (css_cons (cs_set (i := 3) nd (ce_callC c_next_at_rim hr (by decide) tk (cr_cons (ce_var 0) (cr_cons (ce_var 1) cr_nil))))
    (css_cons (cs_while FUEL hp (ct_cmp (op_neD hr.units) od_ne (ce_var 3) (ce_var 1) (nomark _)) (css_cons (cs_drop (ce_mo 2 om_append PySem.F.slot_list_append PySem.F.type_list_append mt_append (ca_cons (ce_var 3) ca_nil)))
    (css_one (cs_set (i := 3) nd (ce_callC c_next_at_rim hr (by decide) tk (cr_cons (ce_var 0) (cr_cons (ce_var 3) cr_nil)))))))
    (css_one (cs_ret (ce_tupO 2 T.n_tuple))))))))
theorem sc__law_bag : FnScope N__law_bag P__law_bag (defScope s__law_bag) := ⟨rfl, rfl, rfl, by decide +kernel, rfl, by decide +kernel, by decide +kernel⟩
theorem ok__law_bag (T : Txt K mg)  : Cal P w K mg base 1 "_law_bag" 2 f__law_bag := by
  refine cal_of (k := 0) T.d__law_bag T.g__law_bag sc__law_bag (by decide) (fun _ _ _ _ _ _ us hl => match us, hl with | [_, _], _ => rfl) fun cdv A outer s H E hr => ?_
  have nd := sc__law_bag.nd
  have tk := fun σ => L2N.passAt (L2N.takes_of (X := cxOf (L2N.CX P w) P w K mg base N__law_bag "_law_bag" (defScope s__law_bag) (He.ga K "_law_bag") cdv A outer s H E) (E := E) rfl rfl rfl rfl) σ
  have tkx := L2N.takes_of (X := cxOf (L2N.CX P w) P w K mg base N__law_bag "_law_bag" (defScope s__law_bag) (He.ga K "_law_bag") cdv A outer s H E) (E := E) rfl rfl rfl rfl
  have hp : PassesOwn (model P w) _ _ (cxOf (L2N.CX P w) P w K mg base N__law_bag "_law_bag" (defScope s__law_bag) (He.ga K "_law_bag") cdv A outer s H E).xe := passes_of (X := cxOf (L2N.CX P w) P w K mg base N__law_bag "_law_bag" (defScope s__law_bag) (He.ga K "_law_bag") cdv A outer s H E) rfl
  exact (css_cons (cs_set (i := 2) nd ce_int)
    (css_cons (cs_if (ct_cmp op_lt od_lt (ce_var 1) (ce_cb cd_len cr_lenA (by rfl) T.n_len PySem.boot_len (ca_cons (ce_var 0) ca_nil)) (nomark _)) (css_one (cs_set (i := 2) nd (ce_bin op_mod od_mod (ce_ixN 0 (ce_var 1) (fun _ _ => rfl)) (ce_bin op_mulA od_mul (ce_bin op_pow od_pow ce_int ce_int) (ce_bin op_pow od_pow ce_int ce_int))))) css_nil)
    (css_cons (cs_if (ct_cmp op_lt od_lt (ce_var 2) (ce_bin op_pow od_pow ce_int ce_int) (nomark _)) (css_one (cs_retL (cl_lst (ca_cons ce_int (ca_cons (ce_bin op_addA od_add ce_int (ce_bin op_mod od_mod (ce_bin op_addA od_add (ce_bin op_mulA od_mul (ce_var 2) ce_int) (ce_bin op_mulA od_mul ce_int (ce_var 1))) ce_int)) ca_nil))))) css_nil)
    (css_one (cs_retL (cl_lst (ca_cons (ce_var 2) (ca_cons (ce_bin op_addA od_add ce_int (ce_bin op_mod od_mod (ce_bin op_addA od_add (ce_var 2) (ce_var 1)) ce_int)) ca_nil))))))))
theorem sc__law_take : FnScope N__law_take P__law_take (defScope s__law_take) := ⟨rfl, rfl, rfl, by decide +kernel, rfl, by decide +kernel, by decide +kernel⟩
theorem ok__law_take (T : Txt K mg)  : Cal P w K mg base 1 "_law_take" 2 f__law_take := by
  refine cal_of (k := 0) T.d__law_take T.g__law_take sc__law_take (by decide) (fun _ _ _ _ _ _ us hl => match us, hl with | [_, _], _ => rfl) fun cdv A outer s H E hr => ?_
  have nd := sc__law_take.nd
  have tk := fun σ => L2N.passAt (L2N.takes_of (X := cxOf (L2N.CX P w) P w K mg base N__law_take "_law_take" (defScope s__law_take) (He.ga K "_law_take") cdv A outer s H E) (E := E) rfl rfl rfl rfl) σ
  have tkx := L2N.takes_of (X := cxOf (L2N.CX P w) P w K mg base N__law_take "_law_take" (defScope s__law_take) (He.ga K "_law_take") cdv A outer s H E) (E := E) rfl rfl rfl rfl
  have hp : PassesOwn (model P w) _ _ (cxOf (L2N.CX P w) P w K mg base N__law_take "_law_take" (defScope s__law_take) (He.ga K "_law_take") cdv A outer s H E).xe := passes_of (X := cxOf (L2N.CX P w) P w K mg base N__law_take "_law_take" (defScope s__law_take) (He.ga K "_law_take") cdv A outer s H E) rfl
  exact (css_cons (cs_if (ct_cmp op_gt od_gt (ce_ixN 0 ce_int (fun _ _ => rfl)) ce_int (nomark _)) (css_cons (cs_set (i := 2) nd (ce_bin op_mod od_mod (ce_ixN 0 ce_int (fun _ _ => rfl)) (ce_var 1)))
    (css_cons (cs_setO 0 ce_int (ce_bin op_fdivW od_fdiv (ce_ixN 0 ce_int (fun _ _ => rfl)) (ce_var 1)))
    (css_one (cs_ret (ce_var 2))))) css_nil)
    (css_cons (cs_setO 0 ce_int (ce_bin op_mod od_mod (ce_bin op_mulA od_mul (ce_ixN 0 ce_int (fun _ _ => rfl)) ce_int) ce_int))
    (css_one (cs_ret (ce_bin op_mod od_mod (ce_bin op_fdivW od_fdiv (ce_bin op_mod od_mod (ce_bin op_mulA od_mul (ce_ixN 0 ce_int (fun _ _ => rfl)) (ce_ixN 0 ce_int (fun _ _ => rfl))) ce_int) ce_int) (ce_var 1))))))
theorem sc__law_skin : FnScope N__law_skin P__law_skin (defScope s__law_skin) := ⟨rfl, rfl, rfl, by decide +kernel, rfl, by decide +kernel, by decide +kernel⟩
theorem ok__law_skin (T : Txt K mg) (c__law_take : Cal P w K mg base 1 "_law_take" 2 f__law_take) : Cal P w K mg base 2 "_law_skin" 2 f__law_skin := by
  refine cal_of (k := 1) T.d__law_skin T.g__law_skin sc__law_skin (by decide) (fun _ _ _ _ _ _ us hl => match us, hl with | [_, _], _ => rfl) fun cdv A outer s H E hr => ?_
  have nd := sc__law_skin.nd
  have tk := fun σ => L2N.passAt (L2N.takes_of (X := cxOf (L2N.CX P w) P w K mg base N__law_skin "_law_skin" (defScope s__law_skin) (He.ga K "_law_skin") cdv A outer s H E) (E := E) rfl rfl rfl rfl) σ
  have tkx := L2N.takes_of (X := cxOf (L2N.CX P w) P w K mg base N__law_skin "_law_skin" (defScope s__law_skin) (He.ga K "_law_skin") cdv A outer s H E) (E := E) rfl rfl rfl rfl
  have hp : PassesOwn (model P w) _ _ (cxOf (L2N.CX P w) P w K mg base N__law_skin "_law_skin" (defScope s__law_skin) (He.ga K "_law_skin") cdv A outer s H E).xe := passes_of (X := cxOf (L2N.CX P w) P w K mg base N__law_skin "_law_skin" (defScope s__law_skin) (He.ga K "_law_skin") cdv A outer s H E) rfl
  exact (css_cons (cs_set (i := 2) nd (ce_bin op_addA od_add ce_int (ce_callC c__law_take hr (by decide) tk (cr_lend 0 (cr_cons (ce_var 1) cr_nil)))))
    (css_cons (cs_setL (i := 3) nd (cl_lst ca_nil))
    (css_cons (cs_for hp rfl (ci_range1 T.n_range (ca_cons (ce_var 2) ca_nil)) (cg_name (i := 4) nd) (css_one (cs_drop (ce_mo 3 om_insert PySem.F.slot_list_insert PySem.F.type_list_insert mt_insert (ca_cons (ce_callC c__law_take hr (by decide) tk (cr_lend 0 (cr_cons (ce_bin op_addA od_add (ce_var 4) ce_int) cr_nil))) (ca_cons (ce_var 4) ca_nil))))))
    (css_cons (cs_setL (i := 5) nd (cl_rep (cl_lst (ca_cons ce_int ca_nil)) (ce_var 2)))
    (css_cons (cs_set (i := 6) nd (ce_ix ix_seq od_ix (ce_lst (cl_lst (ca_cons (ce_bin op_addA od_add ce_int (ce_callC c__law_take hr (by decide) tk (cr_lend 0 (cr_cons ce_int cr_nil)))) (ca_cons ce_int (ca_cons (ce_var 2) ca_nil))))) (ce_callC c__law_take hr (by decide) tk (cr_lend 0 (cr_cons ce_int cr_nil))) (fun _ _ => rfl)))
    (css_cons (cs_set (i := 7) nd (ce_lst (cl_listO 3 T.n_list)))
    (css_cons (cs_while FUEL hp (ct_cmp (op_neD hr.units) od_ne (ce_var 7) (ce_lst (cl_lst ca_nil)) (nomark _)) (css_cons (cs_set (i := 8) nd (ce_cb cd_min (call_min2 rfl) (by rfl) T.n_min (by decide +kernel) (ca_cons (ce_cb cd_len cr_lenA (by rfl) T.n_len PySem.boot_len (ca_cons (ce_var 7) ca_nil)) (ca_cons (ce_ix ix_seq od_ix (ce_lst (cl_lst (ca_cons (ce_var 6) (ca_cons (ce_bin op_addA od_add ce_int (ce_callC c__law_take hr (by decide) tk (cr_lend 0 (cr_cons (ce_var 6) cr_nil)))) ca_nil)))) (ce_callC c__law_take hr (by decide) tk (cr_lend 0 (cr_cons ce_int cr_nil))) (fun _ _ => rfl)) ca_nil))))
    (css_cons (cs_set (i := 9) nd (ce_sl (ce_var 7) co_none (co_some (ce_var 8))))
    (css_cons (cs_set (i := 7) nd (ce_sl (ce_var 7) (co_some (ce_var 8)) co_none))
    (css_one (cs_for hp rfl (ci_range1 T.n_range (ca_cons (ce_var 8) ca_nil)) (cg_name (i := 10) nd) (css_one (cs_setO 5 (ce_ixN 9 (ce_bin op_sub od_sub (ce_var 10) ce_int) (fun _ _ => rfl)) (ce_ixN 9 (ce_var 10) (fun _ _ => rfl))))))))))
    (css_cons (cs_setL (i := 11) nd (cl_rep (cl_lst (ca_cons ce_none ca_nil)) (ce_var 2)))
    (css_cons (cs_set (i := 12) nd (ce_ix ix_seq od_ix (ce_lst (cl_lst (ca_cons ce_int (ca_cons ce_int (ca_cons ce_int ca_nil))))) (ce_callC c__law_take hr (by decide) tk (cr_lend 0 (cr_cons ce_int cr_nil))) (fun _ _ => rfl)))
    (css_cons (cs_setL (i := 13) nd (cl_listRg rfl T.n_list T.n_range (ce_var 2)))
    (css_cons (cs_while FUEL hp (ct_cmp op_gt od_gt (ce_lenO 13 T.n_len) ce_int (nomark _)) (css_cons (cs_set (i := 14) nd (ce_mo 13 om_popAt PySem.F.slot_list_pop PySem.F.type_list_pop mt_popAt (ca_cons (ce_callC c__law_take hr (by decide) tk (cr_lend 0 (cr_cons (ce_lenO 13 T.n_len) cr_nil))) ca_nil)))
    (css_cons (cs_set (i := 15) nd (ce_mo 13 om_popAt PySem.F.slot_list_pop PySem.F.type_list_pop mt_popAt (ca_cons (ce_callC c__law_take hr (by decide) tk (cr_lend 0 (cr_cons (ce_lenO 13 T.n_len) cr_nil))) ca_nil)))
    (css_one (cs_if (ct_cmp op_gt od_gt (ce_callC c__law_take hr (by decide) tk (cr_lend 0 (cr_cons (ce_var 12) cr_nil))) ce_int (nomark _)) (css_cons (cs_setO 11 (ce_var 14) (ce_var 15))
    (css_one (cs_setO 11 (ce_var 15) (ce_var 14)))) css_nil)))))
    (css_one (cs_ret (ce_tup (ca_cons (ce_tupO 5 T.n_tuple) (ca_cons (ce_tupO 11 T.n_tuple) ca_nil))))))))))))))))
theorem sc__law_left : FnScope N__law_left P__law_left (defScope s__law_left) := ⟨rfl, rfl, rfl, by decide +kernel, rfl, by decide +kernel, by decide +kernel⟩
theorem ok__law_left (T : Txt K mg)  : Cal P w K mg base 1 "_law_left" 2 f__law_left := by
  refine cal_of (k := 0) T.d__law_left T.g__law_left sc__law_left (by decide) (fun _ _ _ _ _ _ us hl => match us, hl with | [_, _], _ => rfl) fun cdv A outer s H E hr => ?_
  have nd := sc__law_left.nd
  have tk := fun σ => L2N.passAt (L2N.takes_of (X := cxOf (L2N.CX P w) P w K mg base N__law_left "_law_left" (defScope s__law_left) (He.ga K "_law_left") cdv A outer s H E) (E := E) rfl rfl rfl rfl) σ
  have tkx := L2N.takes_of (X := cxOf (L2N.CX P w) P w K mg base N__law_left "_law_left" (defScope s__law_left) (He.ga K "_law_left") cdv A outer s H E) (E := E) rfl rfl rfl rfl
  have hp : PassesOwn (model P w) _ _ (cxOf (L2N.CX P w) P w K mg base N__law_left "_law_left" (defScope s__law_left) (He.ga K "_law_left") cdv A outer s H E).xe := passes_of (X := cxOf (L2N.CX P w) P w K mg base N__law_left "_law_left" (defScope s__law_left) (He.ga K "_law_left") cdv A outer s H E) rfl
  exact (css_one (cs_ret (ce_ix ix_seq od_ix (ce_ixN 0 ce_int (fun _ _ => rfl)) (ce_index (ce_ixN 0 ce_int (fun _ _ => rfl)) (ce_var 1)) (fun _ _ => rfl))))
theorem sc__law_right : FnScope N__law_right P__law_right (defScope s__law_right) := ⟨rfl, rfl, rfl, by decide +kernel, rfl, by decide +kernel, by decide +kernel⟩
theorem ok__law_right (T : Txt K mg)  : Cal P w K mg base 1 "_law_right" 2 f__law_right := by
  refine cal_of (k := 0) T.d__law_right T.g__law_right sc__law_right (by decide) (fun _ _ _ _ _ _ us hl => match us, hl with | [_, _], _ => rfl) fun cdv A outer s H E hr => ?_
  have nd := sc__law_right.nd
  have tk := fun σ => L2N.passAt (L2N.takes_of (X := cxOf (L2N.CX P w) P w K mg base N__law_right "_law_right" (defScope s__law_right) (He.ga K "_law_right") cdv A outer s H E) (E := E) rfl rfl rfl rfl) σ
  have tkx := L2N.takes_of (X := cxOf (L2N.CX P w) P w K mg base N__law_right "_law_right" (defScope s__law_right) (He.ga K "_law_right") cdv A outer s H E) (E := E) rfl rfl rfl rfl
  have hp : PassesOwn (model P w) _ _ (cxOf (L2N.CX P w) P w K mg base N__law_right "_law_right" (defScope s__law_right) (He.ga K "_law_right") cdv A outer s H E).xe := passes_of (X := cxOf (L2N.CX P w) P w K mg base N__law_right "_law_right" (defScope s__law_right) (He.ga K "_law_right") cdv A outer s H E) rfl
  exact (css_cons (cs_if (ct_cmp op_isA od_is (ce_ix ix_seq od_ix (ce_ixN 0 ce_int (fun _ _ => rfl)) (ce_var 1) (fun _ _ => rfl)) ce_none (nomark _)) (css_one (cs_ret ce_none)) css_nil)
    (css_one (cs_ret (ce_ix ix_seq od_ix (ce_ixN 0 ce_int (fun _ _ => rfl)) (ce_ix ix_seq od_ix (ce_ixN 0 ce_int (fun _ _ => rfl)) (ce_var 1) (fun _ _ => rfl)) (fun _ _ => rfl)))))
theorem sc__law_kinds : FnScope N__law_kinds P__law_kinds (defScope s__law_kinds) := ⟨rfl, rfl, rfl, by decide +kernel, rfl, by decide +kernel, by decide +kernel⟩
theorem ok__law_kinds (T : Txt K mg) : CalK P w K mg base 1 "_law_kinds" f__law_kinds := by
  refine calK_of (k := 0) T.d__law_kinds T.g__law_kinds sc__law_kinds rfl (by decide) (fun _ _ _ _ _ _ us hl => match us, hl with | [_], _ => rfl) fun cdv A outer s H a oe d c hc hz hf hot hr => ?_
  have nd := sc__law_kinds.nd
  have hp : (a, oe) ∈ (cxX P w K mg base N__law_kinds "_law_kinds" (defScope s__law_kinds) (He.ga K "_law_kinds") cdv A outer s H (a, oe)).pn := List.mem_singleton.mpr rfl
  exact (css_cons (cs_setL (i := 1) nd (cl_lst (ca_cons (ce_isK (i := 0) "Harm" T.kx hc (by decide) hp hz hf T.n_isinstance) (ca_cons (ce_isK (i := 0) "NoHalf" T.kx hc (by decide) hp hz hf T.n_isinstance) (ca_cons (ce_isK (i := 0) "NoMarks" T.kx hc (by decide) hp hz hf T.n_isinstance) (ca_cons (ce_isK (i := 0) "NoPlain" T.kx hc (by decide) hp hz hf T.n_isinstance) ca_nil))))))
    (css_cons (cs_setL (i := 1) nd (cl_bin op_catR ol_cat (ce_var 1) (ce_lst (cl_lst (ca_cons (ce_isK (i := 0) "NoRim" T.kx hc (by decide) hp hz hf T.n_isinstance) (ca_cons (ce_isK (i := 0) "NoRow" T.kx hc (by decide) hp hz hf T.n_isinstance) (ca_cons (ce_isK (i := 0) "NoSkin" T.kx hc (by decide) hp hz hf T.n_isinstance) (ca_cons (ce_isK (i := 0) "NoText" T.kx hc (by decide) hp hz hf T.n_isinstance) ca_nil))))))))
    (css_cons (cs_setL (i := 1) nd (cl_bin op_catR ol_cat (ce_var 1) (ce_lst (cl_lst (ca_cons (ce_isK (i := 0) "NothingLeft" T.kx hc (by decide) hp hz hf T.n_isinstance) (ca_cons (ce_isK (i := 0) "TooMany" T.kx hc (by decide) hp hz hf T.n_isinstance) (ca_cons (ce_isK (i := 0) "Unfit" T.kx hc (by decide) hp hz hf T.n_isinstance) (ca_cons (ce_isK (i := 0) "Unlike" T.kx hc (by decide) hp hz hf T.n_isinstance) ca_nil))))))))
    (css_cons (cs_set (i := 2) nd (ce_lst (cl_lst (ca_cons ce_str (ca_cons ce_str (ca_cons ce_str (ca_cons ce_str (ca_cons ce_str (ca_cons ce_str (ca_cons ce_str (ca_cons ce_str (ca_cons ce_str (ca_cons ce_str ca_nil)))))))))))))
    (css_cons (cs_set (i := 2) nd (ce_lst (cl_bin op_catR ol_cat (ce_var 2) (ce_lst (cl_lst (ca_cons ce_str (ca_cons ce_str (ca_cons ce_str ca_nil))))))))
    (css_cons (cs_drop (ce_mo 1 om_append PySem.F.slot_list_append PySem.F.type_list_append mt_append (ca_cons (ce_isV (i := 0) T.kx hc hp hz hf T.n_isinstance T.n_ValueError) ca_nil)))
    (css_one (cs_ret (ce_join ce_str (ce_lst (cl_compH hot hp nd (own := [("k", 3)]) (ci_range1H T.n_range (ca_cons ce_int ca_nil)) (blkOk_by (own := [("k", 3)]) (N := N__law_kinds) (sc := defScope s__law_kinds) (by decide +kernel)) (fun _ _ _ _ _ => (cg_name (i := 3) nd)) (fun _ _ _ _ _ => (cts_one (ct_tru (ce_ixN 1 (ce_var 3) (fun _ _ => rfl))))) (fun _ _ _ _ _ => (ce_ixN 2 (ce_var 3) (fun _ _ => rfl))))))))))))))
theorem sc__law_asked : FnScope N__law_asked P__law_asked (defScope s__law_asked) := ⟨rfl, rfl, rfl, by decide +kernel, rfl, by decide +kernel, by decide +kernel⟩
theorem ok__law_asked (T : Txt K mg) (c_ahead_of : Cal P w K mg base 2 "ahead_of" 2 f_ahead_of) (c__law_kinds : CalK P w K mg base 1 "_law_kinds" f__law_kinds) (c_left_of : Cal P w K mg base 3 "left_of" 2 f_left_of) (c_right_of : Cal P w K mg base 2 "right_of" 2 f_right_of) (c_patch_of : Cal P w K mg base 2 "patch_of" 2 f_patch_of) (c_round_knot : Cal P w K mg base 4 "round_knot" 2 f_round_knot) (c_rim_of : Cal P w K mg base 2 "rim_of" 2 f_rim_of) : Cal P w K mg base 5 "_law_asked" 3 f__law_asked := by
  refine cal_of (k := 4) T.d__law_asked T.g__law_asked sc__law_asked (by decide) (fun _ _ _ _ _ _ us hl => match us, hl with | [_, _, _], _ => rfl) fun cdv A outer s H E hr => ?_
  have nd := sc__law_asked.nd
  have tk := fun σ => L2N.passAt (L2N.takes_of (X := cxOf (L2N.CX P w) P w K mg base N__law_asked "_law_asked" (defScope s__law_asked) (He.ga K "_law_asked") cdv A outer s H E) (E := E) rfl rfl rfl rfl) σ
  have tkx := L2N.takes_of (X := cxOf (L2N.CX P w) P w K mg base N__law_asked "_law_asked" (defScope s__law_asked) (He.ga K "_law_asked") cdv A outer s H E) (E := E) rfl rfl rfl rfl
  have hp : PassesOwn (model P w) _ _ (cxOf (L2N.CX P w) P w K mg base N__law_asked "_law_asked" (defScope s__law_asked) (He.ga K "_law_asked") cdv A outer s H E).xe := passes_of (X := cxOf (L2N.CX P w) P w K mg base N__law_asked "_law_asked" (defScope s__law_asked) (He.ga K "_law_asked") cdv A outer s H E) rfl
  exact (css_cons (cs_set (i := 3) nd ce_str)
    (css_cons (cs_set (i := 4) nd ce_none)
    (css_cons (cs_tryK (iE := 5) (iK := 3) T.kx tkx nd (fun _ _ _ tkx hp => have tk := fun σ => L2N.passAt tkx σ; (css_one (cs_if (ct_cmp (op_eqD hr.units) od_eq (ce_var 0) ce_int (nomark _)) (css_one (cs_set (i := 4) nd (ce_callC c_ahead_of hr (by decide) tk (cr_cons (ce_var 1) (cr_cons (ce_var 2) cr_nil))))) (css_one (cs_if (ct_cmp (op_eqD hr.units) od_eq (ce_var 0) ce_int (nomark _)) (css_one (cs_set (i := 4) nd (ce_callC c_left_of hr (by decide) tk (cr_cons (ce_var 1) (cr_cons (ce_var 2) cr_nil))))) (css_one (cs_if (ct_cmp (op_eqD hr.units) od_eq (ce_var 0) ce_int (nomark _)) (css_one (cs_set (i := 4) nd (ce_callC c_right_of hr (by decide) tk (cr_cons (ce_var 1) (cr_cons (ce_var 2) cr_nil))))) (css_one (cs_if (ct_cmp (op_eqD hr.units) od_eq (ce_var 0) ce_int (nomark _)) (css_one (cs_set (i := 4) nd (ce_callC c_patch_of hr (by decide) tk (cr_cons (ce_var 1) (cr_cons (ce_var 2) cr_nil))))) (css_one (cs_if (ct_cmp (op_eqD hr.units) od_eq (ce_var 0) ce_int (nomark _)) (css_one (cs_set (i := 4) nd (ce_callC c_round_knot hr (by decide) tk (cr_cons (ce_var 1) (cr_cons (ce_var 2) cr_nil))))) (css_one (cs_set (i := 4) nd (ce_callC c_rim_of hr (by decide) tk (cr_cons (ce_var 1) (cr_cons (ce_var 2) cr_nil)))))))))))))))) (.cons (by decide) rfl (by decide) (fun c hc hm a oe d pn hz hf => css_one (cs_set (i := 3) nd (ce_kinds (i := 5) c__law_kinds kinds_ok hc hz hf hr (by decide)))) .nil))
    (css_one (cs_ret (ce_tup (ca_cons (ce_var 4) (ca_cons (ce_var 3) ca_nil))))))))
theorem sc__law_none_right : FnScope N__law_none_right P__law_none_right (defScope s__law_none_right) := ⟨rfl, rfl, rfl, by decide +kernel, rfl, by decide +kernel, by decide +kernel⟩
theorem ok__law_none_right (T : Txt K mg) (c__law_asked : Cal P w K mg base 5 "_law_asked" 3 f__law_asked) : Cal P w K mg base 6 "_law_none_right" 2 f__law_none_right := by
  refine cal_of (k := 5) T.d__law_none_right T.g__law_none_right sc__law_none_right (by decide) (fun _ _ _ _ _ _ us hl => match us, hl with | [_, _], _ => rfl) fun cdv A outer s H E hr => ?_
  have nd := sc__law_none_right.nd
  have tk := fun σ => L2N.passAt (L2N.takes_of (X := cxOf (L2N.CX P w) P w K mg base N__law_none_right "_law_none_right" (defScope s__law_none_right) (He.ga K "_law_none_right") cdv A outer s H E) (E := E) rfl rfl rfl rfl) σ
  have tkx := L2N.takes_of (X := cxOf (L2N.CX P w) P w K mg base N__law_none_right "_law_none_right" (defScope s__law_none_right) (He.ga K "_law_none_right") cdv A outer s H E) (E := E) rfl rfl rfl rfl
  have hp : PassesOwn (model P w) _ _ (cxOf (L2N.CX P w) P w K mg base N__law_none_right "_law_none_right" (defScope s__law_none_right) (He.ga K "_law_none_right") cdv A outer s H E).xe := passes_of (X := cxOf (L2N.CX P w) P w K mg base N__law_none_right "_law_none_right" (defScope s__law_none_right) (He.ga K "_law_none_right") cdv A outer s H E) rfl
  exact (css_one (cs_ret (ce_cmp (op_eqD hr.units) od_eq (ce_lst (cl_comp rfl nd (own := [("way", 2)]) (ci_range1 T.n_range (ca_cons ce_int ca_nil)) (blkOk_by (own := [("way", 2)]) (N := N__law_none_right) (sc := defScope s__law_none_right) (by decide +kernel)) (fun _ _ _ _ _ => (cg_name (i := 2) nd)) (fun _ _ _ _ _ => cts_nil) (fun _ _ _ _ _ => (ce_callC c__law_asked hr (by decide) passF (cr_cons (ce_var 2) (cr_cons (ce_var 0) (cr_cons (ce_var 1) cr_nil))))))) (ce_lst (cl_rep (cl_lst (ca_cons (ce_tup (ca_cons ce_none (ca_cons ce_str ca_nil))) ca_nil)) ce_int)) (nomark _))))
theorem sc_law : FnScope N_law P_law (defScope s_law) := ⟨rfl, rfl, rfl, by decide +kernel, rfl, by decide +kernel, by decide +kernel⟩
theorem ok_law (T : Txt K mg) (c__law_bag : Cal P w K mg base 1 "_law_bag" 2 f__law_bag) (c__law_skin : Cal P w K mg base 2 "_law_skin" 2 f__law_skin) (c__law_take : Cal P w K mg base 1 "_law_take" 2 f__law_take) (c__law_left : Cal P w K mg base 1 "_law_left" 2 f__law_left) (c__law_right : Cal P w K mg base 1 "_law_right" 2 f__law_right) (c__law_asked : Cal P w K mg base 5 "_law_asked" 3 f__law_asked) (c__law_none_right : Cal P w K mg base 6 "_law_none_right" 2 f__law_none_right) {fd : FuncData} (F : FnT K "law" s_law fd) : FnOk P w K mg base (L2N.CX P w) 7 (He.ga K "law") fd P_law (spD K mg 1 f_law) := by
  refine fn_bodyD (k := 6) F sc_law (by decide) fun cdv A outer s H E hr => ?_
  have nd := sc_law.nd
  have tk := fun σ => L2N.passAt (L2N.takes_of (X := cxOf (L2N.CX P w) P w K mg base N_law "law" (defScope s_law) (He.ga K "law") cdv A outer s H E) (E := E) rfl rfl rfl rfl) σ
  have tkx := L2N.takes_of (X := cxOf (L2N.CX P w) P w K mg base N_law "law" (defScope s_law) (He.ga K "law") cdv A outer s H E) (E := E) rfl rfl rfl rfl
  have hp : PassesOwn (model P w) _ _ (cxOf (L2N.CX P w) P w K mg base N_law "law" (defScope s_law) (He.ga K "law") cdv A outer s H E).xe := passes_of (X := cxOf (L2N.CX P w) P w K mg base N_law "law" (defScope s_law) (He.ga K "law") cdv A outer s H E) rfl
  exact (css_cons (cs_for hp rfl (ci_range1 T.n_range (ca_cons (ce_bin op_addA od_add ce_int (ce_cb cd_min (call_min2 rfl) (by rfl) T.n_min (by decide +kernel) (ca_cons (ce_cb cd_len cr_lenA (by rfl) T.n_len PySem.boot_len (ca_cons (ce_var 0) ca_nil)) (ca_cons ce_int ca_nil)))) ca_nil)) (cg_name (i := 1) nd) (css_cons (cs_setL (i := 2) nd (cl_callC c__law_bag hr (by decide) tk (cr_cons (ce_var 0) (cr_cons (ce_var 1) cr_nil))))
    (css_cons (cs_set (i := 3) nd (ce_callC c__law_skin hr (by decide) tk (cr_lend 2 (cr_cons (ce_ix ix_seq od_ix (ce_lst (cl_lst (ca_cons ce_int (ca_cons ce_int ca_nil)))) (ce_ct cd_int call_int1 (by rfl) T.n_int (by decide +kernel) (ca_cons (ce_cmp (op_eqD hr.units) od_eq (ce_callC c__law_take hr (by decide) tk (cr_lend 2 (cr_cons ce_int cr_nil))) ce_int (nomark _)) ca_nil)) (fun _ _ => rfl)) cr_nil))))
    (css_cons (cs_set (i := 4) nd (ce_cb cd_len cr_lenA (by rfl) T.n_len PySem.boot_len (ca_cons (ce_ixN 3 ce_int (fun _ _ => rfl)) ca_nil)))
    (css_cons (cs_set (i := 5) nd (ce_lst (cl_listRg rfl T.n_list T.n_range (ce_var 4))))
    (css_cons (cs_if (ct_cmp op_gt od_gt (ce_var 4) ce_int (nomark _)) (css_one (cs_setComp (i := 5) rfl nd rfl rfl (sw_true rfl rfl rfl (by decide +kernel)) (own := [("turn", 9)]) (ci_range1 T.n_range (ca_cons ce_int ca_nil)) (blkOk_by (own := [("turn", 9)]) (N := N_law) (sc := defScope s_law) (by decide +kernel)) (fun _ _ _ _ _ => (cg_name (i := 9) nd)) (fun _ _ _ _ _ => cts_nil) (fun _ _ _ _ _ => (ce_callC c__law_take hr (by decide) passF (cr_lend 2 (cr_cons (ce_var 4) cr_nil)))))) css_nil)
    (css_cons (cs_for hp rfl (ci_seq (ce_var 5)) (cg_name (i := 6) nd) (css_cons (cs_set (i := 7) nd (ce_lst (cl_lst (ca_cons (ce_index (ce_ixN 3 ce_int (fun _ _ => rfl)) (ce_var 6)) (ca_cons (ce_callC c__law_left hr (by decide) tk (cr_cons (ce_var 3) (cr_cons (ce_var 6) cr_nil))) (ca_cons (ce_callC c__law_right hr (by decide) tk (cr_cons (ce_var 3) (cr_cons (ce_var 6) cr_nil))) ca_nil))))))
    (css_cons (cs_setComp (i := 8) rfl nd rfl rfl (sw_true rfl rfl rfl (by decide +kernel)) (own := [("way", 10)]) (ci_range1 T.n_range (ca_cons ce_int ca_nil)) (blkOk_by (own := [("way", 10)]) (N := N_law) (sc := defScope s_law) (by decide +kernel)) (fun _ _ _ _ _ => (cg_name (i := 10) nd)) (fun _ _ _ _ _ => cts_nil) (fun _ _ _ _ _ => (ce_callC c__law_asked hr (by decide) passF (cr_cons (ce_var 10) (cr_cons (ce_var 3) (cr_cons (ce_var 6) cr_nil))))))
    (css_one (cs_if (ct_w (cw_or (ct_cmp (op_neD hr.units) od_ne (ce_var 8) (ce_lst (cl_comp rfl nd (own := [("one", 11)]) (ci_seq (ce_var 7)) (blkOk_by (own := [("one", 11)]) (N := N_law) (sc := defScope s_law) (by decide +kernel)) (fun _ _ _ _ _ => (cg_name (i := 11) nd)) (fun _ _ _ _ _ => cts_nil) (fun _ _ _ _ _ => (ce_tup (ca_cons (ce_var 11) (ca_cons ce_str ca_nil)))))) (nomark _)) (cw_or1 (ct_cmp (op_neD hr.units) od_ne (ce_lst (cl_comp rfl nd (own := [("one", 11)]) (ci_seq (ce_var 8)) (blkOk_by (own := [("one", 11)]) (N := N_law) (sc := defScope s_law) (by decide +kernel)) (fun _ _ _ _ _ => (cg_name (i := 11) nd)) (fun _ _ _ _ _ => (cts_one (ct_val (ce_isi "bool" (by decide +kernel) T.n_bool T.n_isinstance (ce_ixN 11 ce_int (fun _ _ => rfl)))))) (fun _ _ _ _ _ => (ce_var 11)))) (ce_lst (cl_lst ca_nil)) (nomark _))))) (css_one (cs_ret ce_bool)) css_nil)))))
    (css_one (cs_for hp rfl (ci_seq (ce_lst (cl_lst (ca_cons ce_neg (ca_cons (ce_var 4) (ca_cons (ce_un un_neg ud_neg (ce_var 4)) (ca_cons (ce_bin op_pow od_pow ce_int ce_int) (ca_cons (ce_bin op_addA od_add (ce_var 4) (ce_callC c__law_take hr (by decide) tk (cr_lend 2 (cr_cons ce_int cr_nil)))) ca_nil)))))))) (cg_name (i := 6) nd) (css_one (cs_if (ct_not (ct_tru (ce_callC c__law_none_right hr (by decide) tk (cr_cons (ce_var 3) (cr_cons (ce_var 6) cr_nil))))) (css_one (cs_ret ce_bool)) css_nil)))))))))))
    (css_one (cs_ret ce_bool)))
end
end K03
/- part LP -/
set_option Elab.async false
set_option linter.all false
set_option maxRecDepth 100000
set_option maxHeartbeats 4000000
/-! LP: plain lemmas about the functions on data. -/
namespace LW
open PySem L2 DL
/-! ### loops -/
theorem forD_all {g : DG} {body : DS} (P : Nat → DEnv → Prop) : ∀ (ds : List D) (n : Nat) (env : DEnv), (∀ i d e, ds[i]? = some d → P (n + i) e → ∃ e1 e2, g d e = some e1 ∧ (body e1 = .nx e2 ∨ body e1 = .ct e2) ∧ P (n + i + 1) e2) → P n env → ∃ e, forD g body ds env = .nx e ∧ P (n + ds.length) e
  | [], n, env, _, h0 => ⟨env, rfl, h0⟩
  | d :: ds, n, env, h, h0 => by
    obtain ⟨e1, e2, a, b, c⟩ := h 0 d env rfl h0
    obtain ⟨e, a', b'⟩ := forD_all P ds (n + 1) e2 (fun i d' e' hi hp => by
      have := h (i + 1) d' e' (by simpa using hi) (by rw [show n + (i + 1) = n + 1 + i by omega]; exact hp)
      rw [show n + 1 + i + 1 = n + (i + 1) + 1 by omega]
      exact this) c
    refine ⟨e, ?_, by rw [List.length_cons, show n + (ds.length + 1) = n + 1 + ds.length by omega]; exact b'⟩
    unfold forD
    rw [a]
    rcases b with b | b <;> · simp only [b, Fl.turn]; exact a'
/-- a loop that leaves its slots of one form -/
theorem forD_inv {g : DG} {body : DS} (P : DEnv → Prop) (ds : List D) (env : DEnv) (h : ∀ d e, d ∈ ds → P e → ∃ e1 e2, g d e = some e1 ∧ (body e1 = .nx e2 ∨ body e1 = .ct e2) ∧ P e2) (h0 : P env) : ∃ e, forD g body ds env = .nx e ∧ P e :=
  forD_all (fun _ => P) ds 0 env (fun _ d e hi hp => h d e (List.mem_of_getElem? hi) hp) h0
/-! ### isinstance -/
def isIntD : D → Bool
  | .int _ => true
  | .bool _ => true
  | _ => false
def isBoolD : D → Bool
  | .bool _ => true
  | _ => false
def isStrD : D → Bool
  | .str _ => true
  | _ => false
def isTupD : D → Bool
  | .tuple _ => true
  | _ => false
theorem isi_of {T : String} {d : D} {b : Bool} (h : kitB (tyD d) T = some b) : isiD T d = some (.bool b) := by
  unfold isiD
  rw [h]
  rfl
theorem isi_int (d : D) : isiD "int" d = some (.bool (isIntD d)) := by
  cases d with
  | none => exact isi_of (show kitB "NoneType" "int" = some false by decide +kernel)
  | bool _ => exact isi_of (show kitB "bool" "int" = some true by decide +kernel)
  | int _ => exact isi_of (show kitB "int" "int" = some true by decide +kernel)
  | str _ => exact isi_of (show kitB "str" "int" = some false by decide +kernel)
  | list _ => exact isi_of (show kitB "list" "int" = some false by decide +kernel)
  | tuple _ => exact isi_of (show kitB "tuple" "int" = some false by decide +kernel)
  | dict _ => exact isi_of (show kitB "dict" "int" = some false by decide +kernel)
theorem isi_bool (d : D) : isiD "bool" d = some (.bool (isBoolD d)) := by
  cases d with
  | none => exact isi_of (show kitB "NoneType" "bool" = some false by decide +kernel)
  | bool _ => exact isi_of (show kitB "bool" "bool" = some true by decide +kernel)
  | int _ => exact isi_of (show kitB "int" "bool" = some false by decide +kernel)
  | str _ => exact isi_of (show kitB "str" "bool" = some false by decide +kernel)
  | list _ => exact isi_of (show kitB "list" "bool" = some false by decide +kernel)
  | tuple _ => exact isi_of (show kitB "tuple" "bool" = some false by decide +kernel)
  | dict _ => exact isi_of (show kitB "dict" "bool" = some false by decide +kernel)
theorem isi_str (d : D) : isiD "str" d = some (.bool (isStrD d)) := by
  cases d with
  | none => exact isi_of (show kitB "NoneType" "str" = some false by decide +kernel)
  | bool _ => exact isi_of (show kitB "bool" "str" = some false by decide +kernel)
  | int _ => exact isi_of (show kitB "int" "str" = some false by decide +kernel)
  | str _ => exact isi_of (show kitB "str" "str" = some true by decide +kernel)
  | list _ => exact isi_of (show kitB "list" "str" = some false by decide +kernel)
  | tuple _ => exact isi_of (show kitB "tuple" "str" = some false by decide +kernel)
  | dict _ => exact isi_of (show kitB "dict" "str" = some false by decide +kernel)
theorem isi_tup (d : D) : isiD "tuple" d = some (.bool (isTupD d)) := by
  cases d with
  | none => exact isi_of (show kitB "NoneType" "tuple" = some false by decide +kernel)
  | bool _ => exact isi_of (show kitB "bool" "tuple" = some false by decide +kernel)
  | int _ => exact isi_of (show kitB "int" "tuple" = some false by decide +kernel)
  | str _ => exact isi_of (show kitB "str" "tuple" = some false by decide +kernel)
  | list _ => exact isi_of (show kitB "list" "tuple" = some false by decide +kernel)
  | tuple _ => exact isi_of (show kitB "tuple" "tuple" = some true by decide +kernel)
  | dict _ => exact isi_of (show kitB "dict" "tuple" = some false by decide +kernel)
/-! ### draws -/
def bagL (s : Int × Int) : List D := [.int s.1, .int s.2]
theorem divOk_of {m : Int} (h : 0 < m) (h2 : m < 2 ^ 64) : divOk m = true := by
  unfold divOk
  have h3 : m.natAbs < 2 ^ 64 := by omega
  have h4 : m.natAbs < 2 ^ 4000 := Nat.lt_of_lt_of_le h3 (Nat.pow_le_pow_right (by decide) (by decide))
  rw [decide_eq_true h, decide_eq_true h4]
  rfl
theorem mulOk_r {i j : Int} (h1 : -(2 ^ 64) < j) (h2 : j < 2 ^ 64) : mulOk i j = true := by
  unfold mulOk
  rw [decide_eq_true h1, decide_eq_true h2]
  simp
theorem mulOk_l {i j : Int} (h1 : -(2 ^ 64) < i) (h2 : i < 2 ^ 64) : mulOk i j = true := by
  unfold mulOk
  rw [decide_eq_true h1, decide_eq_true h2]
  simp
/-- a draw: some number below many, whatever the bag holds -/
theorem take_ok (s : Int × Int) (m : Int) (hm : 0 < m) (hm2 : m < 2 ^ 64) : ∃ r s', 0 ≤ r ∧ r < m ∧ f__law_take [.p (bagL s), .v (.int m)] = .ok (.int r) [.p (bagL s'), .no] := by
  have h64 := divOk_of hm hm2
  obtain ⟨x, y⟩ := s
  by_cases hx : 0 < x
  · refine ⟨x % m, (x / m, y), Int.emod_nonneg _ (by omega), Int.emod_lt_of_pos _ hm, ?_⟩
    simp [f__law_take, bodyF, b__law_take, bagL, sSeq, sIf, sAsg, sRet, sSetO, tTst, eBin, eIxN, eC, eVar, known, ixAt, dIx, dGt, dMod, dFdiv, put, Rs.bind, Rs.fl, Fl.seq, gN, setV, getL, putL, atI, ixN, hx, hm, h64, outsOf, outOf]
  · have c1 : mulOk y 48271 = true := mulOk_r (by decide) (by decide)
    have c2 : (0 : Int) < 2147483647 := by decide
    have b1 : 0 ≤ y * 48271 % 2147483647 := Int.emod_nonneg _ (by decide)
    have b2 : y * 48271 % 2147483647 < 2147483647 := Int.emod_lt_of_pos _ (by decide)
    have c3 : mulOk (y * 48271 % 2147483647) (y * 48271 % 2147483647) = true := mulOk_l (by omega) (by omega)
    have c4 : divOk 2147483629 = true := divOk_of (by decide) (by decide)
    have c5 : divOk 64 = true := divOk_of (by decide) (by decide)
    have c0 : decide (0 < x) = false := decide_eq_false hx
    refine ⟨(y * 48271 % 2147483647) * (y * 48271 % 2147483647) % 2147483629 / 64 % m, (x, y * 48271 % 2147483647), Int.emod_nonneg _ (by omega), Int.emod_lt_of_pos _ hm, ?_⟩
    generalize hz : y * 48271 % 2147483647 = z at c3
    simp [f__law_take, bodyF, b__law_take, bagL, sSeq, sIf, sAsg, sRet, sSetO, tTst, eBin, eIxN, eC, eVar, known, ixAt, dIx, dGt, dMod, dFdiv, dMul, put, Rs.bind, Rs.fl, Fl.seq, gN, setV, getL, putL, atI, ixN, c0, c1, c2, c3, c4, c5, hz, hm, h64, outsOf, outOf, sNx]
def T18 : Int := 10 ^ 18
def T120 : Int := 10 ^ 60 * 10 ^ 60
theorem T120_pos : 0 < T120 := by decide +kernel
theorem powOk60 : powOk 10 60 = true := by decide +kernel
theorem powOk18 : powOk 10 18 = true := by decide +kernel
theorem mulOk60 : mulOk ((10 : Int) ^ (60 : Int).toNat) ((10 : Int) ^ (60 : Int).toNat) = true := by decide +kernel
theorem ev18 (env : DEnv) : eBin dPow (eC (.int 10)) (eC (.int 18)) env = .ok (.int T18) env := by
  show put (if powOk 10 18 = true then some (PyData.int ((10 : Int) ^ (18 : Int).toNat)) else none) env = _
  rw [if_pos powOk18]
  rfl
theorem ev60 (env : DEnv) : eBin dPow (eC (.int 10)) (eC (.int 60)) env = .ok (.int ((10 : Int) ^ (60 : Int).toNat)) env := by
  show put (if powOk 10 60 = true then some (PyData.int ((10 : Int) ^ (60 : Int).toNat)) else none) env = _
  rw [if_pos powOk60]
  rfl
theorem ev120 (env : DEnv) : eBin dMul (eBin dPow (eC (.int 10)) (eC (.int 60))) (eBin dPow (eC (.int 10)) (eC (.int 60))) env = .ok (.int T120) env := by
  show ((eBin dPow (eC (.int 10)) (eC (.int 60)) env).bind fun x e1 => (eBin dPow (eC (.int 10)) (eC (.int 60)) e1).bind fun y e2 => put (dMul x y) e2) = _
  rw [ev60, bind_ok, ev60, bind_ok]
  show put (if mulOk ((10 : Int) ^ (60 : Int).toNat) ((10 : Int) ^ (60 : Int).toNat) = true then some (PyData.int ((10 : Int) ^ (60 : Int).toNat * (10 : Int) ^ (60 : Int).toNat)) else none) env = _
  rw [if_pos mulOk60]
  rfl
theorem atI_ints (ns : List Int) {k : Int} (h0 : 0 ≤ k) (h1 : k < (ns.length : Int)) : ∃ v, atI (ns.map PyData.int) k = some (.int v) := by
  obtain ⟨n, rfl⟩ := Int.eq_ofNat_of_zero_le h0
  have hl : n < ns.length := by omega
  exact ⟨ns[n], atI_nat (by simp [hl])⟩
/-- the bag of a cell -/
theorem bag_ok (ns : List Int) (k : Int) (hk : 0 ≤ k) : ∃ s, f__law_bag [.v (scriptD ns), .v (.int k)] = .okl (bagL s) [.no, .no] := by
  have m1 : ∀ c : Int, mulOk c 7919 = true := fun c => mulOk_r (by decide) (by decide)
  have m2 : mulOk 104729 k = true := mulOk_l (by decide) (by decide)
  have m3 : (0 : Int) < 2147483646 := by decide
  by_cases c : k < (ns.length : Int)
  · obtain ⟨v, hv⟩ := atI_ints ns hk c
    by_cases hc : v % T120 < T18
    · refine ⟨(0, 1 + (v % T120 * 7919 + 104729 * k) % 2147483646), ?_⟩
      simp [↓ev18, ↓ev120, f__law_bag, bodyF, b__law_bag, scriptD, sSeq, sIf, sAsg, sRetL, tTst, eBin, eIxN, eC, eVar, known, ixAt, dIx, dLt, dMod, dAdd, dMul, put, Rs.bind, Rs.fl, Fl.seq, gN, setV, eCB, aCons, aNil, fLen, lLst, sNx, c, hv, hc, T120_pos, m1, m2, m3, outsOf, outOf, bagL]
    · refine ⟨(v % T120, 1 + (v % T120 + k) % 2147483646), ?_⟩
      simp [↓ev18, ↓ev120, f__law_bag, bodyF, b__law_bag, scriptD, sSeq, sIf, sAsg, sRetL, tTst, eBin, eIxN, eC, eVar, known, ixAt, dIx, dLt, dMod, dAdd, dMul, put, Rs.bind, Rs.fl, Fl.seq, gN, setV, eCB, aCons, aNil, fLen, lLst, sNx, c, hv, hc, T120_pos, m1, m2, m3, outsOf, outOf, bagL]
  · by_cases hc : 0 < T18
    · refine ⟨(0, 1 + (0 * 7919 + 104729 * k) % 2147483646), ?_⟩
      simp [↓ev18, ↓ev120, f__law_bag, bodyF, b__law_bag, scriptD, sSeq, sIf, sAsg, sRetL, tTst, eBin, eIxN, eC, eVar, known, ixAt, dIx, dLt, dMod, dAdd, dMul, put, Rs.bind, Rs.fl, Fl.seq, gN, setV, eCB, aCons, aNil, fLen, lLst, sNx, c, hc, T120_pos, m1, m2, m3, outsOf, outOf, bagL]
    · exact absurd (by decide +kernel : (0 : Int) < T18) hc
end LW
/- part NX -/
set_option Elab.async false
set_option linter.all false
set_option maxRecDepth 100000
set_option maxHeartbeats 4000000
/-! NX: plain lemmas: shapes, rows, what is a skin. -/
namespace DL
open PySem L2
def np : Sl → Bool
  | .p _ => false
  | _ => true
theorem np_no : np .no = true := (rfl)
theorem np_v (d : D) : np (.v d) = true := (rfl)
theorem np_l (d : List D) : np (.l d) = true := (rfl)
theorem np_m (d : List (D × D)) : np (.m d) = true := (rfl)
theorem np_p (d : List D) : np (.p d) = false := (rfl)
def Fl.out (args : DEnv) : Fl → Fo
  | .nx e => .ok .none (outsOf args e)
  | .rt d e => .ok d (outsOf args e)
  | .rl xs e => .okl xs (outsOf args e)
  | .ex x e => .ex x (outsOf args e)
  | _ => .stuck
theorem bodyF_ap (n : Nat) (ds : DS) (args : DEnv) : bodyF n ds args = (ds (args ++ List.replicate (n - args.length) Sl.no)).out args := by
  unfold bodyF
  cases ds (args ++ List.replicate (n - args.length) Sl.no) <;> rfl
theorem out_nx (args e : DEnv) : (Fl.nx e).out args = .ok .none (outsOf args e) := (rfl)
theorem out_rt (args e : DEnv) (d : D) : (Fl.rt d e).out args = .ok d (outsOf args e) := (rfl)
theorem out_rl (args e : DEnv) (d : List D) : (Fl.rl d e).out args = .okl d (outsOf args e) := (rfl)
theorem out_stuck (args : DEnv) : (Fl.stuck).out args = .stuck := (rfl)
theorem out_ex (args e : DEnv) (d : Xc) : (Fl.ex d e).out args = .ex d (outsOf args e) := (rfl)
end DL
namespace LW
open PySem L2 DL
/-! ### shapes -/
def shD (k : Nat) (d : D) : Prop := d.canLay0 = true ∧ d.depth ≤ k
def shA (k : Nat) (xs : List D) : Prop := ∀ x, x ∈ xs → shD k x
theorem shA_lay {k : Nat} : ∀ {xs : List D}, shA k xs → PyData.canLayAll0 xs = true ∧ PyData.depthAll xs ≤ k
  | [], _ => ⟨rfl, Nat.zero_le _⟩
  | x :: xs, h => by
    have a := h x (List.mem_cons_self ..)
    have b := shA_lay (xs := xs) fun y hy => h y (List.mem_cons_of_mem _ hy)
    simp only [PyData.canLayAll0, PyData.depthAll, Bool.and_eq_true]
    exact ⟨⟨a.1, b.1⟩, Nat.max_le.2 ⟨a.2, b.2⟩⟩
theorem shD_tup {k : Nat} {xs : List D} (h : shA k xs) : shD (k + 1) (.tuple xs) := by
  obtain ⟨a, b⟩ := shA_lay h
  exact ⟨by simpa [PyData.canLay0] using a, by simp [PyData.depth]; exact b⟩
theorem shD_lst {k : Nat} {xs : List D} (h : shA k xs) : shD (k + 1) (.list xs) := by
  obtain ⟨a, b⟩ := shA_lay h
  exact ⟨by simpa [PyData.canLay0] using a, by simp [PyData.depth]; exact b⟩
theorem shD_int (k : Nat) (i : Int) : shD k (.int i) := ⟨rfl, by simp [PyData.depth]⟩
theorem shD_bool (k : Nat) (i : Bool) : shD k (.bool i) := ⟨rfl, by simp [PyData.depth]⟩
theorem shD_none (k : Nat) : shD k .none := ⟨rfl, by simp [PyData.depth]⟩
theorem shD_up {k m : Nat} (hk : k ≤ m) {d : D} (h : shD k d) : shD m d := ⟨h.1, Nat.le_trans h.2 hk⟩
theorem shaped_of {k : Nat} (hk : k ≤ 64) {d : D} (h : shD k d) : SeqAt.shaped d = true := by
  unfold SeqAt.shaped
  simp [h.1]
  exact Nat.le_trans h.2 hk
theorem dEq_of {k : Nat} (hk : k ≤ 64) {a b : D} (ha : shD k a) (hb : shD k b) : dEq a b = some (.bool (PyData.eqv a b)) := by
  unfold dEq
  rw [if_pos ⟨shaped_of hk ha, shaped_of hk hb⟩]
theorem dNe_of {k : Nat} (hk : k ≤ 64) {a b : D} (ha : shD k a) (hb : shD k b) : dNe a b = some (.bool (!PyData.eqv a b)) := by
  unfold dNe
  rw [if_pos ⟨shaped_of hk ha, shaped_of hk hb⟩]
@[simp] theorem dEq_int (i j : Int) : dEq (.int i) (.int j) = some (.bool (decide (i = j))) := by
  rw [dEq_of (k := 0) (by decide) (shD_int ..) (shD_int ..)]
  simp [PyData.eqv]
  rfl
@[simp] theorem dNe_int (i j : Int) : dNe (.int i) (.int j) = some (.bool (!decide (i = j))) := by
  rw [dNe_of (k := 0) (by decide) (shD_int ..) (shD_int ..)]
  simp [PyData.eqv]
  rfl
@[simp] theorem dNe_bool (i j : Bool) : dNe (.bool i) (.bool j) = some (.bool (i != j)) := by
  rw [dNe_of (k := 0) (by decide) (shD_bool ..) (shD_bool ..)]
  simp only [PyData.eqv, bne]
theorem eqvAll_nil (xs : List D) : PyData.eqvAll xs [] = xs.isEmpty := by
  cases xs <;> simp [PyData.eqvAll]
/-! ### ranges -/
theorem mem_rng {lo hi : Int} {d : D} (h : d ∈ rngD lo hi) : ∃ k : Int, d = .int k ∧ lo ≤ k ∧ k < hi := by
  unfold rngD at h
  obtain ⟨n, hn, rfl⟩ := List.mem_map.1 h
  have := List.mem_range.1 hn
  exact ⟨lo + n, rfl, by omega, by omega⟩
theorem len_rng (lo hi : Int) : (rngD lo hi).length = (hi - lo).toNat := by simp [rngD]
def nD (k : Nat) : D := .int (k : Int)
def nsD (L : List Nat) : List D := L.map nD
def oD : Option Nat → D
  | none => .none
  | some k => nD k
def osD (L : List (Option Nat)) : List D := L.map oD
@[simp] theorem nsD_len (L : List Nat) : (nsD L).length = L.length := by simp [nsD]
@[simp] theorem osD_len (L : List (Option Nat)) : (osD L).length = L.length := by simp [osD]
@[simp] theorem nsD_empty (L : List Nat) : (nsD L).isEmpty = L.isEmpty := by cases L <;> rfl
theorem nsD_get (L : List Nat) (i : Nat) : (nsD L)[i]? = (L[i]?).map nD := by simp [nsD]
theorem osD_get (L : List (Option Nat)) (i : Nat) : (osD L)[i]? = (L[i]?).map oD := by simp [osD]
theorem nsD_set (L : List Nat) (i v : Nat) : (nsD L).set i (nD v) = nsD (L.set i v) := by simp [nsD, List.map_set]
theorem osD_set (L : List (Option Nat)) (i : Nat) (v : Option Nat) : (osD L).set i (oD v) = osD (L.set i v) := by simp [osD, List.map_set]
theorem nsD_app (L M : List Nat) : nsD L ++ nsD M = nsD (L ++ M) := by simp [nsD]
theorem nsD_take (L : List Nat) (k : Nat) : (nsD L).take k = nsD (L.take k) := by simp [nsD, List.map_take]
theorem nsD_drop (L : List Nat) (k : Nat) : (nsD L).drop k = nsD (L.drop k) := by simp [nsD, List.map_drop]
theorem nsD_erase (L : List Nat) (k : Nat) : (nsD L).eraseIdx k = nsD (L.eraseIdx k) := by
  induction L generalizing k with
  | nil => rfl
  | cons x L ih =>
    cases k with
    | zero => rfl
    | succ k => simp only [nsD, List.map_cons, List.eraseIdx_cons_succ] at ih ⊢; rw [ih]
theorem nsD_sh (k : Nat) (L : List Nat) : shA k (nsD L) := fun x hx => by
  obtain ⟨n, _, rfl⟩ := List.mem_map.1 hx
  exact shD_int _ _
theorem oD_sh (k : Nat) (o : Option Nat) : shD k (oD o) := by
  cases o
  · exact shD_none _
  · exact shD_int _ _
theorem osD_sh (k : Nat) (L : List (Option Nat)) : shA k (osD L) := fun x hx => by
  obtain ⟨n, _, rfl⟩ := List.mem_map.1 hx
  exact oD_sh _ _
theorem ixN_of {n k : Nat} (h : k < n) : ixN n (k : Int) = some k := by
  unfold ixN
  rw [if_pos (by omega), if_pos (by omega)]
  simp
theorem seqIx_of {n k : Nat} (h : k < n) : seqIndex? (k : Int) n = some k := (ixN_seq (ixN_of h)).1
theorem atI_k {xs : List D} {k : Nat} {d : D} (h : xs[k]? = some d) : atI xs (k : Int) = some d := atI_nat h
/-- the one told ahead in a row that comes round -/
def prevOf (p : List Nat) (i : Nat) : Nat := if i = 0 then p.getD (p.length - 1) 0 else p.getD (i - 1) 0
theorem atI_prev {p : List Nat} {i : Nat} (h : i < p.length) : atI (nsD p) ((i : Int) - 1) = some (nD (prevOf p i)) := by
  unfold prevOf
  by_cases c : i = 0
  · subst c
    rw [if_pos rfl]
    unfold atI ixN
    have h1 : ¬ (0 ≤ ((0 : Nat) : Int) - 1) := by omega
    have h2 : -((nsD p).length : Int) ≤ ((0 : Nat) : Int) - 1 := by rw [nsD_len]; omega
    rw [if_neg h1, if_pos h2]
    have h3 : (((0 : Nat) : Int) - 1 + ((nsD p).length : Int)).toNat = p.length - 1 := by rw [nsD_len]; omega
    rw [h3]
    show (nsD p)[p.length - 1]? = _
    rw [nsD_get, List.getElem?_eq_getElem (by omega : p.length - 1 < p.length)]
    simp [List.getD, List.getElem?_eq_getElem (by omega : p.length - 1 < p.length)]
  · rw [if_neg c]
    have h3 : (i : Int) - 1 = ((i - 1 : Nat) : Int) := by omega
    rw [h3]
    refine atI_k ?_
    rw [nsD_get, List.getElem?_eq_getElem (by omega : i - 1 < p.length)]
    simp [List.getD, List.getElem?_eq_getElem (by omega : i - 1 < p.length)]
theorem prev_mem {p : List Nat} {i : Nat} (h : i < p.length) : prevOf p i ∈ p := by
  unfold prevOf
  split
  · simp [List.getD, List.getElem?_eq_getElem (by omega : p.length - 1 < p.length)]
  · simp [List.getD, List.getElem?_eq_getElem (by omega : i - 1 < p.length)]
theorem getD_inj {p : List Nat} (hn : p.Nodup) {i j : Nat} (hi : i < p.length) (hj : j < p.length) (h : p.getD i 0 = p.getD j 0) : i = j := by
  simp [List.getD, List.getElem?_eq_getElem hi, List.getElem?_eq_getElem hj] at h
  have pw := List.pairwise_iff_getElem.1 hn
  rcases Nat.lt_trichotomy i j with c | c | c
  · exact absurd h (pw i j hi hj c)
  · exact c
  · exact absurd h.symm (pw j i hj hi c)
theorem prev_inj {p : List Nat} (hn : p.Nodup) {i j : Nat} (hi : i < p.length) (hj : j < p.length) (h : prevOf p i = prevOf p j) : i = j := by
  unfold prevOf at h
  by_cases c : i = 0
  · rw [if_pos c] at h
    by_cases d : j = 0
    · omega
    · rw [if_neg d] at h
      have := getD_inj hn (by omega) (by omega) h
      omega
  · rw [if_neg c] at h
    by_cases d : j = 0
    · rw [if_pos d] at h
      have := getD_inj hn (by omega) (by omega) h
      omega
    · rw [if_neg d] at h
      have := getD_inj hn (by omega) (by omega) h
      omega
/-- a row that was told to come round, does -/
theorem round_perm {p on : List Nat} (hn : p.Nodup) (h : ∀ i, i < p.length → on[prevOf p i]? = some (p.getD i 0)) : (p.map fun x => on.getD x 0).Perm p := by
  have e : (p.map fun x => on.getD x 0) = p.drop 1 ++ p.take 1 := by
    apply List.ext_getElem
    · simp; omega
    · intro j h1 h2
      simp only [List.length_map] at h1
      rw [List.getElem_map]
      by_cases c : j + 1 < p.length
      · have := h (j + 1) c
        unfold prevOf at this
        rw [if_neg (by omega), Nat.add_sub_cancel] at this
        simp only [List.getD, List.getElem?_eq_getElem h1, List.getElem?_eq_getElem c, Option.getD_some] at this
        rw [List.getElem_append_left (by simp; omega)]
        simp only [List.getD, this, Option.getD_some, List.getElem_drop]
        congr 1
        omega
      · have := h 0 (by omega)
        unfold prevOf at this
        rw [if_pos rfl] at this
        have e1 : p.length - 1 = j := by omega
        rw [e1] at this
        simp only [List.getD, List.getElem?_eq_getElem h1, Option.getD_some] at this
        rw [List.getElem?_eq_getElem (show 0 < p.length by omega), Option.getD_some] at this
        rw [List.getElem_append_right (by simp; omega)]
        simp only [List.getD, this, Option.getD_some, List.getElem_take]
        congr 1
        simp
        omega
  rw [e]
  have := List.perm_append_comm (l₁ := p.drop 1) (l₂ := p.take 1)
  rw [List.take_append_drop] at this
  exact this
theorem map_range_getD (on : List Nat) : (List.range on.length).map (fun x => on.getD x 0) = on := by
  apply List.ext_getElem
  · simp
  · intro i h1 h2
    simp [List.getD, List.getElem?_eq_getElem h2]
structure SkinP (n : Nat) (on : List Nat) (ms : List (Option Nat)) : Prop where
  perm : on.Perm (List.range n)
  len : ms.length = n
  mate : ∀ i j : Nat, ms[i]? = some (some j) → j < n ∧ j ≠ i ∧ ms[j]? = some (some i)
def skinD (on : List Nat) (ms : List (Option Nat)) : D := .tuple [.tuple (nsD on), .tuple (osD ms)]
structure SkM (n : Nat) (ms : List (Option Nat)) (wt : List Nat) : Prop where
  len : ms.length = n
  nod : wt.Nodup
  lew : wt.length ≤ n
  lone : ∀ x, x ∈ wt → x < n ∧ ms[x]? = some none
  mate : ∀ i j : Nat, ms[i]? = some (some j) → j < n ∧ j ≠ i ∧ ms[j]? = some (some i)
theorem SkM.put {n : Nat} {ms : List (Option Nat)} {wt : List Nat} (h : SkM n ms wt) {a b : Nat} (ha : a ∉ wt) (hb : b ∉ wt) (hab : a ≠ b) (la : a < n) (lb : b < n) (na : ms[a]? = some none) (nb : ms[b]? = some none) : SkM n ((ms.set a (some b)).set b (some a)) wt where
  len := by simp [h.len]
  nod := h.nod
  lew := h.lew
  lone := fun x hx => by
    have := h.lone x hx
    refine ⟨this.1, ?_⟩
    have xb : b ≠ x := fun e => hb (by rw [e]; exact hx)
    have xa : a ≠ x := fun e => ha (by rw [e]; exact hx)
    rw [List.getElem?_set_ne xb, List.getElem?_set_ne xa]
    exact this.2
  mate := fun i j hij => by
    have l1 : a < ms.length := by rw [h.len]; exact la
    have l2 : b < (ms.set a (some b)).length := by simp [h.len, lb]
    by_cases c : i = b
    · subst c
      rw [List.getElem?_set_self l2] at hij
      cases hij
      refine ⟨la, hab, ?_⟩
      rw [List.getElem?_set_ne (Ne.symm hab), List.getElem?_set_self l1]
    · rw [List.getElem?_set_ne (Ne.symm c)] at hij
      by_cases d : i = a
      · subst d
        rw [List.getElem?_set_self l1] at hij
        cases hij
        exact ⟨lb, Ne.symm c, by rw [List.getElem?_set_self l2]⟩
      · rw [List.getElem?_set_ne (Ne.symm d)] at hij
        obtain ⟨x, y, z⟩ := h.mate i j hij
        have ja : j ≠ a := fun e => by rw [e, na] at z; cases z
        have jb : j ≠ b := fun e => by rw [e, nb] at z; cases z
        refine ⟨x, y, ?_⟩
        rw [List.getElem?_set_ne (Ne.symm jb), List.getElem?_set_ne (Ne.symm ja)]
        exact z
theorem SkM.drop {n : Nat} {ms : List (Option Nat)} {wt : List Nat} (h : SkM n ms wt) (k : Nat) : SkM n ms (wt.eraseIdx k) :=
  ⟨h.len, h.nod.sublist (List.eraseIdx_sublist _ _), Nat.le_trans (List.eraseIdx_sublist _ _).length_le h.lew, fun x hx => h.lone x ((List.eraseIdx_sublist _ _).subset hx), h.mate⟩
theorem erase_out {wt : List Nat} (h : wt.Nodup) {k : Nat} (hk : k < wt.length) : wt[k] ∉ wt.eraseIdx k := fun hx => by
  rw [List.mem_eraseIdx_iff_getElem] at hx
  obtain ⟨i, hi, hik, e⟩ := hx
  have pw := List.pairwise_iff_getElem.1 h
  rcases Nat.lt_or_gt_of_ne hik with c | c
  · exact pw i k hi hk c e
  · exact pw k i hk hi c e.symm
end LW
/- part NT0 -/
set_option Elab.async false
set_option linter.all false
set_option autoImplicit false
/-! NT0: typed functions of their own, and how a form on slots follows them. -/
namespace NT
open PySem L2 DL LW
/-! ### typed answers -/
inductive N (α : Type) where
  | ok (a : α)
  | ex (x : Xc)
  | stuck
inductive Ct (σ l ρ : Type) where
  | nx (s : σ)
  | rt (r : ρ)
  | bk (s : l)
  | ct (s : l)
  | ex (x : Xc)
  | stuck
section
variable {α β σ τ l ρ : Type}
def N.bd (m : N α) (k : α → N β) : N β := match m with
  | .ok a => k a
  | .ex x => .ex x
  | .stuck => .stuck
def N.ct (m : N α) (k : α → Ct σ l ρ) : Ct σ l ρ := match m with
  | .ok a => k a
  | .ex x => .ex x
  | .stuck => .stuck
def Ct.sq (m : Ct σ l ρ) (k : σ → Ct τ l ρ) : Ct τ l ρ := match m with
  | .nx s => k s
  | .rt r => .rt r
  | .bk s => .bk s
  | .ct s => .ct s
  | .ex x => .ex x
  | .stuck => .stuck
/-- a def's answer: what it returns -/
def Ct.fn (m : Ct σ l ρ) : N ρ := match m with
  | .rt r => .ok r
  | .ex x => .ex x
  | _ => .stuck
/-- the answer of a def that returns nothing: what it leaves -/
def Ct.fp (m : Ct ρ l ρ) : N ρ := match m with
  | .nx r => .ok r
  | .rt r => .ok r
  | .ex x => .ex x
  | _ => .stuck
def ofO (o : Option α) : N α := match o with
  | some a => .ok a
  | none => .stuck
def gd (b : Bool) : N Unit := match b with
  | true => .ok ()
  | false => .stuck
def optC {γ : Type} (x : Option α) (a : γ) (b : α → γ) : γ := match x with
  | none => a
  | some y => b y
@[simp] theorem bd_ok (a : α) (k : α → N β) : (N.ok a).bd k = k a := rfl
@[simp] theorem bd_ex (x : Xc) (k : α → N β) : (N.ex x : N α).bd k = .ex x := rfl
@[simp] theorem bd_stuck (k : α → N β) : (N.stuck : N α).bd k = .stuck := rfl
@[simp] theorem ct_ok (a : α) (k : α → Ct σ l ρ) : (N.ok a).ct k = k a := rfl
@[simp] theorem ct_ex (x : Xc) (k : α → Ct σ l ρ) : (N.ex x : N α).ct k = .ex x := rfl
@[simp] theorem ct_stuck (k : α → Ct σ l ρ) : (N.stuck : N α).ct k = .stuck := rfl
@[simp] theorem sq_nx (s : σ) (k : σ → Ct τ l ρ) : (Ct.nx s : Ct σ l ρ).sq k = k s := rfl
@[simp] theorem sq_rt (s : ρ) (k : σ → Ct τ l ρ) : (Ct.rt s : Ct σ l ρ).sq k = .rt s := rfl
@[simp] theorem sq_bk (s : l) (k : σ → Ct τ l ρ) : (Ct.bk s : Ct σ l ρ).sq k = .bk s := rfl
@[simp] theorem sq_ct (s : l) (k : σ → Ct τ l ρ) : (Ct.ct s : Ct σ l ρ).sq k = .ct s := rfl
@[simp] theorem sq_ex (s : Xc) (k : σ → Ct τ l ρ) : (Ct.ex s : Ct σ l ρ).sq k = .ex s := rfl
@[simp] theorem sq_stuck (k : σ → Ct τ l ρ) : (Ct.stuck : Ct σ l ρ).sq k = .stuck := rfl
@[simp] theorem sq_Nct (m : N α) (k : α → Ct σ l ρ) (j : σ → Ct τ l ρ) : (m.ct k).sq j = m.ct fun a => (k a).sq j := by cases m <;> rfl
@[simp] theorem fn_rt (r : ρ) : (Ct.rt r : Ct σ l ρ).fn = .ok r := rfl
@[simp] theorem fn_ex (r : Xc) : (Ct.ex r : Ct σ l ρ).fn = .ex r := rfl
@[simp] theorem fn_stuck : (Ct.stuck : Ct σ l ρ).fn = .stuck := rfl
@[simp] theorem fn_Nct (m : N α) (k : α → Ct σ l ρ) : (m.ct k).fn = m.bd fun a => (k a).fn := by cases m <;> rfl
@[simp] theorem fp_rt (r : ρ) : (Ct.rt r : Ct ρ l ρ).fp = .ok r := rfl
@[simp] theorem fp_nx (r : ρ) : (Ct.nx r : Ct ρ l ρ).fp = .ok r := rfl
@[simp] theorem fp_ex (r : Xc) : (Ct.ex r : Ct ρ l ρ).fp = .ex r := rfl
@[simp] theorem fp_stuck : (Ct.stuck : Ct ρ l ρ).fp = .stuck := rfl
@[simp] theorem fp_Nct (m : N α) (k : α → Ct ρ l ρ) : (m.ct k).fp = m.bd fun a => (k a).fp := by cases m <;> rfl
@[simp] theorem ofO_some (a : α) : ofO (some a) = .ok a := rfl
@[simp] theorem ofO_none : ofO (none : Option α) = .stuck := rfl
@[simp] theorem gd_true : gd true = .ok () := rfl
@[simp] theorem gd_false : gd false = .stuck := rfl
@[simp] theorem optC_none {γ : Type} (a : γ) (b : α → γ) : optC none a b = a := rfl
@[simp] theorem optC_some {γ : Type} (x : α) (a : γ) (b : α → γ) : optC (some x) a b = b x := rfl
@[simp] theorem fn_ite (c : Prop) [Decidable c] (a b : Ct σ l ρ) : (if c then a else b).fn = if c then a.fn else b.fn := by split <;> rfl
@[simp] theorem fp_ite (c : Prop) [Decidable c] (a b : Ct ρ l ρ) : (if c then a else b).fp = if c then a.fp else b.fp := by split <;> rfl
@[simp] theorem sq_ite (c : Prop) [Decidable c] (a b : Ct σ l ρ) (k : σ → Ct τ l ρ) : (if c then a else b).sq k = if c then a.sq k else b.sq k := by split <;> rfl
@[simp] theorem fn_opt (x : Option α) (a : Ct σ l ρ) (b : α → Ct σ l ρ) : (optC x a b).fn = optC x a.fn fun y => (b y).fn := by cases x <;> rfl
@[simp] theorem sq_opt (x : Option α) (a : Ct σ l ρ) (b : α → Ct σ l ρ) (k : σ → Ct τ l ρ) : (optC x a b).sq k = optC x (a.sq k) fun y => (b y).sq k := by cases x <;> rfl
/-! ### loops -/
def Ct.again (r : Ct σ σ ρ) (k : σ → Ct σ l ρ) : Ct σ l ρ := match r with
  | .nx s => k s
  | .ct s => k s
  | .bk s => .nx s
  | .rt r => .rt r
  | .ex x => .ex x
  | .stuck => .stuck
def forC (body : α → σ → Ct σ σ ρ) : List α → σ → Ct σ l ρ
  | [], s => .nx s
  | a :: as, s => (body a s).again (forC body as)
def whileC (t : σ → N Bool) (body : σ → Ct σ σ ρ) : Nat → σ → Ct σ l ρ
  | 0, _ => .stuck
  | n + 1, s => (t s).ct fun b => if b = true then (body s).again (whileC t body n) else .nx s
@[simp] theorem again_nx (s : σ) (k : σ → Ct σ l ρ) : (Ct.nx s : Ct σ σ ρ).again k = k s := rfl
@[simp] theorem again_ct (s : σ) (k : σ → Ct σ l ρ) : (Ct.ct s : Ct σ σ ρ).again k = k s := rfl
@[simp] theorem again_bk (s : σ) (k : σ → Ct σ l ρ) : (Ct.bk s : Ct σ σ ρ).again k = .nx s := rfl
@[simp] theorem again_rt (s : ρ) (k : σ → Ct σ l ρ) : (Ct.rt s : Ct σ σ ρ).again k = .rt s := rfl
@[simp] theorem again_ex (s : Xc) (k : σ → Ct σ l ρ) : (Ct.ex s : Ct σ σ ρ).again k = .ex s := rfl
@[simp] theorem again_stuck (k : σ → Ct σ l ρ) : (Ct.stuck : Ct σ σ ρ).again k = .stuck := rfl
@[simp] theorem forC_nil (body : α → σ → Ct σ σ ρ) (s : σ) : (forC body [] s : Ct σ l ρ) = .nx s := rfl
@[simp] theorem forC_cons (body : α → σ → Ct σ σ ρ) (a : α) (as : List α) (s : σ) : (forC body (a :: as) s : Ct σ l ρ) = (body a s).again (forC body as) := rfl
/-- a loop that goes through -/
theorem forC_ok {body : α → σ → Ct σ σ ρ} (I : Nat → σ → Prop) : ∀ (as : List α) (n : Nat) (s : σ), I n s → (∀ i a s, as[i]? = some a → I (n + i) s → ∃ s', (body a s = .nx s' ∨ body a s = .ct s') ∧ I (n + i + 1) s') → ∃ s', (forC body as s : Ct σ l ρ) = .nx s' ∧ I (n + as.length) s'
  | [], n, s, h0, _ => ⟨s, rfl, h0⟩
  | a :: as, n, s, h0, h => by
    obtain ⟨s1, e, h1⟩ := h 0 a s rfl h0
    obtain ⟨s2, e2, h2⟩ := forC_ok I as (n + 1) s1 h1 fun i a s hi hp => by
      have := h (i + 1) a s (by simpa using hi) (by rw [show n + (i + 1) = n + 1 + i by omega]; exact hp)
      rw [show n + 1 + i + 1 = n + (i + 1) + 1 by omega]
      exact this
    refine ⟨s2, ?_, by rw [List.length_cons, show n + (as.length + 1) = n + 1 + as.length by omega]; exact h2⟩
    rw [forC_cons]
    rcases e with e | e <;> rw [e] <;> exact e2
theorem for_ok {body : α → σ → Ct σ σ ρ} (I : Nat → σ → Prop) (as : List α) (s : σ) (h0 : I 0 s) (h : ∀ i a s, as[i]? = some a → I i s → ∃ s', (body a s = .nx s' ∨ body a s = .ct s') ∧ I (i + 1) s') : ∃ s', (forC body as s : Ct σ l ρ) = .nx s' ∧ I as.length s' := by
  have := forC_ok (l := l) I as 0 s h0 (fun i a s hi hp => by rw [Nat.zero_add] at hp ⊢; exact h i a s hi hp)
  rwa [Nat.zero_add] at this
/-- a loop that may end early: by what it returns -/
theorem forC_ret {body : α → σ → Ct σ σ ρ} (I : Nat → σ → Prop) (R : ρ → Prop) : ∀ (as : List α) (n : Nat) (s : σ), I n s → (∀ i a s, as[i]? = some a → I (n + i) s → (∃ s', (body a s = .nx s' ∨ body a s = .ct s') ∧ I (n + i + 1) s') ∨ ∃ r, body a s = .rt r ∧ R r) → (∃ s', (forC body as s : Ct σ l ρ) = .nx s' ∧ I (n + as.length) s') ∨ ∃ r, (forC body as s : Ct σ l ρ) = .rt r ∧ R r
  | [], n, s, h0, _ => .inl ⟨s, rfl, h0⟩
  | a :: as, n, s, h0, h => by
    rcases h 0 a s rfl h0 with ⟨s1, e, h1⟩ | ⟨r, e, hr⟩
    · have ih := forC_ret I R as (n + 1) s1 h1 fun i a s hi hp => by
        have := h (i + 1) a s (by simpa using hi) (by rw [show n + (i + 1) = n + 1 + i by omega]; exact hp)
        rw [show n + 1 + i + 1 = n + (i + 1) + 1 by omega]
        exact this
      have e3 : (forC body (a :: as) s : Ct σ l ρ) = forC body as s1 := by
        rw [forC_cons]
        rcases e with e | e <;> rw [e] <;> rfl
      rw [e3, List.length_cons, show n + (as.length + 1) = n + 1 + as.length by omega]
      exact ih
    · right
      refine ⟨r, ?_, hr⟩
      rw [forC_cons, e]
      rfl
theorem for_ret {body : α → σ → Ct σ σ ρ} (I : Nat → σ → Prop) (R : ρ → Prop) (as : List α) (s : σ) (h0 : I 0 s) (h : ∀ i a s, as[i]? = some a → I i s → (∃ s', (body a s = .nx s' ∨ body a s = .ct s') ∧ I (i + 1) s') ∨ ∃ r, body a s = .rt r ∧ R r) : (∃ s', (forC body as s : Ct σ l ρ) = .nx s' ∧ I as.length s') ∨ ∃ r, (forC body as s : Ct σ l ρ) = .rt r ∧ R r := by
  have := forC_ret (l := l) I R as 0 s h0 (fun i a s hi hp => by rw [Nat.zero_add] at hp ⊢; exact h i a s hi hp)
  rwa [Nat.zero_add] at this
/-- a while loop: m tells how often it goes on at most -/
theorem while_ok {t : σ → N Bool} {body : σ → Ct σ σ ρ} (I : Nat → σ → Prop) (Z : σ → Prop) : ∀ (f m : Nat) (s : σ), m < f → I m s → (∀ m s, I m s → (t s = .ok false ∧ Z s) ∨ (t s = .ok true ∧ ∃ s' k, (body s = .nx s' ∨ body s = .ct s') ∧ k < m ∧ I k s')) → ∃ s', (whileC t body f s : Ct σ l ρ) = .nx s' ∧ Z s'
  | 0, m, s, hm, _, _ => by omega
  | f + 1, m, s, hm, h0, h => by
    rcases h m s h0 with ⟨e, z⟩ | ⟨e, s', k, e2, hk, hI⟩
    · exact ⟨s, by simp [whileC, e], z⟩
    · obtain ⟨s2, e3, z⟩ := while_ok I Z f k s' (by omega) hI h
      refine ⟨s2, ?_, z⟩
      rcases e2 with e2 | e2 <;> simp [whileC, e, e2, e3]
/-! ### comprehensions -/
def compN (f : α → N (Option β)) : List α → N (List β)
  | [] => .ok []
  | a :: as => match f a with
    | .ok none => compN f as
    | .ok (some b) => match compN f as with
      | .ok bs => .ok (b :: bs)
      | _ => .stuck
    | _ => .stuck
def compS (f : α → σ → N (Option β × σ)) : List α → σ → N (List β × σ)
  | [], s => .ok ([], s)
  | a :: as, s => match f a s with
    | .ok (none, s1) => compS f as s1
    | .ok (some b, s1) => match compS f as s1 with
      | .ok (bs, s2) => .ok (b :: bs, s2)
      | _ => .stuck
    | _ => .stuck
@[simp] theorem compN_nil (f : α → N (Option β)) : compN f [] = .ok [] := rfl
theorem compN_map {f : α → N (Option β)} {g : α → β} : ∀ (as : List α), (∀ a, a ∈ as → f a = .ok (some (g a))) → compN f as = .ok (as.map g)
  | [], _ => rfl
  | a :: as, h => by
    unfold compN
    rw [h a (List.mem_cons_self ..), compN_map as fun b hb => h b (List.mem_cons_of_mem _ hb)]
    rfl
theorem compN_fm {f : α → N (Option β)} {g : α → Option β} : ∀ (as : List α), (∀ a, a ∈ as → f a = .ok (g a)) → compN f as = .ok (as.filterMap g)
  | [], _ => rfl
  | a :: as, h => by
    unfold compN
    rw [h a (List.mem_cons_self ..), compN_fm as fun b hb => h b (List.mem_cons_of_mem _ hb), List.filterMap_cons]
    cases g a <;> rfl
theorem compS_inv {f : α → σ → N (Option β × σ)} (P : σ → Prop) (Q : β → Prop) : ∀ (as : List α) (s : σ), P s → (∀ a s, a ∈ as → P s → ∃ b s', f a s = .ok (some b, s') ∧ Q b ∧ P s') → ∃ bs s', compS f as s = .ok (bs, s') ∧ bs.length = as.length ∧ (∀ b, b ∈ bs → Q b) ∧ P s'
  | [], s, hp, _ => ⟨[], s, rfl, rfl, fun _ h => absurd h List.not_mem_nil, hp⟩
  | a :: as, s, hp, h => by
    obtain ⟨b, s1, e, q, p⟩ := h a s (List.mem_cons_self ..) hp
    obtain ⟨bs, s2, e2, hl, q2, p2⟩ := compS_inv P Q as s1 p fun a s ha => h a s (List.mem_cons_of_mem _ ha)
    refine ⟨b :: bs, s2, ?_, by simp [hl], fun x hx => ?_, p2⟩
    · unfold compS
      rw [e]
      simp only [e2]
    · rcases List.mem_cons.1 hx with rfl | hx
      · exact q
      · exact q2 x hx
end
/-! ### how values are written as data -/
abbrev eI : Int → D := PyData.int
abbrev eB : Bool → D := PyData.bool
abbrev eS : Str → D := PyData.str
abbrev eD (d : D) : D := d
abbrev eU (_ : Unit) : D := PyData.none
section
variable {α β γ δ : Type}
def eO (f : α → D) : Option α → D
  | none => .none
  | some a => f a
abbrev eLs (f : α → D) (xs : List α) : D := .list (xs.map f)
abbrev eTs (f : α → D) (xs : List α) : D := .tuple (xs.map f)
abbrev eP2 (f : α → D) (g : β → D) (p : α × β) : D := .tuple [f p.1, g p.2]
abbrev eP3 (f : α → D) (g : β → D) (h : γ → D) (p : α × β × γ) : D := .tuple [f p.1, g p.2.1, h p.2.2]
abbrev eP4 (f : α → D) (g : β → D) (h : γ → D) (i : δ → D) (p : α × β × γ × δ) : D := .tuple [f p.1, g p.2.1, h p.2.2.1, i p.2.2.2]
abbrev eKv (f : α → D) (g : β → D) (kvs : List (α × β)) : List (D × D) := kvs.map fun p => (f p.1, g p.2)
end
/-- equality of what is written is equality -/
class EqE {α : Type} (f : α → D) : Prop where
  eq : ∀ a b, PyData.eqv (f a) (f b) = true ↔ a = b
/-- what is written can be compared -/
class ShE {α : Type} (f : α → D) (k : outParam Nat) : Prop where
  sh : ∀ a, shD k (f a)
class NnE {α : Type} (f : α → D) : Prop where
  nn : ∀ a, f a ≠ .none
class FlE {α : Type} (f : α → D) : Prop where
  fl : ∀ a, flatD (f a) = true
instance : NnE eI := ⟨fun _ h => by cases h⟩
instance : NnE eB := ⟨fun _ h => by cases h⟩
instance : NnE eS := ⟨fun _ h => by cases h⟩
instance {α : Type} {f : α → D} : NnE (eLs f) := ⟨fun _ h => by cases h⟩
instance {α : Type} {f : α → D} : NnE (eTs f) := ⟨fun _ h => by cases h⟩
instance {α β : Type} {f : α → D} {g : β → D} : NnE (eP2 f g) := ⟨fun _ h => by cases h⟩
instance : FlE eI := ⟨fun _ => rfl⟩
instance : FlE eB := ⟨fun _ => rfl⟩
instance : FlE eS := ⟨fun _ => rfl⟩
instance {α : Type} {f : α → D} [h : FlE f] : FlE (eO f) := ⟨fun a => by cases a; rfl; exact h.fl _⟩
instance : EqE eI := ⟨fun a b => by simp [PyData.eqv, eI]⟩
instance : EqE eB := ⟨fun a b => by simp [PyData.eqv, eB]⟩
instance : EqE eU := ⟨fun a b => by simp [PyData.eqv, eU]⟩
instance : EqE eS := ⟨fun a b => by simp [PyData.eqv, eS]⟩
instance : ShE eI 0 := ⟨fun a => shD_int 0 a⟩
instance : ShE eB 0 := ⟨fun a => shD_bool 0 a⟩
instance : ShE eU 0 := ⟨fun a => shD_none 0⟩
theorem eqv_none {d : D} (h : d ≠ .none) : PyData.eqv .none d = false ∧ PyData.eqv d .none = false := by cases d <;> first | (exact absurd rfl h) | (simp [PyData.eqv])
instance {α : Type} {f : α → D} [h : EqE f] [n : NnE f] : EqE (eO f) := ⟨fun a b => by
  cases a <;> cases b
  · simp [eO, PyData.eqv]
  · simp [eO, (eqv_none (n.nn _)).1]
  · simp [eO, (eqv_none (n.nn _)).2]
  · simp [eO, h.eq]⟩
instance {α : Type} {f : α → D} {k : Nat} [h : ShE f k] : ShE (eO f) k := ⟨fun a => by
  cases a
  · exact shD_none k
  · exact h.sh _⟩
theorem eqvAll_map {α : Type} {f : α → D} [h : EqE f] : ∀ (xs ys : List α), PyData.eqvAll (xs.map f) (ys.map f) = true ↔ xs = ys
  | [], [] => by simp [PyData.eqvAll]
  | [], _ :: _ => by simp [PyData.eqvAll]
  | _ :: _, [] => by simp [PyData.eqvAll]
  | x :: xs, y :: ys => by simp [PyData.eqvAll, h.eq, eqvAll_map xs ys]
theorem shA_map {α : Type} {f : α → D} {k : Nat} [h : ShE f k] (xs : List α) : shA k (xs.map f) := fun x hx => by
  obtain ⟨a, _, rfl⟩ := List.mem_map.1 hx
  exact h.sh a
instance {α : Type} {f : α → D} [h : EqE f] : EqE (eLs f) := ⟨fun a b => by simp [PyData.eqv, eqvAll_map]⟩
instance {α : Type} {f : α → D} [h : EqE f] : EqE (eTs f) := ⟨fun a b => by simp [PyData.eqv, eqvAll_map]⟩
instance {α : Type} {f : α → D} {k : Nat} [h : ShE f k] : ShE (eLs f) (k + 1) := ⟨fun a => shD_lst (shA_map a)⟩
instance {α : Type} {f : α → D} {k : Nat} [h : ShE f k] : ShE (eTs f) (k + 1) := ⟨fun a => shD_tup (shA_map a)⟩
theorem shA_cons {k : Nat} {x : D} {xs : List D} (h : shD k x) (g : shA k xs) : shA k (x :: xs) := fun y hy => by
  rcases List.mem_cons.1 hy with rfl | hy
  · exact h
  · exact g y hy
theorem shA_nil {k : Nat} : shA k [] := fun _ h => absurd h List.not_mem_nil
instance {α β : Type} {f : α → D} {g : β → D} [h : EqE f] [i : EqE g] : EqE (eP2 f g) := ⟨fun a b => by
  obtain ⟨a1, a2⟩ := a
  obtain ⟨b1, b2⟩ := b
  simp [PyData.eqv, PyData.eqvAll, h.eq, i.eq]⟩
instance {α β : Type} {f : α → D} {g : β → D} {k m : Nat} [h : ShE f k] [i : ShE g m] : ShE (eP2 f g) (max k m + 1) := ⟨fun a => shD_tup (shA_cons (shD_up (by omega) (h.sh _)) (shA_cons (shD_up (by omega) (i.sh _)) shA_nil))⟩
instance {α β γ : Type} {f : α → D} {g : β → D} {e : γ → D} [h : EqE f] [i : EqE g] [j : EqE e] : EqE (eP3 f g e) := ⟨fun a b => by
  obtain ⟨a1, a2, a3⟩ := a
  obtain ⟨b1, b2, b3⟩ := b
  simp [PyData.eqv, PyData.eqvAll, h.eq, i.eq, j.eq]⟩
instance {α β γ : Type} {f : α → D} {g : β → D} {e : γ → D} {k m n : Nat} [h : ShE f k] [i : ShE g m] [j : ShE e n] : ShE (eP3 f g e) (max k (max m n) + 1) := ⟨fun a => shD_tup (shA_cons (shD_up (by omega) (h.sh _)) (shA_cons (shD_up (by omega) (i.sh _)) (shA_cons (shD_up (by omega) (j.sh _)) shA_nil)))⟩
theorem eq_typed {α : Type} [DecidableEq α] {f : α → D} {k : Nat} [h : EqE f] [s : ShE f k] (a b : α) (hk : k ≤ 64 := by decide) : dEq (f a) (f b) = some (.bool (decide (a = b))) := by
  rw [dEq_of hk (s.sh a) (s.sh b)]
  congr 2
  rw [Bool.eq_iff_iff, h.eq, decide_eq_true_eq]
theorem ne_typed {α : Type} [DecidableEq α] {f : α → D} {k : Nat} [h : EqE f] [s : ShE f k] (a b : α) (hk : k ≤ 64 := by decide) : dNe (f a) (f b) = some (.bool (!decide (a = b))) := by
  rw [dNe_of hk (s.sh a) (s.sh b)]
  congr 3
  rw [Bool.eq_iff_iff, h.eq, decide_eq_true_eq]
theorem any_typed {α : Type} [DecidableEq α] {f : α → D} [h : EqE f] (xs : List α) (a : α) : ((xs.map f).any fun z => PyData.eqv z (f a)) = decide (a ∈ xs) := by
  rw [Bool.eq_iff_iff, List.any_eq_true, decide_eq_true_eq]
  constructor
  · rintro ⟨d, hd, e⟩
    obtain ⟨b, hb, rfl⟩ := List.mem_map.1 hd
    rw [h.eq] at e
    exact e ▸ hb
  · exact fun hm => ⟨f a, List.mem_map.2 ⟨a, hm, rfl⟩, (h.eq a a).2 rfl⟩
theorem all_flat {α : Type} {f : α → D} [h : FlE f] (xs : List α) : (xs.map f).all flatD = true := by
  rw [List.all_map]
  exact List.all_eq_true.2 fun a _ => h.fl a
def memB {α : Type} [DecidableEq α] (a : α) (xs : List α) : Bool := decide (a ∈ xs)
@[simp] theorem memB_eq {α : Type} [DecidableEq α] (a : α) (xs : List α) : memB a xs = decide (a ∈ xs) := rfl
theorem in_tup {α : Type} [DecidableEq α] {f : α → D} [h : EqE f] [g : FlE f] (a : α) (xs : List α) : dIn (f a) (eTs f xs) = some (.bool (memB a xs)) := by
  show (if (flatD (f a) && (xs.map f).all flatD) = true then some (PyData.bool ((xs.map f).any fun z => PyData.eqv z (f a))) else none) = _
  rw [g.fl, all_flat, any_typed]
  rfl
theorem in_lst {α : Type} [DecidableEq α] {f : α → D} [h : EqE f] [g : FlE f] (a : α) (xs : List α) : dIn (f a) (eLs f xs) = some (.bool (memB a xs)) := by
  show (if (flatD (f a) && (xs.map f).all flatD) = true then some (PyData.bool ((xs.map f).any fun z => PyData.eqv z (f a))) else none) = _
  rw [g.fl, all_flat, any_typed]
  rfl
theorem nin_tup {α : Type} [DecidableEq α] {f : α → D} [h : EqE f] [g : FlE f] (a : α) (xs : List α) : dNotIn (f a) (eTs f xs) = some (.bool (!memB a xs)) := by
  show (if (flatD (f a) && (xs.map f).all flatD) = true then some (PyData.bool (!(xs.map f).any fun z => PyData.eqv z (f a))) else none) = _
  rw [g.fl, all_flat, any_typed]
  rfl
theorem nin_lst {α : Type} [DecidableEq α] {f : α → D} [h : EqE f] [g : FlE f] (a : α) (xs : List α) : dNotIn (f a) (eLs f xs) = some (.bool (!memB a xs)) := by
  show (if (flatD (f a) && (xs.map f).all flatD) = true then some (PyData.bool (!(xs.map f).any fun z => PyData.eqv z (f a))) else none) = _
  rw [g.fl, all_flat, any_typed]
  rfl
theorem atI_map {α : Type} (f : α → D) (xs : List α) (i : Int) : atI (xs.map f) i = (atI xs i).map f := by
  unfold atI
  rw [List.length_map]
  cases ixN xs.length i <;> simp
end NT
/- part NT1 -/
set_option Elab.async false
set_option linter.all false
set_option autoImplicit false
/-! NT1: a form on slots follows a typed one: the ties. -/
namespace NT
open PySem L2 DL LW
/-- what is known of a slot: it is so; it may be stored to; it holds nothing of its own -/
inductive Sp where
  | is (s : Sl)
  | np
  | nw
def Sp.ok : Sp → Sl → Prop
  | .is s, t => t = s
  | .np, t => DL.np t = true
  | .nw, t => t.own = false
abbrev Sps := List Sp
structure Fits (c : Sps) (e : DEnv) : Prop where
  len : c.length = e.length
  at_ : ∀ (i : Nat) x t, c[i]? = some x → e[i]? = some t → x.ok t
theorem Fits.get {c : Sps} {e : DEnv} (h : Fits c e) {i : Nat} {x : Sp} (hc : c[i]? = some x) : ∃ t, e[i]? = some t ∧ x.ok t := by
  have l := (List.getElem?_eq_some_iff.mp hc).1
  have l2 : i < e.length := by rw [← h.len]; exact l
  exact ⟨e[i], List.getElem?_eq_getElem l2, h.at_ i x _ hc (List.getElem?_eq_getElem l2)⟩
theorem Fits.is {c : Sps} {e : DEnv} (h : Fits c e) {i : Nat} {s : Sl} (hc : c[i]? = some (.is s)) : e[i]? = some s := by
  obtain ⟨t, a, b⟩ := h.get hc
  rw [a]
  exact congrArg _ b
theorem Fits.set {c : Sps} {e : DEnv} (h : Fits c e) (i : Nat) {x : Sp} {t : Sl} (hx : x.ok t) : Fits (c.set i x) (e.set i t) := by
  refine ⟨by simp [h.len], fun j y u hy hu => ?_⟩
  by_cases q : i = j
  · subst q
    have l1 : i < c.length := by have := (List.getElem?_eq_some_iff.mp hy).1; simpa using this
    have l2 : i < e.length := by rw [← h.len]; exact l1
    rw [List.getElem?_set_self l1] at hy
    rw [List.getElem?_set_self l2] at hu
    cases hy; cases hu
    exact hx
  · rw [List.getElem?_set_ne q] at hy hu
    exact h.at_ j y u hy hu
/-- less is known -/
def Wk : Sp → Sp → Prop
  | x, .is s => x = .is s
  | .is s, .np => DL.np s = true
  | .is s, .nw => s.own = false
  | .np, .np => True
  | .nw, .np => True
  | .nw, .nw => True
  | .np, .nw => False
def Sub : Sps → Sps → Prop
  | [], [] => True
  | x :: c, y :: d => Wk x y ∧ Sub c d
  | _, _ => False
theorem Wk.ok {x y : Sp} {t : Sl} (h : Wk x y) (a : x.ok t) : y.ok t := by
  cases y with
  | is s => have : x = .is s := by cases x <;> exact h
            rw [this] at a; exact a
  | np =>
    cases x with
    | is s => exact (show t = s from a) ▸ h
    | np => exact a
    | nw =>
      cases t with
      | p xs => exact absurd a (by intro z; cases z)
      | _ => rfl
  | nw =>
    cases x with
    | is s => exact (show t = s from a) ▸ h
    | np => exact h.elim
    | nw => exact a
theorem Sub.len : ∀ {c d : Sps}, Sub c d → c.length = d.length
  | [], [], _ => rfl
  | _ :: _, _ :: _, h => by rw [List.length_cons, List.length_cons, Sub.len h.2]
  | [], _ :: _, h => h.elim
  | _ :: _, [], h => h.elim
theorem Sub.at_ : ∀ {c d : Sps}, Sub c d → ∀ (i : Nat) y, d[i]? = some y → ∃ x, c[i]? = some x ∧ Wk x y
  | [], [], _, i, y, h => by simp at h
  | x :: c, y :: d, h, 0, z, hz => by simp at hz; subst hz; exact ⟨x, rfl, h.1⟩
  | x :: c, y :: d, h, i + 1, z, hz => by simpa using Sub.at_ h.2 i z (by simpa using hz)
  | [], _ :: _, h, _, _, _ => h.elim
  | _ :: _, [], h, _, _, _ => h.elim
theorem Fits.sub {c d : Sps} {e : DEnv} (h : Fits c e) (s : Sub c d) : Fits d e :=
  ⟨by rw [← s.len]; exact h.len, fun i y t hy ht => by
    obtain ⟨x, hx, w⟩ := s.at_ i y hy
    exact w.ok (h.at_ i x t hx ht)⟩
/-! ### the tie -/
structure Qs (σ l ρ : Type) where
  nx : σ → DEnv → Prop
  lp : l → DEnv → Prop
  rt : ρ → D → DEnv → Prop
  rl : ρ → List D → DEnv → Prop
  ex : DEnv → Prop
section
variable {α β σ τ l ρ : Type}
def R (m : Ct σ l ρ) (f : Fl) (Q : Qs σ l ρ) : Prop := match m with
  | .nx s => ∃ e, f = .nx e ∧ Q.nx s e
  | .rt r => (∃ d e, f = .rt d e ∧ Q.rt r d e) ∨ ∃ d e, f = .rl d e ∧ Q.rl r d e
  | .bk s => ∃ e, f = .bk e ∧ Q.lp s e
  | .ct s => ∃ e, f = .ct e ∧ Q.lp s e
  | .ex x => ∃ e, f = .ex x e ∧ Q.ex e
  | .stuck => True
def RS (c : Sps) (f : DEnv → Fl) (m : Ct σ l ρ) (Q : Qs σ l ρ) : Prop := ∀ e, Fits c e → R m (f e) Q
def FK {A : Type} (de : DEnv → Rs A) (k : A → DEnv → Fl) : DEnv → Fl := fun e => (de e).fl k
/-- a pure form -/
def EP {A : Type} (c : Sps) (de : DEnv → Rs A) (d : A) : Prop := ∀ e, Fits c e → de e = .ok d e
variable {c : Sps} {m : Ct σ l ρ} {Q : Qs σ l ρ}
theorem rk_pure {A : Type} {de : DEnv → Rs A} {k : A → DEnv → Fl} {d : A} (h : EP c de d) (g : RS c (k d) m Q) : RS c (FK de k) m Q := fun e he => by
  show R m ((de e).fl k) Q
  rw [h e he]
  exact g e he
theorem rs_sub {d : Sps} {f : DEnv → Fl} (s : Sub c d) (g : RS d f m Q) : RS c f m Q := fun e he => g e (he.sub s)
theorem rk_put {A : Type} {o : Option A} {z : A} {k : A → DEnv → Fl} (h : o = some z) (g : RS c (k z) m Q) : RS c (FK (put o) k) m Q := fun e he => by
  show R m ((put o e).fl k) Q
  rw [h]
  exact g e he
/-- a partial operation -/
theorem rk_opt {A : Type} {o : Option A} {n : N α} {f : α → A} {k : A → DEnv → Fl} {M : α → Ct σ l ρ} (h : ∀ a, n = .ok a → o = some (f a)) (hx : ∀ x, n ≠ .ex x) (g : ∀ a, RS c (k (f a)) (M a) Q) : RS c (FK (put o) k) (n.ct M) Q := fun e he => by
  show R (n.ct M) ((put o e).fl k) Q
  cases q : n with
  | ok a => rw [h a q]; exact g a e he
  | ex x => exact absurd q (hx x)
  | stuck => exact trivial
/-! ### expressions -/
theorem fl_bind {A B : Type} (r : Rs A) (f : A → DEnv → Rs B) (k : B → DEnv → Fl) : (r.bind f).fl k = r.fl fun a e => (f a e).fl k := by cases r <;> rfl
theorem rk_bin {da db : DE} {f : D → D → Option D} {k : D → DEnv → Fl} (g : RS c (FK da fun x => FK db fun y => FK (put (f x y)) k) m Q) : RS c (FK (eBin f da db) k) m Q := fun e he => by
  have := g e he
  unfold FK at this ⊢
  unfold eBin
  simp only [fl_bind] at this ⊢
  exact this
theorem rk_un {da : DE} {f : D → Option D} {k : D → DEnv → Fl} (g : RS c (FK da fun x => FK (put (f x)) k) m Q) : RS c (FK (eUn f da) k) m Q := fun e he => by
  have := g e he
  unfold FK at this ⊢
  unfold eUn
  simp only [fl_bind] at this ⊢
  exact this
theorem rk_cb {da : DA} {f : List D → Option D} {k : D → DEnv → Fl} (g : RS c (FK da fun x => FK (put (f x)) k) m Q) : RS c (FK (eCB f da) k) m Q := fun e he => by
  have := g e he
  unfold FK at this ⊢
  unfold eCB
  simp only [fl_bind] at this ⊢
  exact this
theorem rk_cl {da : DA} {f : List D → Option (List D)} {k : List D → DEnv → Fl} (g : RS c (FK da fun x => FK (put (f x)) k) m Q) : RS c (FK (eCL f da) k) m Q := fun e he => by
  have := g e he
  unfold FK at this ⊢
  unfold eCL
  simp only [fl_bind] at this ⊢
  exact this
theorem rk_binL {da db : DE} {f : D → D → Option (List D)} {k : List D → DEnv → Fl} (g : RS c (FK da fun x => FK db fun y => FK (put (f x y)) k) m Q) : RS c (FK (eBinL f da db) k) m Q := fun e he => by
  have := g e he
  unfold FK at this ⊢
  unfold eBinL
  simp only [fl_bind] at this ⊢
  exact this
theorem rk_anil {k : List D → DEnv → Fl} (g : RS c (k []) m Q) : RS c (FK aNil k) m Q := g
theorem rk_acons {de : DE} {da : DA} {k : List D → DEnv → Fl} (g : RS c (FK de fun x => FK da fun xs => k (x :: xs)) m Q) : RS c (FK (aCons de da) k) m Q := fun e he => by
  have := g e he
  unfold FK at this ⊢
  unfold aCons
  simp only [fl_bind] at this ⊢
  exact this
theorem rk_conv {f f' : DEnv → Fl} (h : ∀ e, f e = f' e) (g : RS c f' m Q) : RS c f m Q := fun e he => by rw [h e]; exact g e he
theorem rk_tup {da : DA} {k : D → DEnv → Fl} (g : RS c (FK da fun xs => FK (put (if xs.length ≤ 100000 then some (PyData.tuple xs) else none)) k) m Q) : RS c (FK (eTup da) k) m Q := rk_conv (fun e => by
  unfold FK eTup
  cases da e with
  | ok xs e1 =>
    show (if xs.length ≤ 100000 then Rs.ok (PyData.tuple xs) e1 else .stuck).fl k = (put (if xs.length ≤ 100000 then some (PyData.tuple xs) else none) e1).fl k
    split <;> rfl
  | ex _ _ => rfl
  | stuck => rfl) g
theorem rk_lst {da : DA} {k : List D → DEnv → Fl} (g : RS c (FK da fun xs => FK (put (if xs.length ≤ 100000 then some xs else none)) k) m Q) : RS c (FK (lLst da) k) m Q := rk_conv (fun e => by
  unfold FK lLst
  cases da e with
  | ok xs e1 =>
    show (if xs.length ≤ 100000 then Rs.ok xs e1 else .stuck).fl k = (put (if xs.length ≤ 100000 then some xs else none) e1).fl k
    split <;> rfl
  | ex _ _ => rfl
  | stuck => rfl) g
theorem rk_elst {da : DA} {k : D → DEnv → Fl} (g : RS c (FK da fun xs => k (.list xs)) m Q) : RS c (FK (eLst da) k) m Q := fun e he => by
  have := g e he
  unfold FK at this ⊢
  unfold eLst
  simp only [fl_bind] at this ⊢
  exact this
end
end NT
/- part NT2 -/
set_option Elab.async false
set_option linter.all false
set_option autoImplicit false
/-! NT2: the ties of expressions. -/
namespace NT
open PySem L2 DL LW
/-! ### pure forms -/
section
variable {c : Sps} {A B : Type}
theorem ep_var {i : Nat} {d : D} (h : c[i]? = some (.is (.v d)) := by rfl) : EP c (eVar i) d := fun e he => by
  unfold eVar
  rw [he.is h]
theorem ep_C {d : D} : EP c (eC d) d := fun _ _ => rfl
theorem ep_bin {da db : DE} {f : D → D → Option D} {x y z : D} (ha : EP c da x) (hb : EP c db y) (hf : f x y = some z := by rfl) : EP c (eBin f da db) z := fun e he => by
  unfold eBin
  rw [ha e he, bind_ok, hb e he, bind_ok, hf]
  rfl
theorem ep_un {da : DE} {f : D → Option D} {x z : D} (ha : EP c da x) (hf : f x = some z := by rfl) : EP c (eUn f da) z := fun e he => by
  unfold eUn
  rw [ha e he, bind_ok, hf]
  rfl
theorem ep_cb {da : DA} {f : List D → Option D} {x : List D} {z : D} (ha : EP c da x) (hf : f x = some z := by rfl) : EP c (eCB f da) z := fun e he => by
  unfold eCB
  rw [ha e he, bind_ok, hf]
  rfl
theorem ep_cl {da : DA} {f : List D → Option (List D)} {x z : List D} (ha : EP c da x) (hf : f x = some z := by rfl) : EP c (eCL f da) z := fun e he => by
  unfold eCL
  rw [ha e he, bind_ok, hf]
  rfl
theorem ep_anil : EP c aNil [] := fun _ _ => rfl
theorem ep_acons {de : DE} {da : DA} {x : D} {xs : List D} (ha : EP c de x) (hb : EP c da xs) : EP c (aCons de da) (x :: xs) := fun e he => by
  unfold aCons
  rw [ha e he, bind_ok, hb e he]
  rfl
theorem ep_tup {da : DA} {xs : List D} (ha : EP c da xs) (h : Nat.ble xs.length 100000 = true := by rfl) : EP c (eTup da) (.tuple xs) := fun e he => by
  unfold eTup
  rw [ha e he, bind_ok, if_pos (Nat.le_of_ble_eq_true h)]
theorem ep_lst {da : DA} {xs : List D} (ha : EP c da xs) (h : Nat.ble xs.length 100000 = true := by rfl) : EP c (lLst da) xs := fun e he => by
  unfold lLst
  rw [ha e he, bind_ok, if_pos (Nat.le_of_ble_eq_true h)]
theorem ep_elst {da : DA} {xs : List D} (ha : EP c da xs) : EP c (eLst da) (.list xs) := fun e he => by
  unfold eLst
  rw [ha e he, bind_ok]
theorem ep_tst {de : DE} {b : Bool} (ha : EP c de (.bool b)) : EP c (tTst de) b := fun e he => by
  unfold tTst
  rw [ha e he, bind_ok]
theorem ep_tru {de : DE} {d : D} {b : Bool} (ha : EP c de d) (h : truth d = some b := by rfl) : EP c (tTru de) b := fun e he => by
  unfold tTru
  rw [ha e he, bind_ok, h]
  rfl
theorem ep_notT {t : DT} {b : Bool} (ha : EP c t b) : EP c (tNotD t) (!b) := fun e he => by
  unfold tNotD
  rw [ha e he, bind_ok]
theorem ep_andT {t u : DT} {a b : Bool} (ha : EP c t a) (hb : EP c u b) : EP c (tAndD t u) (a && b) := fun e he => by
  unfold tAndD
  rw [ha e he, bind_ok]
  cases a
  · rfl
  · exact hb e he
theorem ep_orT {t u : DT} {a b : Bool} (ha : EP c t a) (hb : EP c u b) : EP c (tOrD t u) (a || b) := fun e he => by
  unfold tOrD
  rw [ha e he, bind_ok]
  cases a
  · exact hb e he
  · rfl
theorem ep_not {da : DE} {b : Bool} (ha : EP c da (.bool b)) : EP c (eNot da) (.bool (!b)) := fun e he => by
  unfold eNot
  rw [ha e he, bind_ok]
theorem ep_and {da db : DE} {a b : Bool} (ha : EP c da (.bool a)) (hb : EP c db (.bool b)) : EP c (eAnd da db) (.bool (a && b)) := fun e he => by
  unfold eAnd
  rw [ha e he, bind_ok]
  cases a
  · rfl
  · exact hb e he
theorem ep_or {da db : DE} {a b : Bool} (ha : EP c da (.bool a)) (hb : EP c db (.bool b)) : EP c (eOr da db) (.bool (a || b)) := fun e he => by
  unfold eOr
  rw [ha e he, bind_ok]
  cases a
  · exact hb e he
  · rfl
theorem ep_if {α : Type} {f : α → D} {t : DT} {da db : DE} {b : Bool} {x y : α} (ht : EP c t b) (ha : EP c da (f x)) (hb : EP c db (f y)) : EP c (eIf t da db) (f (if b = true then x else y)) := fun e he => by
  unfold eIf
  rw [ht e he, bind_ok]
  cases b
  · exact hb e he
  · exact ha e he
def slotD (c : Sps) (i : Nat) : Option D := match c[i]? with
  | some (.is (.v d)) => some d
  | some (.is (.l xs)) => some (.list xs)
  | some (.is (.p xs)) => some (.list xs)
  | _ => none
def slotL (c : Sps) (i : Nat) : Option (List D) := match c[i]? with
  | some (.is (.l xs)) => some xs
  | some (.is (.p xs)) => some xs
  | some (.is (.v (.list xs))) => some xs
  | _ => none
theorem slotD_at {i : Nat} {d : D} (h : slotD c i = some d) {e : DEnv} (he : Fits c e) : known i e = true ∧ ∀ k, ixAt i k e = put (dIx d k) e := by
  unfold slotD at h
  split at h <;> cases h
  all_goals
    rename_i q
    have := he.is q
    exact ⟨by unfold known; rw [this], fun k => by unfold ixAt; rw [this]⟩
theorem slotL_at {i : Nat} {xs : List D} (h : slotL c i = some xs) {e : DEnv} (he : Fits c e) : seeL i e = some xs := by
  unfold slotL at h
  split at h <;> cases h
  all_goals
    rename_i q
    have := he.is q
    unfold seeL
    rw [this]
theorem ep_ixN {i : Nat} {db : DE} {d k z : D} (hb : EP c db k) (hf : dIx d k = some z := by rfl) (h : slotD c i = some d := by rfl) : EP c (eIxN i db) z := fun e he => by
  obtain ⟨a, b⟩ := slotD_at h he
  unfold eIxN
  rw [a, if_pos rfl, hb e he, bind_ok, b, hf]
  rfl
theorem ep_lenO {α : Type} {f : α → D} {xs : List α} {i : Nat} (h : slotL c i = some (xs.map f) := by rfl) : EP c (eLenO i) (eI xs.length) := fun e he => by
  unfold eLenO
  rw [slotL_at h he]
  simp
theorem ep_tupO {xs : List D} {i : Nat} (h : slotL c i = some xs := by rfl) : EP c (eTupO i) (.tuple xs) := fun e he => by
  unfold eTupO
  rw [slotL_at h he]
theorem ep_listO {xs : List D} {i : Nat} (h : slotL c i = some xs := by rfl) : EP c (lListO i) xs := fun e he => by
  unfold lListO
  rw [slotL_at h he]
theorem ep_isi {T : String} {de : DE} {d : D} {b : Bool} (ha : EP c de d) (h : isiD T d = some (.bool b)) : EP c (eIsi T de) (.bool b) := fun e he => by
  unfold eIsi
  rw [ha e he, bind_ok, h]
  rfl
theorem ep_chain {f g : D → D → Option D} {da db dc : DE} {x y z : D} {a b : Bool} (ha : EP c da x) (hb : EP c db y) (hc : EP c dc z) (h1 : f x y = some (.bool a) := by rfl) (h2 : g y z = some (.bool b) := by rfl) : EP c (eChain f g da db dc) (.bool (a && b)) := fun e he => by
  unfold eChain
  rw [ha e he, bind_ok, hb e he, bind_ok, h1]
  cases a
  · rfl
  · show (dc e).bind _ = _
    rw [hc e he, bind_ok, h2]
    rfl
def EPp (c : Sps) (p : Pt) (o : Option Int) : Prop := ∀ e, Fits c e → p.run e = .ok o e
theorem ep_ptN : EPp c .no none := fun _ _ => rfl
theorem ep_ptS {de : DE} {i : Int} (h : EP c de (.int i)) : EPp c (.of de) (some i) := fun e he => by
  unfold Pt.run
  simp only [h e he]
  rfl
theorem ep_sl {de : DE} {p q : Pt} {d z : D} {lo hi : Option Int} (ha : EP c de d) (hp : EPp c p lo) (hq : EPp c q hi) (h : dSl d lo hi = some z := by rfl) : EP c (eSl de p q) z := fun e he => by
  unfold eSl
  rw [ha e he, bind_ok, hp e he, bind_ok, hq e he, bind_ok, h]
  rfl
theorem ep_seq {de : DE} {d : D} {xs : List D} (ha : EP c de d) (h : seqOf d = some xs := by rfl) : EP c (iSeq de) xs := fun e he => by
  unfold iSeq
  rw [ha e he, bind_ok]
  cases d <;> simp [seqOf] at h <;> subst h <;> rfl
end
/-! ### dicts, typed -/
section
variable {κ β : Type} [DecidableEq κ]
def dget (kvs : List (κ × β)) (k : κ) : Option β := (kvs.find? fun p => decide (p.1 = k)).map (·.2)
def dhas (kvs : List (κ × β)) (k : κ) : Bool := kvs.any fun p => decide (p.1 = k)
def dput (kvs : List (κ × β)) (k : κ) (v : β) : List (κ × β) := if dhas kvs k then kvs.map fun p => if p.1 = k then (p.1, v) else p else kvs ++ [(k, v)]
/-- keys of a kind -/
class KeyE (f : κ → D) where
  key : κ → Key
  keyOf : ∀ k, DL.keyOf (f k) = some (key k)
  kEq : ∀ a k, DL.kEq (f a) (key k) = decide (a = k)
  kD : ∀ k, DL.kD (key k) = f k
end
instance : KeyE eI where
  key := .inl
  keyOf := fun _ => rfl
  kEq := fun a k => by simp [DL.kEq, Bool.beq_eq_decide_eq]
  kD := fun _ => rfl
instance : KeyE eS where
  key := .inr
  keyOf := fun _ => rfl
  kEq := fun a k => by simp [DL.kEq, Bool.beq_eq_decide_eq]
  kD := fun _ => rfl
section
variable {κ β : Type} [DecidableEq κ] {f : κ → D} {g : β → D} [ke : KeyE f]
theorem valD_typed (kvs : List (κ × β)) (k : κ) : valD (eKv f g kvs) (ke.key k) = (dget kvs k).map g := by
  unfold valD dget
  induction kvs with
  | nil => rfl
  | cons p r ih =>
    simp only [List.map_cons, List.find?_cons, ke.kEq]
    cases decide (p.1 = k)
    · exact ih
    · rfl
theorem has_typed (kvs : List (κ × β)) (k : κ) : (valD (eKv f g kvs) (ke.key k)).isSome = dhas kvs k := by
  rw [valD_typed]
  unfold dget dhas
  induction kvs with
  | nil => rfl
  | cons p r ih =>
    simp only [List.find?_cons, List.any_cons]
    cases decide (p.1 = k)
    · simpa using ih
    · rfl
theorem putD_typed (kvs : List (κ × β)) (k : κ) (v : β) : putD (eKv f g kvs) (ke.key k) (g v) = eKv f g (dput kvs k v) := by
  unfold putD dput
  have e : ((eKv f g kvs).any fun kv => kEq kv.1 (ke.key k)) = dhas kvs k := by
    unfold dhas
    rw [List.any_map]
    congr 1
    funext p
    exact ke.kEq _ _
  rw [e]
  cases dhas kvs k with
  | true =>
    rw [if_pos rfl, if_pos rfl]
    show List.map _ (List.map _ kvs) = List.map _ (List.map _ kvs)
    rw [List.map_map, List.map_map]
    apply List.map_congr_left
    intro p _
    simp only [Function.comp, ke.kEq, decide_eq_true_eq]
    split <;> rfl
  | false =>
    rw [if_neg (by decide), if_neg (by decide), ke.kD]
    show List.map _ kvs ++ _ = List.map _ (kvs ++ _)
    rw [List.map_append]
    rfl
end
section
variable {c : Sps}
def slotM (c : Sps) (i : Nat) : Option (List (D × D)) := match c[i]? with
  | some (.is (.m xs)) => some xs
  | some (.is (.v (.dict xs))) => some xs
  | _ => none
theorem slotM_at {i : Nat} {xs : List (D × D)} (h : slotM c i = some xs) {e : DEnv} (he : Fits c e) : seeM i e = some xs ∧ known i e = true := by
  unfold slotM at h
  split at h <;> cases h
  all_goals
    rename_i q
    have := he.is q
    exact ⟨by unfold seeM; rw [this], by unfold known; rw [this]⟩
variable {κ β : Type} [DecidableEq κ] {f : κ → D} {g : β → D} [ke : KeyE f] {kvs : List (κ × β)} {k : κ} {i : Nat} {dk : DE}
theorem ep_inM (hk : EP c dk (f k)) (h : slotM c i = some (eKv f g kvs) := by rfl) : EP c (eInM dk i) (.bool (dhas kvs k)) := fun e he => by
  unfold eInM
  rw [hk e he, bind_ok, (slotM_at h he).1, ke.keyOf]
  simp only [has_typed]
theorem ep_ninM (hk : EP c dk (f k)) (h : slotM c i = some (eKv f g kvs) := by rfl) : EP c (eNotInM dk i) (.bool (!dhas kvs k)) := fun e he => by
  unfold eNotInM
  rw [hk e he, bind_ok, (slotM_at h he).1, ke.keyOf]
  simp only [has_typed]
theorem ep_getM [NnE g] (hk : EP c dk (f k)) (h : slotM c i = some (eKv f g kvs) := by rfl) : EP c (eGetM i dk) (eO g (dget kvs k)) := fun e he => by
  unfold eGetM
  rw [(slotM_at h he).1, if_pos (by rfl), hk e he, bind_ok, (slotM_at h he).1, ke.keyOf]
  simp only [valD_typed]
  cases dget kvs k <;> rfl
end
section
variable {α β σ τ l ρ : Type} {c : Sps} {m : Ct σ l ρ} {Q : Qs σ l ρ}
/-! ### forms that may stop -/
def boolOf : D → Option Bool
  | .bool b => some b
  | _ => none
theorem rk_tst {de : DE} {k : Bool → DEnv → Fl} (g : RS c (FK de fun d => FK (put (boolOf d)) k) m Q) : RS c (FK (tTst de) k) m Q := rk_conv (fun e => by
  unfold FK tTst
  cases de e with
  | ok d e1 => cases d <;> rfl
  | ex _ _ => rfl
  | stuck => rfl) g
theorem rk_tru {de : DE} {k : Bool → DEnv → Fl} (g : RS c (FK de fun d => FK (put (truth d)) k) m Q) : RS c (FK (tTru de) k) m Q := rk_conv (fun e => by
  unfold FK tTru
  cases de e <;> rfl) g
theorem rk_notT {t : DT} {k : Bool → DEnv → Fl} (g : RS c (FK t fun b => k (!b)) m Q) : RS c (FK (tNotD t) k) m Q := rk_conv (fun e => by
  unfold FK tNotD
  cases t e <;> rfl) g
def ifF (b : Bool) (f g : DEnv → Fl) : DEnv → Fl := match b with
  | true => f
  | false => g
theorem rk_ifF {b : Bool} {f g : DEnv → Fl} {m1 m2 : Ct σ l ρ} (h1 : RS c f m1 Q) (h2 : RS c g m2 Q) : RS c (ifF b f g) (if b = true then m1 else m2) Q := by
  cases b
  · exact h2
  · exact h1
theorem rk_andT {t u : DT} {k : Bool → DEnv → Fl} (g : RS c (FK t fun b => ifF b (FK u k) (k false)) m Q) : RS c (FK (tAndD t u) k) m Q := rk_conv (fun e => by
  unfold FK tAndD
  cases t e with
  | ok b e1 => cases b <;> rfl
  | ex _ _ => rfl
  | stuck => rfl) g
theorem rk_orT {t u : DT} {k : Bool → DEnv → Fl} (g : RS c (FK t fun b => ifF b (k true) (FK u k)) m Q) : RS c (FK (tOrD t u) k) m Q := rk_conv (fun e => by
  unfold FK tOrD
  cases t e with
  | ok b e1 => cases b <;> rfl
  | ex _ _ => rfl
  | stuck => rfl) g
theorem rk_and {da db : DE} {k : D → DEnv → Fl} (g : RS c (FK da fun x => FK (put (boolOf x)) fun b => ifF b (FK db k) (k (.bool false))) m Q) : RS c (FK (eAnd da db) k) m Q := rk_conv (fun e => by
  unfold FK eAnd
  cases da e with
  | ok d e1 => cases d <;> first | rfl | (rename_i b; cases b <;> rfl)
  | ex _ _ => rfl
  | stuck => rfl) g
theorem rk_or {da db : DE} {k : D → DEnv → Fl} (g : RS c (FK da fun x => FK (put (boolOf x)) fun b => ifF b (k (.bool true)) (FK db k)) m Q) : RS c (FK (eOr da db) k) m Q := rk_conv (fun e => by
  unfold FK eOr
  cases da e with
  | ok d e1 => cases d <;> first | rfl | (rename_i b; cases b <;> rfl)
  | ex _ _ => rfl
  | stuck => rfl) g
theorem rk_not {da : DE} {k : D → DEnv → Fl} (g : RS c (FK da fun x => FK (put (boolOf x)) fun b => k (.bool (!b))) m Q) : RS c (FK (eNot da) k) m Q := rk_conv (fun e => by
  unfold FK eNot
  cases da e with
  | ok d e1 => cases d <;> rfl
  | ex _ _ => rfl
  | stuck => rfl) g
theorem rk_if {t : DT} {da db : DE} {k : D → DEnv → Fl} (g : RS c (FK t fun b => ifF b (FK da k) (FK db k)) m Q) : RS c (FK (eIf t da db) k) m Q := rk_conv (fun e => by
  unfold FK eIf
  cases t e with
  | ok b e1 => cases b <;> rfl
  | ex _ _ => rfl
  | stuck => rfl) g
theorem rk_isi {T : String} {de : DE} {k : D → DEnv → Fl} (g : RS c (FK de fun d => FK (put (isiD T d)) k) m Q) : RS c (FK (eIsi T de) k) m Q := rk_conv (fun e => by
  unfold FK eIsi
  cases de e <;> rfl) g
theorem rk_seq {de : DE} {k : List D → DEnv → Fl} (g : RS c (FK de fun d => FK (put (seqOf d)) k) m Q) : RS c (FK (iSeq de) k) m Q := rk_conv (fun e => by
  unfold FK iSeq
  cases de e with
  | ok d e1 => cases d <;> rfl
  | ex _ _ => rfl
  | stuck => rfl) g
theorem rk_ptN {k : Option Int → DEnv → Fl} (g : RS c (k none) m Q) : RS c (FK (Pt.run .no) k) m Q := g
def intOf : D → Option Int
  | .int i => some i
  | _ => none
theorem rk_ptS {de : DE} {k : Option Int → DEnv → Fl} (g : RS c (FK de fun d => FK (put (intOf d)) fun i => k (some i)) m Q) : RS c (FK (Pt.run (.of de)) k) m Q := rk_conv (fun e => by
  unfold FK Pt.run
  simp only
  cases de e with
  | ok d e1 => cases d <;> rfl
  | ex _ _ => rfl
  | stuck => rfl) g
theorem rk_sl {de : DE} {p q : Pt} {k : D → DEnv → Fl} (g : RS c (FK de fun d => FK p.run fun lo => FK q.run fun hi => FK (put (dSl d lo hi)) k) m Q) : RS c (FK (eSl de p q) k) m Q := rk_conv (fun e => by
  unfold FK eSl
  simp only [fl_bind]) g
theorem rk_varL {i : Nat} {xs : List D} {k : D → DEnv → Fl} (g : RS (c.set i (.is (.v (.list xs)))) (k (.list xs)) m Q) (h : c[i]? = some (.is (.l xs)) := by rfl) : RS c (FK (eVar i) k) m Q := fun e he => by
  unfold FK eVar
  rw [he.is h]
  exact g _ (he.set i rfl)
theorem rk_varM {i : Nat} {xs : List (D × D)} {k : D → DEnv → Fl} (g : RS (c.set i (.is (.v (.dict xs)))) (k (.dict xs)) m Q) (h : c[i]? = some (.is (.m xs)) := by rfl) : RS c (FK (eVar i) k) m Q := fun e he => by
  unfold FK eVar
  rw [he.is h]
  exact g _ (he.set i rfl)
def knownC (c : Sps) (i : Nat) : Bool := match c[i]? with
  | some (.is .no) => false
  | some (.is _) => true
  | _ => false
theorem knownC_at {i : Nat} (h : knownC c i = true) {e : DEnv} (he : Fits c e) : known i e = true := by
  unfold knownC at h
  split at h <;> first | cases h | skip
  rename_i s hn q
  have := he.is q
  unfold known
  rw [this]
  cases s <;> first | rfl | (exact (hn q).elim) | (exact (hn rfl).elim)
theorem rk_ixN {i : Nat} {db : DE} {k : D → DEnv → Fl} (g : RS c (FK db fun kk => FK (ixAt i kk) k) m Q) (h : knownC c i = true := by rfl) : RS c (FK (eIxN i db) k) m Q := fun e he => by
  have := g e he
  unfold FK at this ⊢
  unfold eIxN
  rw [knownC_at h he, if_pos rfl, fl_bind]
  exact this
theorem rk_ixAt {i : Nat} {kk d : D} {k : D → DEnv → Fl} (g : RS c (FK (put (dIx d kk)) k) m Q) (h : slotD c i = some d := by rfl) : RS c (FK (ixAt i kk) k) m Q := fun e he => by
  have := g e he
  unfold FK at this ⊢
  rw [(slotD_at h he).2]
  exact this
/-! ### parts of rows -/
def idx (xs : List α) (i : Int) : N α := ofO (atI xs i)
theorem ofO_ex {o : Option α} (x : Xc) : ofO o ≠ .ex x := by cases o <;> exact fun h => by cases h
theorem ofO_ok {o : Option α} {a : α} (h : ofO o = .ok a) : o = some a := by cases o <;> cases h; rfl
theorem rk_ixT {f : α → D} {xs : List α} {i : Int} {k : D → DEnv → Fl} {M : α → Ct σ l ρ} (g : ∀ a, RS c (k (f a)) (M a) Q) : RS c (FK (put (dIx (eTs f xs) (.int i))) k) ((idx xs i).ct M) Q :=
  rk_opt (f := f) (fun a h => by show atI (xs.map f) i = _; rw [atI_map, ofO_ok h]; rfl) (fun x => ofO_ex x) g
theorem rk_ixL {f : α → D} {xs : List α} {i : Int} {k : D → DEnv → Fl} {M : α → Ct σ l ρ} (g : ∀ a, RS c (k (f a)) (M a) Q) : RS c (FK (put (dIx (eLs f xs) (.int i))) k) ((idx xs i).ct M) Q :=
  rk_opt (f := f) (fun a h => by show atI (xs.map f) i = _; rw [atI_map, ofO_ok h]; rfl) (fun x => ofO_ex x) g
def unw (x : Option α) : N α := ofO x
theorem rk_unw {f : α → D} {x : Option α} {k : D → DEnv → Fl} {M : α → Ct σ l ρ} (g : ∀ a, RS c (k (f a)) (M a) Q) : RS c (k (eO f x)) ((unw x).ct M) Q := by
  cases x with
  | none => exact fun _ _ => trivial
  | some a => exact g a
theorem rk_ixM {κ β : Type} [DecidableEq κ] {f : κ → D} {gg : β → D} [ke : KeyE f] {kvs : List (κ × β)} {kk : κ} {i : Nat} {dk : DE} {k : D → DEnv → Fl} {M : β → Ct σ l ρ} (hk : EP c dk (f kk)) (g : ∀ a, RS c (k (gg a)) (M a) Q) (h : slotM c i = some (eKv f gg kvs) := by rfl) : RS c (FK (eIxM i dk) k) ((ofO (dget kvs kk)).ct M) Q := fun e he => by
  unfold FK eIxM
  rw [(slotM_at h he).2, if_pos rfl, hk e he, bind_ok, (slotM_at h he).1, ke.keyOf]
  simp only [valD_typed]
  cases dget kvs kk with
  | none => exact trivial
  | some a => exact g a e he
/-! ### guards -/
theorem rk_gd {A : Type} {p : Prop} [Decidable p] {a : A} {k : A → DEnv → Fl} {M : Ct σ l ρ} (g : RS c (k a) M Q) : RS c (FK (put (if p then some a else none)) k) ((gd (decide p)).ct fun _ => M) Q := fun e he => by
  unfold FK
  by_cases h : p
  · rw [if_pos h, decide_eq_true h]; exact g e he
  · rw [if_neg h, decide_eq_false h]; exact trivial
def lenG (xs : List α) : N Unit := gd (decide (xs.length ≤ 100000))
theorem rk_lenG {A : Type} {f : α → D} {xs : List α} {a : A} {k : A → DEnv → Fl} {M : Ct σ l ρ} (g : RS c (k a) M Q) : RS c (FK (put (if (xs.map f).length ≤ 100000 then some a else none)) k) ((lenG xs).ct fun _ => M) Q := by
  rw [List.length_map]
  exact rk_gd g
def catG (xs ys : List α) : N Unit := gd (decide (xs.length + ys.length ≤ 100000))
theorem rk_catT {f : α → D} {xs ys : List α} {k : D → DEnv → Fl} {M : Ct σ l ρ} (g : RS c (k (eTs f (xs ++ ys))) M Q) : RS c (FK (put (dAdd (eTs f xs) (eTs f ys))) k) ((catG xs ys).ct fun _ => M) Q := by
  show RS c (FK (put (if (xs.map f).length + (ys.map f).length ≤ 100000 then some (PyData.tuple (xs.map f ++ ys.map f)) else none)) k) _ Q
  rw [List.length_map, List.length_map, ← List.map_append]
  exact rk_gd g
theorem rk_catL {f : α → D} {xs ys : List α} {k : List D → DEnv → Fl} {M : Ct σ l ρ} (g : RS c (k ((xs ++ ys).map f)) M Q) : RS c (FK (put (dCat (eLs f xs) (eLs f ys))) k) ((catG xs ys).ct fun _ => M) Q := by
  show RS c (FK (put (if (xs.map f).length + (ys.map f).length ≤ 100000 then some (xs.map f ++ ys.map f) else none)) k) _ Q
  rw [List.length_map, List.length_map, ← List.map_append]
  exact rk_gd g
def catS (x y : Str) : N Str := if x.length + y.length ≤ 100000 then .ok (x ++ y) else .stuck
theorem rk_catS {x y : Str} {k : D → DEnv → Fl} {M : Str → Ct σ l ρ} (g : ∀ z, RS c (k (eS z)) (M z) Q) : RS c (FK (put (dAdd (eS x) (eS y))) k) ((catS x y).ct M) Q := by
  refine rk_opt (f := eS) (fun a h => ?_) (fun z => ?_) g
  · unfold catS at h
    show (if x.length + y.length ≤ 100000 then some (PyData.str (x ++ y)) else none) = _
    split at h <;> cases h
    rename_i q
    rw [if_pos q]
  · unfold catS; split <;> exact fun h => by cases h
noncomputable def mulN (i j : Int) : N Int := if mulOk i j = true then .ok (i * j) else .stuck
noncomputable def divN (i j : Int) : N Int := if divOk j = true then .ok (i / j) else .stuck
noncomputable def modN (i j : Int) : N Int := if 0 < j then .ok (i % j) else .stuck
noncomputable def powN (i j : Int) : N Int := if powOk i j = true then .ok (i ^ j.toNat) else .stuck
theorem rk_op2 {op : D → D → Option D} {p : Prop} [Decidable p] {i j r : Int} {k : D → DEnv → Fl} {M : Int → Ct σ l ρ} (ho : op (.int i) (.int j) = if p then some (.int r) else none) (g : ∀ z, RS c (k (eI z)) (M z) Q) : RS c (FK (put (op (.int i) (.int j))) k) ((if p then N.ok r else .stuck).ct M) Q := by
  rw [ho]
  by_cases h : p
  · rw [if_pos h, if_pos h]; exact g r
  · rw [if_neg h, if_neg h]; exact fun _ _ => trivial
theorem rk_mul {i j : Int} {k : D → DEnv → Fl} {M : Int → Ct σ l ρ} (g : ∀ z, RS c (k (eI z)) (M z) Q) : RS c (FK (put (dMul (eI i) (eI j))) k) ((mulN i j).ct M) Q := rk_op2 rfl g
theorem rk_div {i j : Int} {k : D → DEnv → Fl} {M : Int → Ct σ l ρ} (g : ∀ z, RS c (k (eI z)) (M z) Q) : RS c (FK (put (dFdiv (eI i) (eI j))) k) ((divN i j).ct M) Q := rk_op2 rfl g
theorem rk_mod {i j : Int} {k : D → DEnv → Fl} {M : Int → Ct σ l ρ} (g : ∀ z, RS c (k (eI z)) (M z) Q) : RS c (FK (put (dMod (eI i) (eI j))) k) ((modN i j).ct M) Q := rk_op2 rfl g
theorem rk_pow {i j : Int} {k : D → DEnv → Fl} {M : Int → Ct σ l ρ} (g : ∀ z, RS c (k (eI z)) (M z) Q) : RS c (FK (put (dPow (eI i) (eI j))) k) ((powN i j).ct M) Q := rk_op2 rfl g
/-- one of these: data compared -/
def eqN (x y : D) : N Bool := if SeqAt.shaped x = true ∧ SeqAt.shaped y = true then .ok (PyData.eqv x y) else .stuck
theorem rk_eqD {x y : D} {k : D → DEnv → Fl} {M : Bool → Ct σ l ρ} (g : ∀ b, RS c (k (eB b)) (M b) Q) : RS c (FK (put (dEq x y)) k) ((eqN x y).ct M) Q := by
  unfold dEq eqN
  by_cases h : SeqAt.shaped x = true ∧ SeqAt.shaped y = true
  · rw [if_pos h, if_pos h]; exact g _
  · rw [if_neg h, if_neg h]; exact fun _ _ => trivial
theorem rk_neD {x y : D} {k : D → DEnv → Fl} {M : Bool → Ct σ l ρ} (g : ∀ b, RS c (k (eB (!b))) (M b) Q) : RS c (FK (put (dNe x y)) k) ((eqN x y).ct M) Q := by
  unfold dNe eqN
  by_cases h : SeqAt.shaped x = true ∧ SeqAt.shaped y = true
  · rw [if_pos h, if_pos h]; exact g _
  · rw [if_neg h, if_neg h]; exact fun _ _ => trivial
/-- any operation on data -/
theorem rk_anyD {A : Type} {o : Option A} {k : A → DEnv → Fl} {M : A → Ct σ l ρ} (g : ∀ a, RS c (k a) (M a) Q) : RS c (FK (put o) k) ((ofO o).ct M) Q := rk_opt (f := id) (fun a h => ofO_ok h) (fun x => ofO_ex x) g
/-! ### ranges -/
def rgI (lo hi : Int) : List Int := (List.range (hi - lo).toNat).map fun k => lo + (k : Nat)
theorem rgI_D (lo hi : Int) : rngD lo hi = (rgI lo hi).map eI := by
  unfold rngD rgI
  rw [List.map_map]
  rfl
noncomputable def rngN (j : Int) : N (List Int) := if I62 j then .ok (rgI 0 j) else .stuck
noncomputable def rngN2 (i j : Int) : N (List Int) := if I62 i ∧ I62 j then .ok (rgI i j) else .stuck
noncomputable def rngL (j : Int) : N (List Int) := if IRg j then .ok (rgI 0 j) else .stuck
theorem rk_rng {da : DA} {j : Int} {k : List D → DEnv → Fl} {M : List Int → Ct σ l ρ} (ha : EP c da [eI j]) (g : ∀ xs : List Int, RS c (k (xs.map eI)) (M xs) Q) : RS c (FK (iRng1 da) k) ((rngN j).ct M) Q := fun e he => by
  unfold FK DL.iRng1 rngN
  rw [ha e he, bind_ok]
  simp only [int1]
  by_cases h : I62 j
  · rw [if_pos h, if_pos h, rgI_D]; exact g _ e he
  · rw [if_neg h, if_neg h]; exact trivial
theorem rk_rng2 {da : DA} {i j : Int} {k : List D → DEnv → Fl} {M : List Int → Ct σ l ρ} (ha : EP c da [eI i, eI j]) (g : ∀ xs : List Int, RS c (k (xs.map eI)) (M xs) Q) : RS c (FK (iRng2 da) k) ((rngN2 i j).ct M) Q := fun e he => by
  unfold FK DL.iRng2 rngN2
  rw [ha e he, bind_ok]
  simp only [int2]
  by_cases h : I62 i ∧ I62 j
  · rw [if_pos h, if_pos h, rgI_D]; exact g _ e he
  · rw [if_neg h, if_neg h]; exact trivial
theorem rk_lrng {de : DE} {j : Int} {k : List D → DEnv → Fl} {M : List Int → Ct σ l ρ} (ha : EP c de (eI j)) (g : ∀ xs : List Int, RS c (k (xs.map eI)) (M xs) Q) : RS c (FK (lRange1 de) k) ((rngL j).ct M) Q := fun e he => by
  unfold FK lRange1 rngL
  rw [ha e he, bind_ok]
  simp only
  by_cases h : IRg j
  · rw [if_pos h, if_pos h, rgI_D]; exact g _ e he
  · rw [if_neg h, if_neg h]; exact trivial
theorem rk_rngK {da : DA} {k : List D → DEnv → Fl} (g : RS c (FK da fun ds => FK (iRng1 (fun e => .ok ds e)) k) m Q) : RS c (FK (iRng1 da) k) m Q := rk_conv (fun e => by
  unfold FK DL.iRng1
  cases da e <;> rfl) g
theorem rk_rngE {j : Int} {k : List D → DEnv → Fl} {M : List Int → Ct σ l ρ} (g : ∀ xs : List Int, RS c (k (xs.map eI)) (M xs) Q) : RS c (FK (iRng1 (fun e => .ok [eI j] e)) k) ((rngN j).ct M) Q := rk_rng (fun _ _ => rfl) g
/-- [x] * n -/
noncomputable def repN (a : α) (n : Int) : N (List α) := if I63 n ∧ n.toNat ≤ 100000 then .ok (List.replicate n.toNat a) else .stuck
theorem rep_1 (x : D) (n : Int) : repD [x] n = List.replicate n.toNat x := by
  unfold repD
  induction n.toNat with
  | zero => rfl
  | succ n ih => rw [List.replicate_succ, List.flatten_cons, ih]; rfl
theorem rk_rep {f : α → D} {dl : DA} {dk : DE} {a : α} {n : Int} {k : List D → DEnv → Fl} {M : List α → Ct σ l ρ} (hl : EP c dl [f a]) (hk : EP c dk (eI n)) (g : ∀ xs : List α, RS c (k (xs.map f)) (M xs) Q) : RS c (FK (lRep dl dk) k) ((repN a n).ct M) Q := fun e he => by
  unfold FK lRep repN
  rw [hl e he, bind_ok, hk e he, bind_ok]
  simp only [List.length_singleton, Nat.one_mul]
  by_cases h : I63 n ∧ n.toNat ≤ 100000
  · rw [if_pos h, if_pos h, rep_1, ← List.map_replicate]; exact g _ e he
  · rw [if_neg h, if_neg h]; exact trivial
end
end NT
/- part NT3 -/
set_option Elab.async false
set_option linter.all false
set_option autoImplicit false
/-! NT3: the ties of statements, loops, calls and defs. -/
namespace NT
open PySem L2 DL LW
section
variable {α β σ τ l ρ : Type} {c : Sps} {m : Ct σ l ρ} {Q : Qs σ l ρ}
/-! ### lists of the def's own -/
def getC (c : Sps) (i : Nat) : Option (List D) := match c[i]? with
  | some (.is (.l xs)) => some xs
  | some (.is (.p xs)) => some xs
  | _ => none
def reC (c : Sps) (i : Nat) (ys : List D) : Sps := match c[i]? with
  | some (.is (.l _)) => c.set i (.is (.l ys))
  | some (.is (.p _)) => c.set i (.is (.p ys))
  | _ => c
theorem getC_at {i : Nat} {xs : List D} (h : getC c i = some xs) {e : DEnv} (he : Fits c e) : getL i e = some xs ∧ ∀ ys, Fits (reC c i ys) (putL i ys e) := by
  unfold getC at h
  split at h <;> cases h
  all_goals
    rename_i q
    have := he.is q
    refine ⟨by unfold getL; rw [this], fun ys => ?_⟩
    unfold reC putL
    rw [this, q]
    exact he.set i rfl
def moK (i : Nat) (f : List D → List D → Option (D × List D)) (args : List D) (k : D → DEnv → Fl) : DEnv → Fl := fun e => match getL i e with
  | some xs => match f xs args with
    | some (z, ys) => k z (putL i ys e)
    | none => .stuck
  | none => .stuck
theorem rk_mo {i : Nat} {f : List D → List D → Option (D × List D)} {da : DA} {k : D → DEnv → Fl} {xs : List D} (g : RS c (FK da fun args => moK i f args k) m Q) (h : getC c i = some xs := by rfl) : RS c (FK (eMO i f da) k) m Q := fun e he => by
  have := g e he
  unfold FK at this ⊢
  unfold eMO
  rw [(getC_at h he).1, if_pos (by rfl)]
  have e2 : ∀ args e1, (match getL i e1 with
      | some xs => match f xs args with
        | some (z, ys) => Rs.ok z (putL i ys e1)
        | none => .stuck
      | none => .stuck).fl k = moK i f args k e1 := fun args e1 => by
    unfold moK
    cases getL i e1 with
    | none => rfl
    | some xs =>
      dsimp only
      cases f xs args <;> rfl
  have e3 := funext fun a => funext (e2 a)
  rw [fl_bind]
  rw [← e3] at this
  exact this
theorem rk_moX {i : Nat} {f : List D → List D → Option (D × List D)} {args : List D} {k : D → DEnv → Fl} {fe : α → D} {xs : List α} {n : N β} {v : β → D} {ys : β → List α} {M : β → Ct σ l ρ} (hf : ∀ a, n = .ok a → f (xs.map fe) args = some (v a, (ys a).map fe)) (hx : ∀ x, n ≠ .ex x) (g : ∀ a, RS (reC c i ((ys a).map fe)) (k (v a)) (M a) Q) (h : getC c i = some (xs.map fe) := by rfl) : RS c (moK i f args k) (n.ct M) Q := fun e he => by
  unfold moK
  obtain ⟨h1, h2⟩ := getC_at h he
  rw [h1]
  cases q : n with
  | ok a => simp only [hf a q]; exact g a _ (h2 _)
  | ex x => exact absurd q (hx x)
  | stuck => exact trivial
def appN (xs : List α) (a : α) : N (List α) := if xs.length < 100000 then .ok (xs ++ [a]) else .stuck
def popN (xs : List α) : N (α × List α) := match xs[xs.length - 1]? with
  | some y => .ok (y, xs.dropLast)
  | none => .stuck
noncomputable def popAtN (xs : List α) (i : Int) : N (α × List α) := if I63 i then match seqIndex? i xs.length with
    | some k => match xs[k]? with
      | some y => .ok (y, xs.eraseIdx k)
      | none => .stuck
    | none => .stuck
  else .stuck
noncomputable def insN (xs : List α) (i : Int) (a : α) : N (List α) := if xs.length < 100000 ∧ 0 ≤ i ∧ I63 i then .ok (xs.take i.toNat ++ [a] ++ xs.drop i.toNat) else .stuck
theorem rk_app {fe : α → D} {xs : List α} {a : α} {i : Nat} {k : D → DEnv → Fl} {M : List α → Ct σ l ρ} (g : ∀ ys, RS (reC c i (ys.map fe)) (k .none) (M ys) Q) (h : getC c i = some (xs.map fe) := by rfl) : RS c (moK i mAppend [fe a] k) ((appN xs a).ct M) Q :=
  rk_moX (v := fun _ => .none) (ys := id) (fun ys hy => by
    unfold appN at hy
    split at hy <;> cases hy
    rename_i q
    show (if (xs.map fe).length < 100000 then some (PyData.none, xs.map fe ++ [fe a]) else none) = _
    rw [List.length_map, if_pos q]
    simp) (fun x => by unfold appN; split <;> exact fun h => by cases h) g h
theorem rk_pop {fe : α → D} {xs : List α} {i : Nat} {k : D → DEnv → Fl} {M : α × List α → Ct σ l ρ} (g : ∀ p : α × List α, RS (reC c i (p.2.map fe)) (k (fe p.1)) (M p) Q) (h : getC c i = some (xs.map fe) := by rfl) : RS c (moK i mPop [] k) ((popN xs).ct M) Q :=
  rk_moX (v := fun p => fe p.1) (ys := fun p => p.2) (fun p hp => by
    unfold popN at hp
    split at hp <;> cases hp
    rename_i q
    show (match (xs.map fe)[(xs.map fe).length - 1]? with
      | some y => some (y, (xs.map fe).dropLast)
      | none => none) = _
    rw [List.length_map, List.getElem?_map, q]
    simp [List.map_dropLast]) (fun x => by unfold popN; split <;> exact fun h => by cases h) g h
theorem map_eraseIdx (f : α → β) : ∀ (xs : List α) (k : Nat), (xs.map f).eraseIdx k = (xs.eraseIdx k).map f
  | [], k => rfl
  | x :: xs, 0 => rfl
  | x :: xs, k + 1 => by simp [map_eraseIdx f xs k]
theorem rk_popAt {fe : α → D} {xs : List α} {i : Nat} {j : Int} {k : D → DEnv → Fl} {M : α × List α → Ct σ l ρ} (g : ∀ p : α × List α, RS (reC c i (p.2.map fe)) (k (fe p.1)) (M p) Q) (h : getC c i = some (xs.map fe) := by rfl) : RS c (moK i mPopAt [eI j] k) ((popAtN xs j).ct M) Q :=
  rk_moX (v := fun p => fe p.1) (ys := fun p => p.2) (fun p hp => by
    unfold popAtN at hp
    by_cases q : I63 j
    case neg => rw [if_neg q] at hp; cases hp
    rw [if_pos q] at hp
    cases q2 : seqIndex? j xs.length with
    | none => rw [q2] at hp; cases hp
    | some n =>
    rw [q2] at hp
    simp only at hp
    cases q3 : xs[n]? with
    | none => rw [q3] at hp; cases hp
    | some y =>
    rw [q3] at hp
    cases hp
    show (if I63 j then (match seqIndex? j (xs.map fe).length with
      | some k => match (xs.map fe)[k]? with
        | some y => some (y, (xs.map fe).eraseIdx k)
        | none => none
      | none => none) else none) = _
    rw [if_pos q, List.length_map, q2]
    simp only [List.getElem?_map, q3, Option.map_some]
    rw [map_eraseIdx]) (fun x => by
    unfold popAtN
    by_cases q : I63 j
    case neg => rw [if_neg q]; exact fun h => by cases h
    rw [if_pos q]
    cases seqIndex? j xs.length with
    | none => exact fun h => by cases h
    | some n => simp only; cases xs[n]? <;> exact fun h => by cases h) g h
theorem rk_ins {fe : α → D} {xs : List α} {a : α} {i : Nat} {j : Int} {k : D → DEnv → Fl} {M : List α → Ct σ l ρ} (g : ∀ ys, RS (reC c i (ys.map fe)) (k .none) (M ys) Q) (h : getC c i = some (xs.map fe) := by rfl) : RS c (moK i mInsert [eI j, fe a] k) ((insN xs j a).ct M) Q :=
  rk_moX (v := fun _ => .none) (ys := id) (fun ys hy => by
    unfold insN at hy
    split at hy <;> cases hy
    rename_i q
    show (if (xs.map fe).length < 100000 ∧ 0 ≤ j ∧ I63 j then some (PyData.none, (xs.map fe).take j.toNat ++ [fe a] ++ (xs.map fe).drop j.toNat) else none) = _
    rw [List.length_map, if_pos q]
    simp [List.map_take, List.map_drop]) (fun x => by unfold insN; split <;> exact fun h => by cases h) g h
/-! ### stores -/
def stb (c : Sps) (i : Nat) : Bool := match c[i]? with
  | some (.is s) => DL.np s
  | some _ => true
  | none => false
theorem stb_at {i : Nat} (h : stb c i = true) {e : DEnv} (he : Fits c e) (s : Sl) : setV i s e = some (e.set i s) := by
  have go : ∀ t, e[i]? = some t → DL.np t = true → setV i s e = some (e.set i s) := fun t h1 h2 => by
    unfold setV
    rw [h1]
    cases t <;> first | rfl | cases h2
  unfold stb at h
  split at h
  · rename_i q; exact go _ (he.is q) h
  · rename_i x hx q
    obtain ⟨t, a, b⟩ := he.get q
    refine go t a ?_
    cases x with
    | is s => exact absurd rfl (hx s)
    | np => exact b
    | nw => cases t with
      | p xs => exact absurd b (by intro z; cases z)
      | _ => rfl
  · cases h
/-- a target -/
def GS (c : Sps) (g : DG) (d : D) (c' : Sps) : Prop := ∀ e, Fits c e → ∃ e', g d e = some e' ∧ Fits c' e'
theorem gs_N {i : Nat} {d : D} (h : stb c i = true := by rfl) : GS c (gN i) d (c.set i (.is (.v d))) := fun e he => ⟨_, stb_at h he _, he.set i rfl⟩
def GSs (c : Sps) (gs : List DG) (ds : List D) (c' : Sps) : Prop := ∀ e, Fits c e → ∃ e', gsN gs ds e = some e' ∧ Fits c' e'
theorem gss_nil : GSs c [] [] c := fun e he => ⟨e, rfl, he⟩
theorem gss_cons {g : DG} {gs : List DG} {d : D} {ds : List D} {c1 c2 : Sps} (h : GS c g d c1) (h2 : GSs c1 gs ds c2) : GSs c (g :: gs) (d :: ds) c2 := fun e he => by
  obtain ⟨e1, a, b⟩ := h e he
  obtain ⟨e2, a2, b2⟩ := h2 e1 b
  exact ⟨e2, by unfold gsN; rw [a]; exact a2, b2⟩
theorem gs_T {gs : List DG} {ds : List D} {c' : Sps} (h : GSs c gs ds c') : GS c (gT gs) (.tuple ds) c' := fun e he => h e he
theorem gs_L {gs : List DG} {ds : List D} {c' : Sps} (h : GSs c gs ds c') : GS c (gT gs) (.list ds) c' := fun e he => h e he
def asgK (g : DG) (b : DS) (d : D) : DEnv → Fl := fun e => (match g d e with
  | some e2 => Fl.nx e2
  | none => .stuck).seq b
theorem rs_asg {de : DE} {g : DG} {b : DS} (h : RS c (FK de (asgK g b)) m Q) : RS c (sSeq (sAsg de g) b) m Q := rk_conv (fun e => by
  unfold FK sSeq sAsg
  cases de e <;> rfl) h
theorem rk_asg {g : DG} {d : D} {b : DS} {c' : Sps} (hg : GS c g d c') (h : RS c' b m Q) : RS c (asgK g b d) m Q := fun e he => by
  obtain ⟨e', a, f⟩ := hg e he
  unfold asgK
  rw [a]
  exact h e' f
theorem rk_asgN {i : Nat} {d : D} {b : DS} (h : RS (c.set i (.is (.v d))) b m Q) (hs : stb c i = true := by rfl) : RS c (asgK (gN i) b d) m Q := rk_asg (gs_N hs) h
def un3 (xs : List α) : N (α × α × α) := match xs with
  | [a, b, c] => .ok (a, b, c)
  | _ => .stuck
theorem rk_asg3 {i j n : Nat} {f : α → D} {xs : List α} {b : DS} {M : α × α × α → Ct σ l ρ} (h : ∀ p : α × α × α, RS (((c.set i (.is (.v (f p.1)))).set j (.is (.v (f p.2.1)))).set n (.is (.v (f p.2.2)))) b (M p) Q) (h1 : stb c i = true := by rfl) (h2 : ∀ d, stb (c.set i (.is (.v d))) j = true := by intro _; rfl) (h3 : ∀ d d', stb ((c.set i (.is (.v d))).set j (.is (.v d'))) n = true := by intro _ _; rfl) : RS c (asgK (gT [gN i, gN j, gN n]) b (eTs f xs)) ((un3 xs).ct M) Q := by
  match xs with
  | [x, y, z] => exact rk_asg (gs_T (gss_cons (gs_N h1) (gss_cons (gs_N (h2 _)) (gss_cons (gs_N (h3 _ _)) gss_nil)))) (h (x, y, z))
  | [] => exact fun _ _ => trivial
  | [_] => exact fun _ _ => trivial
  | [_, _] => exact fun _ _ => trivial
  | _ :: _ :: _ :: _ :: _ => exact fun _ _ => trivial
def asgLK (i : Nat) (b : DS) (xs : List D) : DEnv → Fl := fun e => (match setV i (.l xs) e with
  | some e2 => Fl.nx e2
  | none => .stuck).seq b
theorem rs_asgL {dl : DA} {i : Nat} {b : DS} (h : RS c (FK dl (asgLK i b)) m Q) : RS c (sSeq (sAsgL i dl) b) m Q := rk_conv (fun e => by
  unfold FK sSeq sAsgL
  cases dl e <;> rfl) h
theorem rk_asgL {i : Nat} {xs : List D} {b : DS} (h : RS (c.set i (.is (.l xs))) b m Q) (hs : stb c i = true := by rfl) : RS c (asgLK i b xs) m Q := fun e he => by
  unfold asgLK
  rw [stb_at hs he]
  exact h _ (he.set i rfl)
def asgMK (i : Nat) (b : DS) (xs : List (D × D)) : DEnv → Fl := fun e => (match setV i (.m xs) e with
  | some e2 => Fl.nx e2
  | none => .stuck).seq b
theorem rs_asgM {dm : DM} {i : Nat} {b : DS} (h : RS c (FK dm (asgMK i b)) m Q) : RS c (sSeq (sAsgM i dm) b) m Q := rk_conv (fun e => by
  unfold FK sSeq sAsgM
  cases dm e <;> rfl) h
theorem rk_asgM {i : Nat} {xs : List (D × D)} {b : DS} (h : RS (c.set i (.is (.m xs))) b m Q) (hs : stb c i = true := by rfl) : RS c (asgMK i b xs) m Q := fun e he => by
  unfold asgMK
  rw [stb_at hs he]
  exact h _ (he.set i rfl)
theorem ep_dict0 : EP c lDict0 [] := fun _ _ => rfl
def knK (i : Nat) (f : DEnv → Fl) : DEnv → Fl := fun e => if known i e = true then f e else .stuck
theorem rk_kn {i : Nat} {f : DEnv → Fl} (g : RS c f m Q) (h : knownC c i = true := by rfl) : RS c (knK i f) m Q := fun e he => by
  unfold knK
  rw [knownC_at h he, if_pos rfl]
  exact g e he
def setK (i : Nat) (v kk : D) (b : DS) : DEnv → Fl := fun e2 => (match getL i e2, kk with
  | some xs, .int n => match ixN xs.length n with
    | some j => Fl.nx (putL i (xs.set j v) e2)
    | none => .stuck
  | _, _ => .stuck).seq b
theorem rs_setO {i : Nat} {dk dv : DE} {b : DS} (g : RS c (FK dv fun v => knK i (FK dk fun kk => setK i v kk b)) m Q) : RS c (sSeq (sSetO i dk dv) b) m Q := rk_conv (fun e => by
  unfold FK sSeq sSetO
  cases dv e with
  | ok v e1 =>
    simp only [fl_ok, knK]
    cases known i e1
    · rfl
    · simp only [if_true]
      cases dk e1 <;> rfl
  | ex _ _ => rfl
  | stuck => rfl) g
def setN (xs : List α) (n : Int) (a : α) : N (List α) := match ixN xs.length n with
  | some j => .ok (xs.set j a)
  | none => .stuck
theorem rk_set {i : Nat} {fe : α → D} {a : α} {n : Int} {xs : List α} {b : DS} {M : List α → Ct σ l ρ} (g : ∀ ys : List α, RS (reC c i (ys.map fe)) b (M ys) Q) (h : getC c i = some (xs.map fe) := by rfl) : RS c (setK i (fe a) (eI n) b) ((setN xs n a).ct M) Q := fun e he => by
  obtain ⟨h1, h2⟩ := getC_at h he
  unfold setK setN
  rw [h1]
  simp only [List.length_map]
  cases ixN xs.length n with
  | none => exact trivial
  | some j => simp only [← List.map_set]; exact g _ _ (h2 _)
def putMK (i : Nat) (v kk : D) (b : DS) : DEnv → Fl := fun e2 => (match getM i e2, DL.keyOf kk with
  | some xs, some a => if xs.length < 100000 then Fl.nx (e2.set i (.m (putD xs a v))) else .stuck
  | _, _ => .stuck).seq b
theorem rs_putM {i : Nat} {dk dv : DE} {b : DS} (g : RS c (FK dv fun v => knK i (FK dk fun kk => putMK i v kk b)) m Q) : RS c (sSeq (sPutM i dk dv) b) m Q := rk_conv (fun e => by
  unfold FK sSeq sPutM
  cases dv e with
  | ok v e1 =>
    simp only [fl_ok, knK]
    cases known i e1
    · rfl
    · simp only [if_true]
      cases dk e1 <;> rfl
  | ex _ _ => rfl
  | stuck => rfl) g
def putN {κ : Type} [DecidableEq κ] (kvs : List (κ × β)) (k : κ) (v : β) : N (List (κ × β)) := if kvs.length < 100000 then .ok (dput kvs k v) else .stuck
theorem rk_putM {κ : Type} [DecidableEq κ] {f : κ → D} [ke : KeyE f] {g : β → D} {i : Nat} {kk : κ} {v : β} {kvs : List (κ × β)} {b : DS} {M : List (κ × β) → Ct σ l ρ} (h : ∀ kvs' : List (κ × β), RS (c.set i (.is (.m (eKv f g kvs')))) b (M kvs') Q) (hc : c[i]? = some (.is (.m (eKv f g kvs))) := by rfl) : RS c (putMK i (g v) (f kk) b) ((putN kvs kk v).ct M) Q := fun e he => by
  unfold putMK putN getM
  rw [he.is hc, ke.keyOf]
  simp only [List.length_map, putD_typed]
  split
  · exact h _ _ (he.set i rfl)
  · exact trivial
/-! ### statements -/
theorem rs_last {a : DS} (h : RS c (sSeq a sNx) m Q) : RS c a m Q := rk_conv (fun e => by
  unfold sSeq
  cases a e <;> rfl) h
theorem rs_nx {s : σ} (h : ∀ e, Fits c e → Q.nx s e) : RS c sNx (.nx s) Q := fun e he => ⟨e, rfl, h e he⟩
theorem rs_bk {s : l} {b : DS} (h : ∀ e, Fits c e → Q.lp s e) : RS c (sSeq sBk b) (.bk s) Q := fun e he => ⟨e, rfl, h e he⟩
theorem rs_ct {s : l} {b : DS} (h : ∀ e, Fits c e → Q.lp s e) : RS c (sSeq sCt b) (.ct s) Q := fun e he => ⟨e, rfl, h e he⟩
def retK (d : D) : DEnv → Fl := fun e => .rt d e
def retL (d : List D) : DEnv → Fl := fun e => .rl d e
def retT (b : Bool) : DEnv → Fl := fun e => .rt (.bool b) e
theorem rs_ret {de : DE} {b : DS} (h : RS c (FK de retK) m Q) : RS c (sSeq (sRet de) b) m Q := rk_conv (fun e => by
  unfold FK sSeq sRet
  cases de e <;> rfl) h
theorem rs_retL {de : DA} {b : DS} (h : RS c (FK de retL) m Q) : RS c (sSeq (sRetL de) b) m Q := rk_conv (fun e => by
  unfold FK sSeq sRetL
  cases de e <;> rfl) h
theorem rs_retN {b : DS} (h : RS c (retK .none) m Q) : RS c (sSeq sRetN b) m Q := rk_conv (fun e => rfl) h
theorem rk_ret {d : D} {r : ρ} (h : ∀ e, Fits c e → Q.rt r d e) : RS c (retK d) (.rt r : Ct σ l ρ) Q := fun e he => .inl ⟨d, e, rfl, h e he⟩
theorem rk_retL {d : List D} {r : ρ} (h : ∀ e, Fits c e → Q.rl r d e) : RS c (retL d) (.rt r : Ct σ l ρ) Q := fun e he => .inr ⟨d, e, rfl, h e he⟩
theorem rk_retT {b : Bool} {r : ρ} (h : ∀ e, Fits c e → Q.rt r (.bool b) e) : RS c (retT b) (.rt r : Ct σ l ρ) Q := fun e he => .inl ⟨_, e, rfl, h e he⟩
theorem rs_drop {de : DE} {b : DS} (h : RS c (FK de fun _ => b) m Q) : RS c (sSeq (sDrop de) b) m Q := rk_conv (fun e => by
  unfold FK sSeq sDrop
  cases de e <;> rfl) h
theorem rs_if {t : DT} {a b r : DS} (h : RS c (FK t fun z => ifF z (sSeq a r) (sSeq b r)) m Q) : RS c (sSeq (sIf t a b) r) m Q := rk_conv (fun e => by
  unfold FK sSeq sIf
  cases t e with
  | ok z e1 => cases z <;> rfl
  | ex _ _ => rfl
  | stuck => rfl) h
theorem rs_if0 {t : DT} {a b : DS} (h : RS c (FK t fun z => ifF z a b) m Q) : RS c (sIf t a b) m Q := rk_conv (fun e => by
  unfold FK sIf
  cases t e with
  | ok z e1 => cases z <;> rfl
  | ex _ _ => rfl
  | stuck => rfl) h
theorem rs_nxs {b : DS} (h : RS c b m Q) : RS c (sSeq sNx b) m Q := h
theorem rs_opt {x : Option α} {cc : Option α → Sps} {f : Option α → DEnv → Fl} {QQ : Option α → Qs σ l ρ} {A : Ct σ l ρ} {B : α → Ct σ l ρ} (h0 : RS (cc none) (f none) A (QQ none)) (h1 : ∀ y, RS (cc (some y)) (f (some y)) (B y) (QQ (some y))) : RS (cc x) (f x) (optC x A B) (QQ x) := by
  cases x
  · exact h0
  · exact h1 _
theorem rs_seq {a b : DS} {m1 : Ct τ l ρ} {K : τ → Ct σ l ρ} {c1 : τ → Sps} (h : RS c a m1 { nx := fun s e => Fits (c1 s) e, lp := Q.lp, rt := Q.rt, rl := Q.rl, ex := Q.ex }) (h2 : ∀ s, RS (c1 s) b (K s) Q) : RS c (sSeq a b) (m1.sq K) Q := fun e he => by
  have h' := h e he
  unfold sSeq
  cases m1 with
  | nx s => obtain ⟨e1, q, f⟩ := h'; rw [q]; exact h2 s e1 f
  | rt r =>
    rcases h' with ⟨d, e1, q, f⟩ | ⟨d, e1, q, f⟩
    · rw [q]; exact .inl ⟨d, e1, rfl, f⟩
    · rw [q]; exact .inr ⟨d, e1, rfl, f⟩
  | bk s => obtain ⟨e1, q, f⟩ := h'; rw [q]; exact ⟨e1, rfl, f⟩
  | ct s => obtain ⟨e1, q, f⟩ := h'; rw [q]; exact ⟨e1, rfl, f⟩
  | ex s => obtain ⟨e1, q, f⟩ := h'; rw [q]; exact ⟨e1, rfl, f⟩
  | stuck => exact trivial
/-- loops -/
theorem forD_R {fe : α → D} {g : DG} {body : DS} {nb : α → σ → Ct σ σ ρ} {c0 : σ → Sps} {c1 : α → σ → Sps} (hg : ∀ a s, GS (c0 s) g (fe a) (c1 a s)) (hb : ∀ a s, RS (c1 a s) body (nb a s) { nx := fun s e => Fits (c0 s) e, lp := fun s e => Fits (c0 s) e, rt := Q.rt, rl := Q.rl, ex := Q.ex }) : ∀ (xs : List α) (s : σ), RS (c0 s) (forD g body (xs.map fe)) (forC nb xs s) { Q with nx := fun s e => Fits (c0 s) e }
  | [], s => fun e he => ⟨e, rfl, he⟩
  | a :: as, s => fun e he => by
    obtain ⟨e1, q, f1⟩ := hg a s e he
    have h' := hb a s e1 f1
    have ih := forD_R hg hb as
    show R ((nb a s).again (forC nb as)) (match g (fe a) e with
      | none => .stuck
      | some e1 => (body e1).turn (forD g body (as.map fe))) _
    rw [q]
    show R ((nb a s).again (forC nb as)) ((body e1).turn (forD g body (as.map fe))) _
    cases w : nb a s with
    | nx s => rw [w] at h'; obtain ⟨e2, q, f⟩ := h'; rw [q]; exact ih s e2 f
    | ct s => rw [w] at h'; obtain ⟨e2, q, f⟩ := h'; rw [q]; exact ih s e2 f
    | bk s => rw [w] at h'; obtain ⟨e2, q, f⟩ := h'; rw [q]; exact ⟨e2, rfl, f⟩
    | rt r =>
      rw [w] at h'
      rcases h' with ⟨d, e2, q, f⟩ | ⟨d, e2, q, f⟩
      · rw [q]; exact .inl ⟨d, e2, rfl, f⟩
      · rw [q]; exact .inr ⟨d, e2, rfl, f⟩
    | ex s => rw [w] at h'; obtain ⟨e2, q, f⟩ := h'; rw [q]; exact ⟨e2, rfl, f⟩
    | stuck => exact trivial
theorem rs_forK {di : DA} {g : DG} {body b : DS} (h : RS c (FK di fun ds => sSeq (forD g body ds) b) m Q) : RS c (sSeq (sFor di g body) b) m Q := rk_conv (fun e => by
  unfold FK sSeq sFor
  cases di e <;> rfl) h
theorem rs_for {fe : α → D} {g : DG} {body b : DS} {nb : α → τ → Ct τ τ ρ} {c0 : τ → Sps} {c1 : α → τ → Sps} {xs : List α} {s0 : τ} {K : τ → Ct σ l ρ} (hs : Sub c (c0 s0)) (hg : ∀ a s, GS (c0 s) g (fe a) (c1 a s)) (hb : ∀ a s, RS (c1 a s) body (nb a s) { nx := fun s e => Fits (c0 s) e, lp := fun s e => Fits (c0 s) e, rt := Q.rt, rl := Q.rl, ex := Q.ex }) (h : ∀ s, RS (c0 s) b (K s) Q) : RS c (sSeq (forD g body (xs.map fe)) b) ((forC nb xs s0).sq K) Q :=
  rs_seq (c1 := c0) (fun e he => forD_R (Q := { nx := fun s e => Fits (c0 s) e, lp := Q.lp, rt := Q.rt, rl := Q.rl, ex := Q.ex }) hg hb xs s0 e (he.sub hs)) h
/-- a test with its answer alone -/
def TN (c : Sps) (t : DT) (n : N Bool) (ex : DEnv → Prop) : Prop := ∀ e, Fits c e → match n with
  | .ok b => t e = .ok b e
  | .ex x => ∃ e', t e = .ex x e' ∧ ex e'
  | .stuck => True
theorem tn_pure {t : DT} {b : Bool} {ex : DEnv → Prop} (h : EP c t b) : TN c t (.ok b) ex := fun e he => h e he
theorem whileD_R {t : DT} {body : DS} {nt : σ → N Bool} {nb : σ → Ct σ σ ρ} {c0 : σ → Sps} (ht : ∀ s, RS (c0 s) (FK t retT) ((nt s).ct fun b => (.rt b : Ct Unit Unit Bool)) { nx := fun _ _ => False, lp := fun _ _ => False, rt := fun b d e => d = .bool b ∧ Fits (c0 s) e, rl := fun _ _ _ => False, ex := Q.ex }) (hb : ∀ s, RS (c0 s) body (nb s) { nx := fun s e => Fits (c0 s) e, lp := fun s e => Fits (c0 s) e, rt := Q.rt, rl := Q.rl, ex := Q.ex }) : ∀ (n : Nat) (s : σ), RS (c0 s) (whileD t body n) (whileC nt nb n s) { Q with nx := fun s e => Fits (c0 s) e }
  | 0, s => fun e he => trivial
  | n + 1, s => fun e he => by
    have h1 := ht s e he
    unfold FK at h1
    show R ((nt s).ct fun b => if b = true then (nb s).again (whileC nt nb n) else .nx s) ((t e).fl fun b e1 => if b = true then (body e1).turn (whileD t body n) else .nx e1) _
    cases w : nt s with
    | stuck => exact trivial
    | ex x =>
      rw [w] at h1
      obtain ⟨e', q, f⟩ := h1
      cases w2 : t e with
      | ok b e1 => rw [w2] at q; cases q
      | ex x e1 => rw [w2] at q; cases q; exact ⟨_, rfl, f⟩
      | stuck => rw [w2] at q; cases q
    | ok b =>
      rw [w] at h1
      rcases h1 with ⟨d, e', q, f1, f2⟩ | ⟨d, e', q, f⟩
      · cases w2 : t e with
        | ex x e1 => rw [w2] at q; cases q
        | stuck => rw [w2] at q; cases q
        | ok b2 e1 =>
          rw [w2] at q
          have q1 : PyData.bool b2 = d := by injection q
          have q2 : e1 = e' := by injection q
          subst q2
          subst q1
          have q3 : b2 = b := by injection f1
          subst q3
          show R (if b2 = true then (nb s).again (whileC nt nb n) else .nx s) (if b2 = true then (body e1).turn (whileD t body n) else .nx e1) _
          cases b2 with
          | false => exact ⟨e1, rfl, f2⟩
          | true =>
            rw [if_pos rfl, if_pos rfl]
            have h' := hb s e1 f2
            have ih := whileD_R ht hb n
            cases w : nb s with
            | nx s => rw [w] at h'; obtain ⟨e2, q, f⟩ := h'; rw [q]; exact ih s e2 f
            | ct s => rw [w] at h'; obtain ⟨e2, q, f⟩ := h'; rw [q]; exact ih s e2 f
            | bk s => rw [w] at h'; obtain ⟨e2, q, f⟩ := h'; rw [q]; exact ⟨e2, rfl, f⟩
            | rt r =>
              rw [w] at h'
              rcases h' with ⟨d, e2, q, f⟩ | ⟨d, e2, q, f⟩
              · rw [q]; exact .inl ⟨d, e2, rfl, f⟩
              · rw [q]; exact .inr ⟨d, e2, rfl, f⟩
            | ex s => rw [w] at h'; obtain ⟨e2, q, f⟩ := h'; rw [q]; exact ⟨e2, rfl, f⟩
            | stuck => exact trivial
      · exact f.elim
theorem rs_while {t : DT} {body b : DS} {n : Nat} {nt : τ → N Bool} {nb : τ → Ct τ τ ρ} {c0 : τ → Sps} {s0 : τ} {K : τ → Ct σ l ρ} (hs : Sub c (c0 s0)) (ht : ∀ s, RS (c0 s) (FK t retT) ((nt s).ct fun b => (.rt b : Ct Unit Unit Bool)) { nx := fun _ _ => False, lp := fun _ _ => False, rt := fun b d e => d = .bool b ∧ Fits (c0 s) e, rl := fun _ _ _ => False, ex := Q.ex }) (hb : ∀ s, RS (c0 s) body (nb s) { nx := fun s e => Fits (c0 s) e, lp := fun s e => Fits (c0 s) e, rt := Q.rt, rl := Q.rl, ex := Q.ex }) (h : ∀ s, RS (c0 s) b (K s) Q) : RS c (sSeq (whileD t body n) b) ((whileC nt nb n s0).sq K) Q :=
  rs_seq (c1 := c0) (fun e he => whileD_R (Q := { nx := fun s e => Fits (c0 s) e, lp := Q.lp, rt := Q.rt, rl := Q.rl, ex := Q.ex }) ht hb n s0 e (he.sub hs)) h
end
end NT
/- part NT4 -/
set_option Elab.async false
set_option linter.all false
set_option autoImplicit false
/-! NT4: units, calls, defs, comprehensions. -/
namespace NT
open PySem L2 DL LW
section
variable {α β σ τ l ρ : Type} {c : Sps} {m : Ct σ l ρ} {Q : Qs σ l ρ}
/-! ### a form by its answer alone -/
abbrev QV (v : β → D) (c' : β → Sps) (ex : DEnv → Prop) : Qs Unit Unit β := { nx := fun _ _ => False, lp := fun _ _ => False, rt := fun r d e => d = v r ∧ Fits (c' r) e, rl := fun _ _ _ => False, ex := ex }
abbrev QL (v : β → List D) (c' : β → Sps) (ex : DEnv → Prop) : Qs Unit Unit β := { nx := fun _ _ => False, lp := fun _ _ => False, rt := fun _ _ _ => False, rl := fun r d e => d = v r ∧ Fits (c' r) e, ex := ex }
theorem rk_unit {de : DE} {k : D → DEnv → Fl} {mu : Ct Unit Unit β} {v : β → D} {c' : β → Sps} {M : β → Ct σ l ρ} (hu : RS c (FK de retK) mu (QV v c' Q.ex)) (g : ∀ r, RS (c' r) (k (v r)) (M r) Q) : RS c (FK de k) (mu.fn.ct M) Q := fun e he => by
  have h := hu e he
  unfold FK at h ⊢
  cases mu with
  | nx s => obtain ⟨_, _, f⟩ := h; exact f.elim
  | bk s => obtain ⟨_, _, f⟩ := h; exact f.elim
  | ct s => obtain ⟨_, _, f⟩ := h; exact f.elim
  | stuck => exact trivial
  | ex x =>
    obtain ⟨e', q, f⟩ := h
    cases w : de e with
    | ok d e1 => rw [w] at q; cases q
    | ex y e1 => rw [w] at q; cases q; exact ⟨_, rfl, f⟩
    | stuck => rw [w] at q; cases q
  | rt r =>
    rcases h with ⟨d, e', q, f1, f2⟩ | ⟨_, _, _, f⟩
    · cases w : de e with
      | ok d e1 =>
        rw [w] at q
        cases q
        rw [f1]
        exact g r _ f2
      | ex y e1 => rw [w] at q; cases q
      | stuck => rw [w] at q; cases q
    · exact f.elim
theorem rk_unitT {de : DT} {k : Bool → DEnv → Fl} {mu : Ct Unit Unit β} {v : β → Bool} {c' : β → Sps} {M : β → Ct σ l ρ} (hu : RS c (FK de retT) mu (QV (fun r => .bool (v r)) c' Q.ex)) (g : ∀ r, RS (c' r) (k (v r)) (M r) Q) : RS c (FK de k) (mu.fn.ct M) Q := fun e he => by
  have h := hu e he
  unfold FK at h ⊢
  cases mu with
  | nx s => obtain ⟨_, _, f⟩ := h; exact f.elim
  | bk s => obtain ⟨_, _, f⟩ := h; exact f.elim
  | ct s => obtain ⟨_, _, f⟩ := h; exact f.elim
  | stuck => exact trivial
  | ex x =>
    obtain ⟨e', q, f⟩ := h
    cases w : de e with
    | ok d e1 => rw [w] at q; cases q
    | ex y e1 => rw [w] at q; cases q; exact ⟨_, rfl, f⟩
    | stuck => rw [w] at q; cases q
  | rt r =>
    rcases h with ⟨d, e', q, f1, f2⟩ | ⟨_, _, _, f⟩
    · cases w : de e with
      | ok d e1 =>
        rw [w] at q
        cases q
        injection f1 with f1
        subst f1
        exact g r _ f2
      | ex y e1 => rw [w] at q; cases q
      | stuck => rw [w] at q; cases q
    · exact f.elim
theorem rk_unitL {de : DA} {k : List D → DEnv → Fl} {mu : Ct Unit Unit β} {v : β → List D} {c' : β → Sps} {M : β → Ct σ l ρ} (hu : RS c (FK de retL) mu (QL v c' Q.ex)) (g : ∀ r, RS (c' r) (k (v r)) (M r) Q) : RS c (FK de k) (mu.fn.ct M) Q := fun e he => by
  have h := hu e he
  unfold FK at h ⊢
  cases mu with
  | nx s => obtain ⟨_, _, f⟩ := h; exact f.elim
  | bk s => obtain ⟨_, _, f⟩ := h; exact f.elim
  | ct s => obtain ⟨_, _, f⟩ := h; exact f.elim
  | stuck => exact trivial
  | ex x =>
    obtain ⟨e', q, f⟩ := h
    cases w : de e with
    | ok d e1 => rw [w] at q; cases q
    | ex y e1 => rw [w] at q; cases q; exact ⟨_, rfl, f⟩
    | stuck => rw [w] at q; cases q
  | rt r =>
    rcases h with ⟨_, _, _, f⟩ | ⟨d, e', q, f1, f2⟩
    · exact f.elim
    · cases w : de e with
      | ok d e1 =>
        rw [w] at q
        cases q
        rw [f1]
        exact g r _ f2
      | ex y e1 => rw [w] at q; cases q
      | stuck => rw [w] at q; cases q
theorem rk_retV {v : β → D} {c' : β → Sps} {ex : DEnv → Prop} {r : β} (h : Sub c (c' r)) : RS c (retK (v r)) (.rt r) (QV v c' ex) := rk_ret fun e he => ⟨rfl, he.sub h⟩
theorem rk_retVT {v : β → Bool} {c' : β → Sps} {ex : DEnv → Prop} {r : β} (h : Sub c (c' r)) : RS c (retT (v r)) (.rt r) (QV (fun r => .bool (v r)) c' ex) := rk_retT fun e he => ⟨rfl, he.sub h⟩
theorem rk_retVL {v : β → List D} {c' : β → Sps} {ex : DEnv → Prop} {r : β} (h : Sub c (c' r)) : RS c (retL (v r)) (.rt r) (QL v c' ex) := rk_retL fun e he => ⟨rfl, he.sub h⟩
/-- a test of a while -/
theorem rk_fnrt {v : β → D} {c' : β → Sps} {ex : DEnv → Prop} {f : DEnv → Fl} {mu : Ct Unit Unit β} (h : RS c f mu (QV v c' ex)) : RS c f (mu.fn.ct fun b => (.rt b : Ct Unit Unit β)) { nx := fun _ _ => False, lp := fun _ _ => False, rt := fun b d e => d = v b ∧ Fits (c' b) e, rl := fun _ _ _ => False, ex := ex } := fun e he => by
  have h := h e he
  cases mu with
  | nx s => obtain ⟨_, _, f⟩ := h; exact f.elim
  | bk s => obtain ⟨_, _, f⟩ := h; exact f.elim
  | ct s => obtain ⟨_, _, f⟩ := h; exact f.elim
  | stuck => exact trivial
  | ex x => exact h
  | rt r => exact h
/-! ### calls -/
def RF (m : N ρ) (fo : Fo) (v : ρ → D) (outs : ρ → DEnv) : Prop := match m with
  | .ok r => fo = .ok (v r) (outs r)
  | .ex x => ∃ o, fo = .ex x o
  | .stuck => True
def RFl (m : N ρ) (fo : Fo) (v : ρ → List D) (outs : ρ → DEnv) : Prop := match m with
  | .ok r => fo = .okl (v r) (outs r)
  | .ex x => ∃ o, fo = .ex x o
  | .stuck => True
def callK (np : Nat) (F : Df) (k : D → DEnv → Fl) (as : List Ar) : DEnv → Fl := fun e => (if as.length = np then (callD F as e).rs else .stuck).fl k
def callKL (np : Nat) (F : Df) (k : List D → DEnv → Fl) (as : List Ar) : DEnv → Fl := fun e => (if as.length = np then (callD F as e).rl else .stuck).fl k
theorem rk_callN {np : Nat} {F : Df} {da : DAr} {k : D → DEnv → Fl} (g : RS c (FK da (callK np F k)) m Q) : RS c (FK (eCallN np F da) k) m Q := rk_conv (fun e => by
  unfold FK eCallN
  rw [fl_bind]
  rfl) g
theorem rk_callNL {np : Nat} {F : Df} {da : DAr} {k : List D → DEnv → Fl} (g : RS c (FK da (callKL np F k)) m Q) : RS c (FK (lCallN np F da) k) m Q := rk_conv (fun e => by
  unfold FK lCallN
  rw [fl_bind]
  rfl) g
theorem rk_rnil {k : List Ar → DEnv → Fl} (g : RS c (k []) m Q) : RS c (FK rNil k) m Q := g
theorem rk_rcons {de : DE} {da : DAr} {k : List Ar → DEnv → Fl} (g : RS c (FK de fun x => FK da fun xs => k (.d x :: xs)) m Q) : RS c (FK (rCons de da) k) m Q := rk_conv (fun e => by
  unfold FK rCons
  simp only [fl_bind]
  rfl) g
def lentC (c : Sps) (i : Nat) : Bool := (getC c i).isSome
theorem lentC_at {i : Nat} (h : lentC c i = true) {e : DEnv} (he : Fits c e) : lent i e = true := by
  unfold lentC getC at h
  split at h
  · rename_i q; have := he.is q; unfold lent; rw [this]
  · rename_i q; have := he.is q; unfold lent; rw [this]
  · cases h
def lendK (i : Nat) (k : List Ar → DEnv → Fl) (xs : List Ar) : DEnv → Fl := fun e => if lent i e = true then k (.s i :: xs) e else .stuck
theorem rk_lend {i : Nat} {da : DAr} {k : List Ar → DEnv → Fl} (g : RS c (FK da (lendK i k)) m Q) (h : lentC c i = true := by rfl) : RS c (FK (rLendC i da) k) m Q := fun e he => by
  have := g e he
  unfold FK at this ⊢
  unfold rLendC
  rw [lentC_at h he, if_pos rfl]
  cases w : da e with
  | ok xs e1 =>
    rw [w] at this
    show R m ((if lent i e1 = true then Rs.ok (.s i :: xs) e1 else .stuck).fl k) Q
    have h2 : R m (if lent i e1 = true then k (.s i :: xs) e1 else .stuck) Q := this
    cases hl : lent i e1 with
    | true => rw [hl] at h2; exact h2
    | false => rw [hl] at h2; exact h2
  | ex _ _ => rw [w] at this; exact this
  | stuck => rw [w] at this; exact this
theorem rk_lendK {i : Nat} {k : List Ar → DEnv → Fl} {xs : List Ar} (g : RS c (k (.s i :: xs)) m Q) (h : lentC c i = true := by rfl) : RS c (lendK i k xs) m Q := fun e he => by
  unfold lendK
  rw [lentC_at h he, if_pos rfl]
  exact g e he
def toC (c : Sps) : Ar → Sl
  | .d x => .v x
  | .g x => .f x
  | .s i => match getC c i with
    | some xs => .p xs
    | none => .no
def lentAll (c : Sps) : List Ar → Bool
  | [] => true
  | .d _ :: as => lentAll c as
  | .g _ :: as => lentAll c as
  | .s i :: as => lentC c i && lentAll c as
theorem toC_at {e : DEnv} (he : Fits c e) : ∀ (as : List Ar), lentAll c as = true → as.map (toSl e) = as.map (toC c)
  | [], _ => rfl
  | .d x :: as, h => by rw [List.map_cons, List.map_cons, toC_at he as h]; rfl
  | .g x :: as, h => by rw [List.map_cons, List.map_cons, toC_at he as h]; rfl
  | .s i :: as, h => by
    have h' : lentC c i = true ∧ lentAll c as = true := by unfold lentAll at h; rwa [Bool.and_eq_true] at h
    rw [List.map_cons, List.map_cons, toC_at he as h'.2]
    congr 1
    have h1 := h'.1
    unfold lentC getC at h1
    split at h1
    · rename_i q; have := he.is q; simp only [toSl, this, toC, getC, q]
    · rename_i q; have := he.is q; simp only [toSl, this, toC, getC, q]
    · cases h1
def convC (c : Sps) (i : Nat) (o : Sl) : Sp := match c[i]? with
  | some (.is s) => .is (conv s o)
  | _ => .np
def setBack (c : Sps) : List Ar → DEnv → Sps
  | .d _ :: as, _ :: os => setBack c as os
  | .g _ :: as, _ :: os => setBack c as os
  | .s i :: as, o :: os => setBack (c.set i (convC c i o)) as os
  | _, _ => c
theorem setBack_len : ∀ (as : List Ar) (os : DEnv) (c : Sps), (setBack c as os).length = c.length
  | [], _, _ => rfl
  | .d _ :: as, [], _ => rfl
  | .g _ :: as, [], _ => rfl
  | .s _ :: as, [], _ => rfl
  | .d _ :: as, _ :: os, c => setBack_len as os c
  | .g _ :: as, _ :: os, c => setBack_len as os c
  | .s i :: as, o :: os, c => by
    show (setBack (c.set i (convC c i o)) as os).length = _
    rw [setBack_len as os, List.length_set]
theorem lookS_none {j : Nat} : ∀ (as : List Ar) (os : DEnv), j ∉ slotsOf as → lookS j as os = none
  | [], _, _ => by simp [lookS]
  | .d _ :: as, [], _ => rfl
  | .g _ :: as, [], _ => rfl
  | .s _ :: as, [], _ => rfl
  | .d _ :: as, _ :: os, h => lookS_none as os (by simpa [slotsOf] using h)
  | .g _ :: as, _ :: os, h => lookS_none as os (by simpa [slotsOf] using h)
  | .s i :: as, o :: os, h => by
    have h' : ¬ j = i ∧ j ∉ slotsOf as := by simpa [slotsOf] using h
    show (if i = j then some o else lookS j as os) = none
    rw [if_neg (fun z => h'.1 z.symm)]
    exact lookS_none as os h'.2
theorem setBack_at : ∀ (as : List Ar) (os : DEnv) (c : Sps) (j : Nat), (slotsOf as).Nodup → (setBack c as os)[j]? = match lookS j as os with
    | some o => (c[j]?).map fun _ => convC c j o
    | none => c[j]?
  | [], os, c, j, _ => by simp [lookS, setBack]
  | .d _ :: as, [], c, j, _ => rfl
  | .g _ :: as, [], c, j, _ => rfl
  | .s _ :: as, [], c, j, _ => rfl
  | .d _ :: as, _ :: os, c, j, h => setBack_at as os c j (by simpa [slotsOf] using h)
  | .g _ :: as, _ :: os, c, j, h => setBack_at as os c j (by simpa [slotsOf] using h)
  | .s i :: as, o :: os, c, j, h => by
    have h' : i ∉ slotsOf as ∧ (slotsOf as).Nodup := by simpa [slotsOf] using h
    show (setBack (c.set i (convC c i o)) as os)[j]? = match (if i = j then some o else lookS j as os) with
      | some o => (c[j]?).map fun _ => convC c j o
      | none => c[j]?
    rw [setBack_at as os _ j h'.2]
    by_cases q : i = j
    · subst q
      rw [if_pos rfl, lookS_none as os h'.1]
      simp only
      by_cases li : i < c.length
      · rw [List.getElem?_set_self li, List.getElem?_eq_getElem li]; rfl
      · rw [List.getElem?_eq_none (by simpa using li), List.getElem?_eq_none (by simpa using li)]; rfl
    · rw [if_neg q]
      have e1 : (c.set i (convC c i o))[j]? = c[j]? := List.getElem?_set_ne q
      cases lookS j as os with
      | none => exact e1
      | some o2 =>
        have e4 : convC (c.set i (convC c i o)) j o2 = convC c j o2 := by
          generalize convC c i o = z at e1 ⊢
          unfold convC
          rw [e1]
        simp only [e4, e1]
theorem back_fits {e : DEnv} (he : Fits c e) {as : List Ar} (hl : lentAll c as = true) (hn : (slotsOf as).Nodup) (os : DEnv) : Fits (setBack c as os) (backD as os e) := by
  refine ⟨by rw [setBack_len, he.len]; simp [backD], fun j x t hx ht => ?_⟩
  rw [setBack_at as os c j hn] at hx
  have ht' : (e[j]?).map (fun s => match lookS j as os with
      | some o => conv s o
      | none => s) = some t := by
    unfold backD at ht
    rw [List.getElem?_mapIdx] at ht
    exact ht
  cases w : lookS j as os with
  | none =>
    rw [w] at hx ht'
    simp only at hx ht'
    have : e[j]? = some t := by simpa using ht'
    exact he.at_ j x t hx this
  | some o =>
    rw [w] at hx ht'
    simp only at hx ht'
    cases q : c[j]? with
    | none => rw [q] at hx; cases hx
    | some y =>
      rw [q] at hx
      have hx' : convC c j o = x := by simpa using hx
      have mem : j ∈ slotsOf as := by
        apply Classical.byContradiction
        intro z
        rw [lookS_none as os z] at w
        cases w
      have lj : lentC c j = true := by
        clear hx ht ht' w hx' q he hn
        induction as with
        | nil => simp [slotsOf] at mem
        | cons a as ih =>
          cases a with
          | d x => exact ih hl (by simpa [slotsOf] using mem)
          | g x => exact ih hl (by simpa [slotsOf] using mem)
          | s i =>
            have h' : lentC c i = true ∧ lentAll c as = true := by unfold lentAll at hl; rwa [Bool.and_eq_true] at hl
            rcases (by simpa [slotsOf] using mem : j = i ∨ j ∈ slotsOf as) with rfl | m
            · exact h'.1
            · exact ih h'.2 m
      unfold lentC getC at lj
      rw [q] at lj
      unfold convC at hx'
      rw [q] at hx'
      split at lj
      · rename_i z
        cases z
        have := he.is q
        rw [this] at ht'
        simp only [Option.map_some, Option.some.injEq] at ht'
        rw [← hx']
        exact ht'.symm
      · rename_i z
        cases z
        have := he.is q
        rw [this] at ht'
        simp only [Option.map_some, Option.some.injEq] at ht'
        rw [← hx']
        exact ht'.symm
      · cases lj
def nodupB : List Nat → Bool
  | [] => true
  | x :: xs => !xs.contains x && nodupB xs
theorem nodupB_ok : ∀ {xs : List Nat}, nodupB xs = true → xs.Nodup
  | [], _ => List.nodup_nil
  | x :: xs, h => by
    have h' : (!xs.contains x && nodupB xs) = true := h
    rw [Bool.and_eq_true] at h'
    rw [List.nodup_cons]
    exact ⟨by simpa using h'.1, nodupB_ok h'.2⟩
def noS (as : List Ar) : Bool := as.all fun a => match a with
  | .d _ => true
  | .g _ => true
  | .s _ => false
theorem back_noS {as : List Ar} (h : noS as = true) (os : DEnv) (e : DEnv) : backD as os e = e := by
  have hs : slotsOf as = [] := by
    induction as with
    | nil => rfl
    | cons a as ih =>
      cases a with
      | d x => exact ih (by simpa [noS] using h)
      | g x => exact ih (by simpa [noS] using h)
      | s i => simp [noS] at h
  unfold backD
  apply List.ext_getElem?
  intro j
  rw [List.getElem?_mapIdx, lookS_none as os (by rw [hs]; simp)]
  simp
theorem rk_call {np : Nat} {F : Df} {as : List Ar} {k : D → DEnv → Fl} {args : DEnv} {mF : N β} {v : β → D} {outs : β → DEnv} {M : β → Ct σ l ρ} (hf : RF mF (F args) v outs) (g : ∀ r, RS (setBack c as (outs r)) (k (v r)) (M r) Q) (hx : ∀ e e', Fits c e → (noS as = true → e' = e) → Q.ex e') (ha : as.map (toC c) = args := by rfl) (hl : lentAll c as = true := by rfl) (hn : as.length = np := by rfl) (hd0 : nodupB (slotsOf as) = true := by rfl) : RS c (callK np F k as) (mF.ct M) Q := fun e he => by
  have hd := nodupB_ok hd0
  unfold callK callD
  rw [if_pos hn, if_pos hd, toC_at he as hl, ha]
  cases mF with
  | stuck => exact trivial
  | ok r =>
    have hf' : F args = .ok (v r) (outs r) := hf
    rw [hf']
    exact g r _ (back_fits he hl hd _)
  | ex x =>
    obtain ⟨o, ho⟩ := hf
    rw [ho]
    exact ⟨_, rfl, hx e _ he fun z => back_noS z o e⟩
theorem rk_callL {np : Nat} {F : Df} {as : List Ar} {k : List D → DEnv → Fl} {args : DEnv} {mF : N β} {v : β → List D} {outs : β → DEnv} {M : β → Ct σ l ρ} (hf : RFl mF (F args) v outs) (g : ∀ r, RS (setBack c as (outs r)) (k (v r)) (M r) Q) (hx : ∀ e e', Fits c e → (noS as = true → e' = e) → Q.ex e') (ha : as.map (toC c) = args := by rfl) (hl : lentAll c as = true := by rfl) (hn : as.length = np := by rfl) (hd0 : nodupB (slotsOf as) = true := by rfl) : RS c (callKL np F k as) (mF.ct M) Q := fun e he => by
  have hd := nodupB_ok hd0
  unfold callKL callD
  rw [if_pos hn, if_pos hd, toC_at he as hl, ha]
  cases mF with
  | stuck => exact trivial
  | ok r =>
    have hf' : F args = .okl (v r) (outs r) := hf
    rw [hf']
    exact g r _ (back_fits he hl hd _)
  | ex x =>
    obtain ⟨o, ho⟩ := hf
    rw [ho]
    exact ⟨_, rfl, hx e _ he fun z => back_noS z o e⟩
theorem rk_call0 {F : Df} {k : D → DEnv → Fl} {mF : N β} {v : β → D} {outs : β → DEnv} {M : β → Ct σ l ρ} (hf : RF mF (F []) v outs) (hx : ∀ x, mF ≠ .ex x) (g : ∀ r, RS c (k (v r)) (M r) Q) : RS c (FK (eCall0 F) k) (mF.ct M) Q := fun e he => by
  unfold FK eCall0
  cases mF with
  | stuck => exact trivial
  | ok r =>
    have hf' : F [] = .ok (v r) (outs r) := hf
    rw [hf']
    exact g r _ he
  | ex x => exact absurd rfl (hx x)
/-! ### defs -/
def outsC (c : Sps) : Nat → DEnv → DEnv
  | i, .p _ :: r => (match c[i]? with
    | some (.is (.p ys)) => Sl.p ys
    | _ => .no) :: outsC c (i + 1) r
  | i, _ :: r => .no :: outsC c (i + 1) r
  | _, [] => []
def lendsC (c : Sps) : Nat → DEnv → Bool
  | i, .p _ :: r => (match c[i]? with
    | some (.is (.p _)) => true
    | _ => false) && lendsC c (i + 1) r
  | i, _ :: r => lendsC c (i + 1) r
  | _, [] => true
theorem outs_at {e : DEnv} (he : Fits c e) : ∀ (args : DEnv) (i : Nat), lendsC c i args = true → (args.mapIdx fun j a => outOf a (e.getD (i + j) Sl.no)) = outsC c i args
  | [], i, _ => rfl
  | a :: r, i, h => by
    rw [List.mapIdx_cons]
    have tail : lendsC c (i + 1) r = true → (r.mapIdx fun j a => outOf a (e.getD (i + (j + 1)) Sl.no)) = outsC c (i + 1) r := fun h2 => by
      rw [← outs_at he r (i + 1) h2]
      congr 1
      funext j a
      rw [show i + (j + 1) = i + 1 + j by omega]
    cases a with
    | p xs =>
      have h' : (match c[i]? with
        | some (.is (.p _)) => true
        | _ => false) = true ∧ lendsC c (i + 1) r = true := by
        have : ((match c[i]? with
          | some (.is (.p _)) => true
          | _ => false) && lendsC c (i + 1) r) = true := h
        rwa [Bool.and_eq_true] at this
      show _ :: _ = (match c[i]? with
        | some (.is (.p ys)) => Sl.p ys
        | _ => .no) :: outsC c (i + 1) r
      rw [tail h'.2]
      congr 1
      have h1 := h'.1
      split at h1
      · rename_i q
        have := he.is q
        simp [List.getD, this, outOf]
      · cases h1
    | no => show _ :: _ = Sl.no :: _; rw [tail h]; rfl
    | v d => show _ :: _ = Sl.no :: _; rw [tail h]; rfl
    | l d => show _ :: _ = Sl.no :: _; rw [tail h]; rfl
    | m d => show _ :: _ = Sl.no :: _; rw [tail h]; rfl
    | f d => show _ :: _ = Sl.no :: _; rw [tail h]; rfl
    | a d _ _ => show _ :: _ = Sl.no :: _; rw [tail h]; rfl
abbrev QF (args : DEnv) (v : ρ → D) (outs : ρ → DEnv) : Qs Unit Unit ρ := { nx := fun _ _ => False, lp := fun _ _ => False, rt := fun r d e => d = v r ∧ outsOf args e = outs r, rl := fun _ _ _ => False, ex := fun _ => True }
abbrev QFl (args : DEnv) (v : ρ → List D) (outs : ρ → DEnv) : Qs Unit Unit ρ := { nx := fun _ _ => False, lp := fun _ _ => False, rt := fun _ _ _ => False, rl := fun r d e => d = v r ∧ outsOf args e = outs r, ex := fun _ => True }
/-- a def without an answer -/
abbrev QP (args : DEnv) (outs : ρ → DEnv) : Qs ρ Unit ρ := { nx := fun r e => outsOf args e = outs r, lp := fun _ _ => False, rt := fun r d e => d = .none ∧ outsOf args e = outs r, rl := fun _ _ _ => False, ex := fun _ => True }
theorem outs_of {args : DEnv} {o : DEnv} (h : lendsC c 0 args = true) (ho : outsC c 0 args = o) {e : DEnv} (he : Fits c e) : outsOf args e = o := by
  rw [← ho, ← outs_at he args 0 h]
  unfold outsOf
  congr 1
  funext j a
  rw [Nat.zero_add]
theorem fits_init (args : DEnv) (n : Nat) : Fits (args.map Sp.is ++ List.replicate n Sp.nw) (args ++ List.replicate n Sl.no) := by
  refine ⟨by simp, fun i x t hx ht => ?_⟩
  by_cases q : i < args.length
  · rw [List.getElem?_append_left (by simpa using q)] at hx
    rw [List.getElem?_append_left q] at ht
    rw [List.getElem?_map, ht] at hx
    cases hx
    rfl
  · rw [List.getElem?_append_right (by simpa using q)] at hx
    rw [List.getElem?_append_right (by omega)] at ht
    rw [List.getElem?_replicate] at hx ht
    split at hx <;> cases hx
    split at ht <;> cases ht
    rfl
theorem rf_of {n : Nat} {b : DS} {args : DEnv} {c0 : Sps} {m : Ct Unit Unit ρ} {v : ρ → D} {outs : ρ → DEnv} (h : RS c0 b m (QF args v outs)) (hc : args.map Sp.is ++ List.replicate (n - args.length) Sp.nw = c0 := by rfl) : RF m.fn (bodyF n b args) v outs := by
  subst hc
  have h' := h _ (fits_init args (n - args.length))
  rw [bodyF_ap]
  cases m with
  | nx s => obtain ⟨_, _, f⟩ := h'; exact f.elim
  | bk s => obtain ⟨_, _, f⟩ := h'; exact f.elim
  | ct s => obtain ⟨_, _, f⟩ := h'; exact f.elim
  | stuck => exact trivial
  | ex x => obtain ⟨e, q, f⟩ := h'; rw [q]; exact ⟨_, rfl⟩
  | rt r =>
    rcases h' with ⟨d, e', q, f1, f2⟩ | ⟨_, _, _, f⟩
    · rw [q]
      show Fo.ok d (outsOf args e') = .ok (v r) (outs r)
      rw [f1, f2]
    · exact f.elim
theorem rfl_of {n : Nat} {b : DS} {args : DEnv} {c0 : Sps} {m : Ct Unit Unit ρ} {v : ρ → List D} {outs : ρ → DEnv} (h : RS c0 b m (QFl args v outs)) (hc : args.map Sp.is ++ List.replicate (n - args.length) Sp.nw = c0 := by rfl) : RFl m.fn (bodyF n b args) v outs := by
  subst hc
  have h' := h _ (fits_init args (n - args.length))
  rw [bodyF_ap]
  cases m with
  | nx s => obtain ⟨_, _, f⟩ := h'; exact f.elim
  | bk s => obtain ⟨_, _, f⟩ := h'; exact f.elim
  | ct s => obtain ⟨_, _, f⟩ := h'; exact f.elim
  | stuck => exact trivial
  | ex x => obtain ⟨e, q, f⟩ := h'; rw [q]; exact ⟨_, rfl⟩
  | rt r =>
    rcases h' with ⟨_, _, _, f⟩ | ⟨d, e', q, f1, f2⟩
    · exact f.elim
    · rw [q]
      show Fo.okl d (outsOf args e') = .okl (v r) (outs r)
      rw [f1, f2]
theorem rp_of {n : Nat} {b : DS} {args : DEnv} {c0 : Sps} {m : Ct ρ Unit ρ} {outs : ρ → DEnv} (h : RS c0 b m (QP args outs)) (hc : args.map Sp.is ++ List.replicate (n - args.length) Sp.nw = c0 := by rfl) : RF m.fp (bodyF n b args) (fun _ => .none) outs := by
  subst hc
  have h' := h _ (fits_init args (n - args.length))
  rw [bodyF_ap]
  cases m with
  | nx s =>
    obtain ⟨e, q, f⟩ := h'
    rw [q]
    show Fo.ok .none (outsOf args e) = .ok .none (outs s)
    rw [f]
  | bk s => obtain ⟨_, _, f⟩ := h'; exact f.elim
  | ct s => obtain ⟨_, _, f⟩ := h'; exact f.elim
  | stuck => exact trivial
  | ex x => obtain ⟨e, q, f⟩ := h'; rw [q]; exact ⟨_, rfl⟩
  | rt r =>
    rcases h' with ⟨d, e', q, f1, f2⟩ | ⟨_, _, _, f⟩
    · rw [q]
      show Fo.ok d (outsOf args e') = .ok .none (outs r)
      rw [f1, f2]
    · exact f.elim
theorem rk_retF {args : DEnv} {v : ρ → D} {outs : ρ → DEnv} {r : ρ} (ho : outsC c 0 args = outs r := by rfl) (h : lendsC c 0 args = true := by rfl) : RS c (retK (v r)) (.rt r) (QF args v outs) := rk_ret fun e he => ⟨rfl, outs_of h ho he⟩
theorem rk_retFl {args : DEnv} {v : ρ → List D} {outs : ρ → DEnv} {r : ρ} (ho : outsC c 0 args = outs r := by rfl) (h : lendsC c 0 args = true := by rfl) : RS c (retL (v r)) (.rt r) (QFl args v outs) := rk_retL fun e he => ⟨rfl, outs_of h ho he⟩
end
end NT
/- part NT5 -/
set_option Elab.async false
set_option linter.all false
set_option autoImplicit false
/-! NT5: comprehensions. -/
namespace NT
open PySem L2 DL LW
section
variable {α β σ τ l ρ : Type} {c : Sps} {m : Ct σ l ρ} {Q : Qs σ l ρ}
def compC (f : α → σ → Ct σ Unit (β × σ)) : List α → σ → N (List β × σ)
  | [], s => .ok ([], s)
  | a :: as, s => match f a s with
    | .nx s1 => compC f as s1
    | .rt p => match compC f as p.2 with
      | .ok q => .ok (p.1 :: q.1, q.2)
      | _ => .stuck
    | _ => .stuck
def compP (f : α → Ct Unit Unit β) : List α → N (List β)
  | [] => .ok []
  | a :: as => match f a with
    | .nx _ => compP f as
    | .rt b => match compP f as with
      | .ok bs => .ok (b :: bs)
      | _ => .stuck
    | _ => .stuck
def lcS (f : α → σ → Ct σ Unit (β × σ)) (xs : List α) (s : σ) : N (List β × σ) := if xs.length ≤ 100000 then compC f xs s else .stuck
def lcP (f : α → Ct Unit Unit β) (xs : List α) : N (List β) := if xs.length ≤ 100000 then compP f xs else .stuck
theorem compP_map {f : α → Ct Unit Unit β} {g : α → β} : ∀ (as : List α), (∀ a, a ∈ as → f a = .rt (g a)) → compP f as = .ok (as.map g)
  | [], _ => rfl
  | a :: as, h => by
    unfold compP
    rw [h a (List.mem_cons_self ..), compP_map as fun b hb => h b (List.mem_cons_of_mem _ hb)]
    rfl
theorem compP_fm {f : α → Ct Unit Unit β} {p : α → Bool} {g : α → β} : ∀ (as : List α), (∀ a, a ∈ as → f a = if p a = true then .rt (g a) else .nx ()) → compP f as = .ok ((as.filter p).map g)
  | [], _ => rfl
  | a :: as, h => by
    unfold compP
    rw [h a (List.mem_cons_self ..), compP_fm as fun b hb => h b (List.mem_cons_of_mem _ hb), List.filter_cons]
    cases p a <;> rfl
theorem lcP_map {f : α → Ct Unit Unit β} {g : α → β} (as : List α) (hl : as.length ≤ 100000) (h : ∀ a, a ∈ as → f a = .rt (g a)) : lcP f as = .ok (as.map g) := by unfold lcP; rw [if_pos hl, compP_map as h]
theorem lcP_fm {f : α → Ct Unit Unit β} {p : α → Bool} {g : α → β} (as : List α) (hl : as.length ≤ 100000) (h : ∀ a, a ∈ as → f a = if p a = true then .rt (g a) else .nx ()) : lcP f as = .ok ((as.filter p).map g) := by unfold lcP; rw [if_pos hl, compP_fm as h]
theorem compC_inv {f : α → σ → Ct σ Unit (β × σ)} (P : σ → Prop) (R : β → Prop) : ∀ (as : List α) (s : σ), P s → (∀ a s, a ∈ as → P s → ∃ b s', f a s = .rt (b, s') ∧ R b ∧ P s') → ∃ bs s', compC f as s = .ok (bs, s') ∧ bs.length = as.length ∧ (∀ b, b ∈ bs → R b) ∧ P s'
  | [], s, hp, _ => ⟨[], s, rfl, rfl, fun _ h => absurd h List.not_mem_nil, hp⟩
  | a :: as, s, hp, h => by
    obtain ⟨b, s1, e, q, p⟩ := h a s (List.mem_cons_self ..) hp
    obtain ⟨bs, s2, e2, hl, q2, p2⟩ := compC_inv P R as s1 p fun a s ha => h a s (List.mem_cons_of_mem _ ha)
    refine ⟨b :: bs, s2, ?_, by simp [hl], fun x hx => ?_, p2⟩
    · unfold compC
      rw [e]
      simp only [e2]
    · rcases List.mem_cons.1 hx with rfl | hx
      · exact q
      · exact q2 x hx
theorem lcS_inv {f : α → σ → Ct σ Unit (β × σ)} (P : σ → Prop) (R : β → Prop) (as : List α) (hl : as.length ≤ 100000) (s : σ) (h0 : P s) (h : ∀ a s, a ∈ as → P s → ∃ b s', f a s = .rt (b, s') ∧ R b ∧ P s') : ∃ bs s', lcS f as s = .ok (bs, s') ∧ bs.length = as.length ∧ (∀ b, b ∈ bs → R b) ∧ P s' := by
  unfold lcS
  rw [if_pos hl]
  exact compC_inv P R as s h0 h
/-! ### the tie -/
def wipeC (c : Sps) : List Nat → Sps
  | [] => c
  | v :: vs => (wipeC c vs).set v (.is .no)
def noOwnC (c : Sps) (vs : List Nat) : Bool := vs.all fun i => match c[i]? with
  | some (.is s) => !s.own
  | some .nw => true
  | _ => false
theorem wipe_fits {e : DEnv} (he : Fits c e) : ∀ vs, Fits (wipeC c vs) (wipeD e vs)
  | [] => he
  | v :: vs => (wipe_fits he vs).set v rfl
theorem wipeC_len : ∀ vs, (wipeC c vs).length = c.length
  | [] => rfl
  | v :: vs => by show ((wipeC c vs).set v _).length = _; rw [List.length_set, wipeC_len vs]
theorem wipeC_ne {j : Nat} : ∀ vs, j ∉ vs → (wipeC c vs)[j]? = c[j]?
  | [], _ => rfl
  | v :: vs, h => by
    have h' : ¬ j = v ∧ j ∉ vs := by simpa using h
    show ((wipeC c vs).set v _)[j]? = _
    rw [List.getElem?_set_ne (fun z => h'.1 z.symm), wipeC_ne vs h'.2]
theorem noOwnC_at {e : DEnv} (he : Fits c e) {vs : List Nat} (h : noOwnC c vs = true) : noOwn e vs = true := by
  unfold noOwn
  unfold noOwnC at h
  rw [List.all_eq_true] at h ⊢
  intro i hi
  have := h i hi
  cases q : c[i]? with
  | none => rw [q] at this; cases this
  | some x =>
    rw [q] at this
    obtain ⟨t, a, b⟩ := he.get q
    rw [a]
    cases x with
    | is s => exact (show t = s from b) ▸ this
    | nw => have b' : t.own = false := b; simp [b']
    | np => cases this
theorem mergeD_len (e1 e2 : DEnv) : ∀ vs, (mergeD e1 e2 vs).length = e2.length
  | [] => rfl
  | v :: vs => by show ((mergeD e1 e2 vs).set v _).length = _; rw [List.length_set, mergeD_len e1 e2 vs]
theorem mergeD_ne (e1 e2 : DEnv) {j : Nat} : ∀ vs, j ∉ vs → (mergeD e1 e2 vs)[j]? = e2[j]?
  | [], _ => rfl
  | v :: vs, h => by
    have h' : ¬ j = v ∧ j ∉ vs := by simpa using h
    show ((mergeD e1 e2 vs).set v _)[j]? = _
    rw [List.getElem?_set_ne (fun z => h'.1 z.symm), mergeD_ne e1 e2 vs h'.2]
theorem mergeD_mem (e1 e2 : DEnv) {j : Nat} {t : Sl} : ∀ vs, j ∈ vs → (mergeD e1 e2 vs)[j]? = some t → t = e1.getD j .no
  | [], h, _ => by simp at h
  | v :: vs, h, q => by
    have q' : ((mergeD e1 e2 vs).set v (e1.getD v .no))[j]? = some t := q
    by_cases z : v = j
    · subst z
      have l : v < (mergeD e1 e2 vs).length := by have := (List.getElem?_eq_some_iff.mp q').1; simpa using this
      rw [List.getElem?_set_self l] at q'
      exact (Option.some.inj q').symm
    · rw [List.getElem?_set_ne z] at q'
      exact mergeD_mem e1 e2 vs (by rcases List.mem_cons.1 h with h | h; exact absurd h.symm z; exact h) q'
theorem merge_fits {c' : Sps} {e1 e2 : DEnv} {vs : List Nat} (h1 : Fits c e1) (h2 : Fits (wipeC c' vs) e2) (hv : vs.map (fun v => c'[v]?) = vs.map (fun v => c[v]?)) : Fits c' (mergeD e1 e2 vs) := by
  refine ⟨by rw [mergeD_len, ← h2.len, wipeC_len], fun j x t hx ht => ?_⟩
  by_cases q : j ∈ vs
  · have e := mergeD_mem e1 e2 vs q ht
    have hx' : c[j]? = some x := by
      have := List.map_inj_left.1 hv j q
      rw [← this]; exact hx
    obtain ⟨u, a, b⟩ := h1.get hx'
    have : e1.getD j .no = u := by simp [List.getD, a]
    rw [e, this]
    exact b
  · rw [mergeD_ne e1 e2 vs q] at ht
    refine h2.at_ j x t ?_ ht
    rw [wipeC_ne vs q]
    exact hx
def compK (t : DT) (el : DE) : DEnv → Fl := FK t fun b => ifF b (FK el retK) sNx
def lcK (g : DG) (t : DT) (el : DE) (vs : List Nat) (k : List D → DEnv → Fl) (ds : List D) : DEnv → Fl := fun e1 => (if ds.length ≤ 100000 ∧ noOwn e1 vs = true then match compD g t el vs ds (wipeD e1 vs) with
    | .ok ys e2 => Rs.ok ys (mergeD e1 e2 vs)
    | _ => .stuck
  else .stuck).fl k
theorem rk_lc {di : DA} {g : DG} {t : DT} {el : DE} {vs : List Nat} {k : List D → DEnv → Fl} (h : RS c (FK di (lcK g t el vs k)) m Q) : RS c (FK (lComp di g t el vs) k) m Q := rk_conv (fun e => by
  unfold FK lComp
  rw [fl_bind]
  rfl) h
theorem compK_at {t : DT} {el : DE} {e : DEnv} : compK t el e = match t e with
    | .ok true e1 => (match el e1 with
      | .ok d e2 => .rt d e2
      | .ex x e2 => .ex x e2
      | .stuck => .stuck)
    | .ok false e1 => .nx e1
    | .ex x e1 => .ex x e1
    | .stuck => .stuck := by
  unfold compK FK
  cases t e with
  | ok b e1 =>
    cases b
    · rfl
    · show (el e1).fl retK = (match el e1 with
        | .ok d e2 => Fl.rt d e2
        | .ex x e2 => .ex x e2
        | .stuck => .stuck)
      cases el e1 <;> rfl
  | ex _ _ => rfl
  | stuck => rfl
abbrev QC (fb : β → D) (c' : σ → Sps) : Qs σ Unit (β × σ) := { nx := fun s e => Fits (c' s) e, lp := fun _ _ => False, rt := fun p d e => d = fb p.1 ∧ Fits (c' p.2) e, rl := fun _ _ _ => False, ex := fun _ => True }
theorem compD_R {fe : α → D} {fb : β → D} {g : DG} {t : DT} {el : DE} {vs : List Nat} {cs : σ → Sps} {ca : α → σ → Sps} {nb : α → σ → Ct σ Unit (β × σ)} (hg : ∀ a s, GS (wipeC (cs s) vs) g (fe a) (ca a s)) (hw : ∀ a s, wipeC (ca a s) vs = wipeC (cs s) vs) (hb : ∀ a s, RS (ca a s) (compK t el) (nb a s) (QC fb (ca a))) : ∀ (xs : List α) (s : σ) (e : DEnv), Fits (wipeC (cs s) vs) e → match compC nb xs s with
    | .ok q => ∃ e2, compD g t el vs (xs.map fe) e = .ok (q.1.map fb) e2 ∧ Fits (wipeC (cs q.2) vs) e2
    | _ => True
  | [], s, e, he => ⟨e, rfl, he⟩
  | a :: as, s, e, he => by
    obtain ⟨e1, q, f1⟩ := hg a s e he
    have h' := hb a s e1 f1
    have ih := compD_R hg hw hb as
    have up : compD g t el vs ((a :: as).map fe) e = match compK t el e1 with
        | .nx e2 => compD g t el vs (as.map fe) (wipeD e2 vs)
        | .rt y e3 => (compD g t el vs (as.map fe) (wipeD e3 vs)).bind fun ys e4 => .ok (y :: ys) e4
        | .ex x e => .ex x e
        | _ => .stuck := by
      rw [compK_at]
      show (match g (fe a) e with
        | none => Rs.stuck
        | some e1 => (t e1).bind fun b e2 => if b = true then (el e2).bind fun y e3 => (compD g t el vs (as.map fe) (wipeD e3 vs)).bind fun ys e4 => .ok (y :: ys) e4 else compD g t el vs (as.map fe) (wipeD e2 vs)) = _
      rw [q]
      simp only
      cases t e1 with
      | ok b e2 =>
        cases b
        · rfl
        · simp only [bind_ok, if_true]
          cases el e2 <;> rfl
      | ex _ _ => rfl
      | stuck => rfl
    rw [up]
    cases w : nb a s with
    | nx s1 =>
      rw [w] at h'
      obtain ⟨e2, q2, f2⟩ := h'
      rw [q2]
      simp only [compC, w]
      refine ih s1 (wipeD e2 vs) ?_
      rw [← hw a s1]
      exact wipe_fits f2 vs
    | rt p =>
      rw [w] at h'
      rcases h' with ⟨d, e2, q2, f2, f3⟩ | ⟨_, _, _, f⟩
      · rw [q2]
        simp only [compC, w]
        have ih' := ih p.2 (wipeD e2 vs) (by rw [← hw a p.2]; exact wipe_fits f3 vs)
        cases w2 : compC nb as p.2 with
        | ok q =>
          rw [w2] at ih'
          obtain ⟨e4, a4, b4⟩ := ih'
          refine ⟨e4, ?_, b4⟩
          rw [a4, f2]
          rfl
        | ex x => exact trivial
        | stuck => exact trivial
      · exact f.elim
    | bk s => simp only [compC, w]
    | ct s => simp only [compC, w]
    | ex s => simp only [compC, w]
    | stuck => simp only [compC, w]
theorem compC_ex (nb : α → σ → Ct σ Unit (β × σ)) : ∀ (as : List α) (s : σ) (x : Xc), compC nb as s ≠ .ex x
  | [], _, _ => fun h => by cases h
  | a :: as, s, x => by
    unfold compC
    cases nb a s with
    | nx s1 => exact compC_ex nb as s1 x
    | rt p => simp only; cases compC nb as p.2 <;> exact fun h => by cases h
    | _ => exact fun h => by cases h
theorem rk_lcS {fe : α → D} {fb : β → D} {g : DG} {t : DT} {el : DE} {vs : List Nat} {cs : τ → Sps} {ca : α → τ → Sps} {nb : α → τ → Ct τ Unit (β × τ)} {xs : List α} {s0 : τ} {k : List D → DEnv → Fl} {M : List β × τ → Ct σ l ρ} (hs : Sub c (cs s0)) (hg : ∀ a s, GS (wipeC (cs s) vs) g (fe a) (ca a s)) (hb : ∀ a s, RS (ca a s) (compK t el) (nb a s) (QC fb (ca a))) (h : ∀ p : List β × τ, RS (cs p.2) (k (p.1.map fb)) (M p) Q) (hw : ∀ a s, wipeC (ca a s) vs = wipeC (cs s) vs := by intro _ _; rfl) (hv : ∀ s, vs.map (fun v => (cs s)[v]?) = vs.map (fun v => (cs s0)[v]?) := by intro _; rfl) (ho : noOwnC (cs s0) vs = true := by rfl) : RS c (lcK g t el vs k (xs.map fe)) ((lcS nb xs s0).ct M) Q := fun e he0 => by
  have he := he0.sub hs
  unfold lcK lcS
  rw [List.length_map]
  by_cases hl : xs.length ≤ 100000
  · rw [if_pos hl, if_pos ⟨hl, noOwnC_at he ho⟩]
    have := compD_R hg hw hb xs s0 (wipeD e vs) (wipe_fits he vs)
    cases w : compC nb xs s0 with
    | ok q =>
      rw [w] at this
      obtain ⟨e2, a, b⟩ := this
      rw [a]
      exact h q _ (merge_fits he b (hv q.2))
    | ex x => exact absurd w (compC_ex nb xs s0 x)
    | stuck => exact trivial
  · rw [if_neg hl]
    exact trivial
/-- one that changes nothing -/
abbrev QCp (fb : β → D) (c' : Sps) : Qs Unit Unit β := { nx := fun _ e => Fits c' e, lp := fun _ _ => False, rt := fun b d e => d = fb b ∧ Fits c' e, rl := fun _ _ _ => False, ex := fun _ => True }
def liftP (m : Ct Unit Unit β) : Ct Unit Unit (β × Unit) := match m with
  | .nx s => .nx s
  | .rt b => .rt (b, ())
  | .bk s => .bk s
  | .ct s => .ct s
  | .ex x => .ex x
  | .stuck => .stuck
theorem compP_C (f : α → Ct Unit Unit β) : ∀ as, compC (fun a _ => liftP (f a)) as () = (compP f as).bd fun bs => .ok (bs, ())
  | [] => rfl
  | a :: as => by
    unfold compC compP
    have ih := compP_C f as
    cases f a with
    | nx s => exact ih
    | rt b =>
      have lp : liftP (Ct.rt b) = Ct.rt (b, ()) := rfl
      rw [lp]
      dsimp only
      rw [ih]
      cases compP f as <;> rfl
    | _ => rfl
theorem rk_lcP {fe : α → D} {fb : β → D} {g : DG} {t : DT} {el : DE} {vs : List Nat} {ca : α → Sps} {nb : α → Ct Unit Unit β} {xs : List α} {k : List D → DEnv → Fl} {M : List β → Ct σ l ρ} (hg : ∀ a, GS (wipeC c vs) g (fe a) (ca a)) (hb : ∀ a, RS (ca a) (compK t el) (nb a) (QCp fb (ca a))) (h : ∀ bs : List β, RS c (k (bs.map fb)) (M bs) Q) (hw : ∀ a, wipeC (ca a) vs = wipeC c vs := by intro _; rfl) (ho : noOwnC c vs = true := by rfl) : RS c (lcK g t el vs k (xs.map fe)) ((lcP nb xs).ct M) Q := fun e he => by
  have := rk_lcS (τ := Unit) (Q := Q) (c := c) (cs := fun _ => c) (ca := fun a _ => ca a) (nb := fun a _ => liftP (nb a)) (xs := xs) (s0 := ()) (k := k) (M := fun p => M p.1) (fe := fe) (fb := fb) (g := g) (t := t) (el := el) (vs := vs) (by
    have : ∀ c : Sps, Sub c c := fun c => by
      induction c with
      | nil => exact trivial
      | cons x c ih => exact ⟨by cases x <;> first | rfl | trivial, ih⟩
    exact this c) (fun a _ => hg a) (fun a _ => fun e1 f1 => by
      have h' := hb a e1 f1
      cases w : nb a with
      | nx s => rw [w] at h'; exact h'
      | rt b => rw [w] at h'; exact h'
      | bk s => rw [w] at h'; exact h'
      | ct s => rw [w] at h'; exact h'
      | ex x => rw [w] at h'; exact h'
      | stuck => exact trivial) (fun p => h p.1) (fun a _ => hw a) (fun _ => rfl) ho e he
  unfold lcS at this
  unfold lcP
  by_cases hl : xs.length ≤ 100000
  · rw [if_pos hl] at this ⊢
    rw [compP_C] at this
    cases w : compP nb xs with
    | ok bs => rw [w] at this; exact this
    | ex x => rw [w] at this; exact this
    | stuck => exact trivial
  · rw [if_neg hl]; exact trivial
theorem rk_retC {fb : β → D} {c' : Sps} {b : β} (h : Sub c c') : RS c (retK (fb b)) (.rt b) (QCp fb c') := rk_ret fun e he => ⟨rfl, he.sub h⟩
theorem rk_retCS {fb : β → D} {c' : σ → Sps} {b : β × σ} (h : Sub c (c' b.2)) : RS c (retK (fb b.1)) (.rt b) (QC fb c') := rk_ret fun e he => ⟨rfl, he.sub h⟩
theorem ep_yes : EP c tYesD true := fun _ _ => rfl
theorem rk_ck {t : DT} {el : DE} (h : RS c (FK t fun b => ifF b (FK el retK) sNx) m Q) : RS c (compK t el) m Q := h
theorem rk_ck1 {el : DE} (h : RS c (FK el retK) m Q) : RS c (compK tYesD el) m Q := h
end
end NT
/- part NT6 -/
set_option Elab.async false
set_option linter.all false
set_option autoImplicit false
/-! NT6: small things for the printed ties. -/
namespace NT
open PySem L2 DL LW
section
variable {α β γ δ ε ζ η σ τ l ρ : Type} {c : Sps} {m : Ct σ l ρ} {Q : Qs σ l ρ}
@[simp, reducible] def P2 (f : α → β → γ) (s : α × β) : γ := f s.1 s.2
@[simp, reducible] def P3 (f : α → β → γ → δ) (s : α × β × γ) : δ := f s.1 s.2.1 s.2.2
@[simp, reducible] def P4 (f : α → β → γ → δ → ε) (s : α × β × γ × δ) : ε := f s.1 s.2.1 s.2.2.1 s.2.2.2
@[simp, reducible] def P5 (f : α → β → γ → δ → ε → ζ) (s : α × β × γ × δ × ε) : ζ := f s.1 s.2.1 s.2.2.1 s.2.2.2.1 s.2.2.2.2
@[simp, reducible] def P6 (f : α → β → γ → δ → ε → ζ → η) (s : α × β × γ × δ × ε × ζ) : η := f s.1 s.2.1 s.2.2.1 s.2.2.2.1 s.2.2.2.2.1 s.2.2.2.2.2
theorem P2_ap (f : α → β → γ) (a : α) (b : β) : P2 f (a, b) = f a b := rfl
theorem P3_ap (f : α → β → γ → δ) (a : α) (b : β) (c : γ) : P3 f (a, b, c) = f a b c := rfl
theorem P4_ap (f : α → β → γ → δ → ε) (a : α) (b : β) (c : γ) (d : δ) : P4 f (a, b, c, d) = f a b c d := rfl
theorem P5_ap (f : α → β → γ → δ → ε → ζ) (a : α) (b : β) (c : γ) (d : δ) (e : ε) : P5 f (a, b, c, d, e) = f a b c d e := rfl
theorem P6_ap (f : α → β → γ → δ → ε → ζ → η) (a : α) (b : β) (c : γ) (d : δ) (e : ε) (g : ζ) : P6 f (a, b, c, d, e, g) = f a b c d e g := rfl
abbrev imin (a b : Int) : Int := if b < a then b else a
abbrev imax (a b : Int) : Int := if b > a then b else a
abbrev b2i (b : Bool) : Int := if b then 1 else 0
theorem sub_nil : Sub [] [] := trivial
theorem sub_cons {x y : Sp} {c d : Sps} (h : Wk x y) (g : Sub c d) : Sub (x :: c) (y :: d) := ⟨h, g⟩
theorem wk_is {s : Sl} : Wk (.is s) (.is s) := rfl
theorem wk_vnp {d : D} : Wk (.is (.v d)) .np := rfl
theorem wk_lnp {d : List D} : Wk (.is (.l d)) .np := rfl
theorem wk_mnp {d : List (D × D)} : Wk (.is (.m d)) .np := rfl
theorem wk_vnw {d : D} : Wk (.is (.v d)) .nw := rfl
theorem wk_nonw : Wk (.is .no) .nw := rfl
theorem wk_nonp : Wk (.is .no) .np := rfl
theorem wk_np : Wk .np .np := trivial
theorem wk_nw : Wk .nw .nw := trivial
theorem wk_nwnp : Wk .nw .np := trivial
theorem rs_assoc {a b r : DS} (h : RS c (sSeq a (sSeq b r)) m Q) : RS c (sSeq (sSeq a b) r) m Q := rk_conv (fun e => by
  unfold sSeq
  cases a e <;> rfl) h
theorem ep_optT {x : Option α} {cc : Option α → Sps} {t : DT} {a : Bool} {b : α → Bool} (h0 : EP (cc none) t a) (h1 : ∀ y, EP (cc (some y)) t (b y)) : EP (cc x) t (optC x a b) := by
  cases x
  · exact h0
  · exact h1 _
theorem ep_optE {x : Option α} {cc : Option α → Sps} {f : β → D} {de : DE} {a : β} {b : α → β} (h0 : EP (cc none) de (f a)) (h1 : ∀ y, EP (cc (some y)) de (f (b y))) : EP (cc x) de (f (optC x a b)) := by
  cases x
  · exact h0
  · exact h1 _
theorem ep_andF {t u : DT} (h : EP c t false) : EP c (tAndD t u) false := fun e he => by
  unfold tAndD
  rw [h e he]
  rfl
theorem ep_andK {t u : DT} {b : Bool} (h : EP c t true) (g : EP c u b) : EP c (tAndD t u) b := fun e he => by
  unfold tAndD
  rw [h e he]
  exact g e he
theorem ep_orK {t u : DT} {b : Bool} (h : EP c t false) (g : EP c u b) : EP c (tOrD t u) b := fun e he => by
  unfold tOrD
  rw [h e he]
  exact g e he
theorem ep_orF {t u : DT} (h : EP c t true) : EP c (tOrD t u) true := fun e he => by
  unfold tOrD
  rw [h e he]
  rfl
theorem ep_ifA {t : DT} {da db : DE} {d : D} (h : EP c t true) (g : EP c da d) : EP c (eIf t da db) d := fun e he => by
  unfold eIf
  rw [h e he]
  exact g e he
theorem ep_ifB {t : DT} {da db : DE} {d : D} (h : EP c t false) (g : EP c db d) : EP c (eIf t da db) d := fun e he => by
  unfold eIf
  rw [h e he]
  exact g e he
theorem is_none {f : α → D} [n : NnE f] (x : Option α) : dIs (eO f x) .none = some (.bool x.isNone) := by
  cases x with
  | none => rfl
  | some a =>
    show some (PyData.bool (isNone (f a))) = _
    have := n.nn a
    cases h : f a <;> first | rfl | exact absurd h this
theorem isnt_none {f : α → D} [n : NnE f] (x : Option α) : dIsnt (eO f x) .none = some (.bool (!x.isNone)) := by
  cases x with
  | none => rfl
  | some a =>
    show some (PyData.bool (!isNone (f a))) = _
    have := n.nn a
    cases h : f a <;> first | rfl | exact absurd h this
theorem len_T {f : α → D} (xs : List α) : fLen [eTs f xs] = some (eI xs.length) := by simp [fLen]
theorem len_L {f : α → D} (xs : List α) : fLen [eLs f xs] = some (eI xs.length) := by simp [fLen]
theorem rs_unw {x : Option α} {cc : Option α → Sps} {f : Option α → DEnv → Fl} {QQ : Option α → Qs σ l ρ} {M : α → Ct σ l ρ} (h1 : ∀ y, RS (cc (some y)) (f (some y)) (M y) (QQ (some y))) : RS (cc x) (f x) ((unw x).ct M) (QQ x) := by
  cases x
  · exact fun _ _ => trivial
  · exact h1 _
def cutL (xs : List α) (lo hi : Option Int) : List α := (xs.drop (HT.sIx xs.length 0 lo)).take (HT.sIx xs.length xs.length hi - HT.sIx xs.length 0 lo)
theorem cutD_map (f : α → D) (xs : List α) (lo hi : Option Int) : cutD (xs.map f) lo hi = (cutL xs lo hi).map f := by
  unfold cutD cutL
  rw [List.length_map, List.map_take, List.map_drop]
theorem sl_T {f : α → D} (xs : List α) (lo hi : Option Int) : dSl (eTs f xs) lo hi = some (eTs f (cutL xs lo hi)) := by
  show some (PyData.tuple (cutD (xs.map f) lo hi)) = _
  rw [cutD_map]
theorem sl_L {f : α → D} (xs : List α) (lo hi : Option Int) : dSl (eLs f xs) lo hi = some (eLs f (cutL xs lo hi)) := by
  show some (PyData.list (cutD (xs.map f) lo hi)) = _
  rw [cutD_map]
theorem all_B (bs : List Bool) : fAll [eLs eB bs] = some (eB (bs.all id)) := by
  have : ∀ bs : List Bool, bools (bs.map eB) = some bs := fun bs => by
    induction bs with
    | nil => rfl
    | cons b bs ih => simp [bools, ih]
  simp [fAll, this]
def chainK (f g : D → D → Option D) (dc : DE) (k : D → DEnv → Fl) (x y : D) : DEnv → Fl := fun e2 => (match f x y with
  | some (.bool true) => (dc e2).bind fun z e3 => put (g y z) e3
  | some (.bool false) => Rs.ok (.bool false) e2
  | _ => .stuck).fl k
theorem rk_chain {f g : D → D → Option D} {da db dc : DE} {k : D → DEnv → Fl} (h : RS c (FK da fun x => FK db fun y => chainK f g dc k x y) m Q) : RS c (FK (eChain f g da db dc) k) m Q := rk_conv (fun e => by
  unfold FK eChain
  simp only [fl_bind]
  rfl) h
theorem rk_chainP {f g : D → D → Option D} {dc : DE} {k : D → DEnv → Fl} {x y z : D} {a b : Bool} (hc : EP c dc z) (h1 : f x y = some (.bool a)) (h2 : g y z = some (.bool b)) (h : RS c (k (.bool (a && b))) m Q) : RS c (chainK f g dc k x y) m Q := fun e he => by
  unfold chainK
  rw [h1]
  cases a
  · exact h e he
  · simp only [hc e he, bind_ok, h2]
    exact h e he
end
end NT
/- part NT7 -/
set_option Elab.async false
set_option linter.all false
set_option autoImplicit false
/-! NT7: what holds behind a typed block. -/
namespace NT
open PySem L2 DL LW
section
variable {α β σ τ l ρ : Type}
structure Po (σ l ρ : Type) where
  nx : σ → Prop := fun _ => False
  rt : ρ → Prop := fun _ => False
  bk : l → Prop := fun _ => False
  ct : l → Prop := fun _ => False
  ex : Xc → Prop := fun _ => False
def W (c : Ct σ l ρ) (p : Po σ l ρ) : Prop := match c with
  | .nx s => p.nx s
  | .rt r => p.rt r
  | .bk s => p.bk s
  | .ct s => p.ct s
  | .ex x => p.ex x
  | .stuck => False
@[simp] theorem W_nx (s : σ) (p : Po σ l ρ) : W (.nx s) p = p.nx s := rfl
@[simp] theorem W_rt (s : ρ) (p : Po σ l ρ) : W (.rt s) p = p.rt s := rfl
@[simp] theorem W_bk (s : l) (p : Po σ l ρ) : W (.bk s) p = p.bk s := rfl
@[simp] theorem W_ct (s : l) (p : Po σ l ρ) : W (.ct s) p = p.ct s := rfl
@[simp] theorem W_ex (s : Xc) (p : Po σ l ρ) : W (.ex s) p = p.ex s := rfl
@[simp] theorem W_stuck (p : Po σ l ρ) : W .stuck p = False := rfl
theorem W_sq {m : Ct σ l ρ} {K : σ → Ct τ l ρ} {p : Po τ l ρ} (h : W m { nx := fun s => W (K s) p, rt := p.rt, bk := p.bk, ct := p.ct, ex := p.ex }) : W (m.sq K) p := by
  cases m <;> exact h
theorem W_mono {m : Ct σ l ρ} {p q : Po σ l ρ} (h : W m p) (a : ∀ s, p.nx s → q.nx s) (b : ∀ s, p.rt s → q.rt s) (c : ∀ s, p.bk s → q.bk s) (d : ∀ s, p.ct s → q.ct s) (e : ∀ s, p.ex s → q.ex s) : W m q := by
  cases m with
  | nx s => exact a _ h
  | rt s => exact b _ h
  | bk s => exact c _ h
  | ct s => exact d _ h
  | ex s => exact e _ h
  | stuck => exact h
/-- a block with what holds behind it -/
theorem W_cut {m : Ct σ l ρ} {K : σ → Ct τ l ρ} {p : Po τ l ρ} (J : σ → Prop) (h : W m { nx := J, rt := p.rt, bk := p.bk, ct := p.ct, ex := p.ex }) (k : ∀ s, J s → W (K s) p) : W (m.sq K) p :=
  W_sq (W_mono h k (fun _ z => z) (fun _ z => z) (fun _ z => z) (fun _ z => z))
theorem W_forI {body : α → σ → Ct σ σ ρ} {p : Po σ l ρ} (I : Nat → σ → Prop) : ∀ (as : List α) (n : Nat) (s : σ), I n s → (∀ i a s, as[i]? = some a → I (n + i) s → W (body a s) { nx := I (n + i + 1), ct := I (n + i + 1), bk := p.nx, rt := p.rt, ex := p.ex }) → (∀ s, I (n + as.length) s → p.nx s) → W (forC body as s) p
  | [], n, s, h0, _, k => k s h0
  | a :: as, n, s, h0, h, k => by
    have h1 := h 0 a s rfl h0
    have ih := fun s (hs : I (n + 1) s) => W_forI I as (n + 1) s hs (fun i a s hi hp => by
      have := h (i + 1) a s (by simpa using hi) (by rw [show n + (i + 1) = n + 1 + i by omega]; exact hp)
      rw [show n + 1 + i + 1 = n + (i + 1) + 1 by omega]
      exact this) (fun s hs => k s (by rw [List.length_cons, show n + (as.length + 1) = n + 1 + as.length by omega]; exact hs))
    rw [forC_cons]
    cases q : body a s with
    | nx s' => rw [q] at h1; exact ih s' h1
    | ct s' => rw [q] at h1; exact ih s' h1
    | bk s' => rw [q] at h1; exact h1
    | rt s' => rw [q] at h1; exact h1
    | ex s' => rw [q] at h1; exact h1
    | stuck => rw [q] at h1; exact h1
theorem W_for {body : α → σ → Ct σ σ ρ} {p : Po σ l ρ} {as : List α} {s : σ} (I : Nat → σ → Prop) (h0 : I 0 s) (h : ∀ i a s, as[i]? = some a → I i s → W (body a s) { nx := I (i + 1), ct := I (i + 1), bk := p.nx, rt := p.rt, ex := p.ex }) (k : ∀ s, I as.length s → p.nx s) : W (forC body as s) p :=
  W_forI I as 0 s h0 (fun i a s hi hp => by rw [Nat.zero_add] at hp ⊢; exact h i a s hi hp) (by rw [Nat.zero_add]; exact k)
theorem W_while {t : σ → N Bool} {body : σ → Ct σ σ ρ} {p : Po σ l ρ} (I : Nat → σ → Prop) : ∀ (f m : Nat) (s : σ), m < f → I m s → (∀ m s, I m s → (t s = .ok false ∧ p.nx s) ∨ (t s = .ok true ∧ W (body s) { nx := fun s => ∃ k, k < m ∧ I k s, ct := fun s => ∃ k, k < m ∧ I k s, bk := p.nx, rt := p.rt, ex := p.ex })) → W (whileC t body f s) p
  | 0, m, s, hm, _, _ => by omega
  | f + 1, m, s, hm, h0, h => by
    rcases h m s h0 with ⟨e, z⟩ | ⟨e, z⟩
    · simp only [whileC, e, ct_ok]
      exact z
    · simp only [whileC, e, ct_ok, if_true]
      have ih : ∀ s, (∃ k, k < m ∧ I k s) → W (whileC t body f s) p := fun s hs => by
        obtain ⟨k, hk, hI⟩ := hs
        exact W_while (p := p) I f k s (by omega) hI h
      cases q : body s with
      | nx s' => rw [q] at z; exact ih s' z
      | ct s' => rw [q] at z; exact ih s' z
      | bk s' => rw [q] at z; exact z
      | rt s' => rw [q] at z; exact z
      | ex s' => rw [q] at z; exact z
      | stuck => rw [q] at z; exact z
theorem W_if {p : Po σ l ρ} {c : Prop} [Decidable c] {a b : Ct σ l ρ} (h1 : c → W a p) (h2 : ¬ c → W b p) : W (if c then a else b) p := by
  by_cases h : c
  · rw [if_pos h]; exact h1 h
  · rw [if_neg h]; exact h2 h
theorem W_fn {m : Ct σ l ρ} {Q : ρ → Prop} (h : W m { rt := Q }) : ∃ r, m.fn = .ok r ∧ Q r := by
  cases m with
  | rt r => exact ⟨r, rfl, h⟩
  | _ => exact h.elim
theorem W_fp {m : Ct ρ l ρ} {Q : ρ → Prop} (h : W m { nx := Q, rt := Q }) : ∃ r, m.fp = .ok r ∧ Q r := by
  cases m with
  | rt r => exact ⟨r, rfl, h⟩
  | nx r => exact ⟨r, rfl, h⟩
  | _ => exact h.elim
/-- the def on slots answers -/
theorem RF_ok {m : N ρ} {fo : Fo} {v : ρ → D} {outs : ρ → DEnv} {r : ρ} (h : RF m fo v outs) (e : m = .ok r) : fo = .ok (v r) (outs r) := by
  rw [e] at h
  exact h
end
end NT
/- part NT8 -/
set_option Elab.async false
set_option linter.all false
set_option autoImplicit false
/-! NT8: the ties of raise, index, sorted, enumerate, defs as arguments. -/
namespace NT
open PySem L2 DL LW
section
variable {α β σ τ l ρ : Type} {c : Sps} {m : Ct σ l ρ} {Q : Qs σ l ρ}
theorem rs_raise {x : Str} {b : DS} (h : ∀ e, Fits c e → Q.ex e) : RS c (sSeq (sRaise x) b) (.ex ⟨x, none⟩ : Ct σ l ρ) Q := fun e he => ⟨e, rfl, h e he⟩
theorem intsOf_map (xs : List Int) : intsOf (xs.map eI) = some xs := by
  induction xs with
  | nil => rfl
  | cons x xs ih => simp [intsOf, ih]
def indexN (xs : List Int) (k : Int) : N Int := ofO ((xs.findIdx? fun y => decide (y = k)).map fun (j : Nat) => (j : Int))
def idxK (dk : DE) (k : D → DEnv → Fl) (d : D) : DEnv → Fl := match d with
  | .tuple xs => FK dk fun kk => FK (put (dIndex (.tuple xs) kk)) k
  | _ => fun _ => .stuck
theorem rk_index {dd dk : DE} {k : D → DEnv → Fl} (g : RS c (FK dd (idxK dk k)) m Q) : RS c (FK (eIndex dd dk) k) m Q := rk_conv (fun e => by
  unfold FK eIndex
  rw [fl_bind]
  cases dd e with
  | ok d e1 =>
    cases d <;> first | rfl | skip
    show (Rs.bind _ _).fl k = FK dk _ e1
    rw [fl_bind]
    rfl
  | ex _ _ => rfl
  | stuck => rfl) g
theorem rk_idxT {dk : DE} {k : D → DEnv → Fl} {ds : List D} (g : RS c (FK dk fun kk => FK (put (dIndex (.tuple ds) kk)) k) m Q) : RS c (idxK dk k (.tuple ds)) m Q := g
theorem rk_idxP {xs : List Int} {i : Int} {k : D → DEnv → Fl} {M : Int → Ct σ l ρ} (g : ∀ a, RS c (k (eI a)) (M a) Q) : RS c (FK (put (dIndex (eTs eI xs) (eI i))) k) ((indexN xs i).ct M) Q := by
  refine rk_opt (f := eI) (fun a h => ?_) (fun x => ofO_ex x) g
  unfold indexN at h
  have h2 := ofO_ok h
  show (match intsOf (xs.map eI) with
    | some ns => (ns.findIdx? fun y => decide (y = i)).map fun (j : Nat) => PyData.int (j : Int)
    | none => none) = _
  rw [intsOf_map]
  simp only
  cases q : xs.findIdx? fun y => decide (y = i) with
  | none => rw [q] at h2; cases h2
  | some j => rw [q] at h2; cases h2; rfl
theorem sort_L (xs : List Int) : fSort [eLs eI xs] = some ((sortI xs).map eI) := by simp [fSort, intsOf_map]
def enumI (xs : List α) : List (Int × α) := xs.mapIdx fun i x => ((i : Int), x)
theorem enumD_map (f : α → D) (xs : List α) : enumD (xs.map f) = (enumI xs).map (eP2 eI f) := by
  unfold enumD enumI
  apply List.ext_getElem?
  intro i
  simp only [List.getElem?_mapIdx, List.getElem?_map, Option.map_map]
  cases xs[i]? <;> rfl
def enumO : List D → Option (List D)
  | [.list xs] => some (enumD xs)
  | [.tuple xs] => some (enumD xs)
  | _ => none
theorem rk_enum {da : DA} {k : List D → DEnv → Fl} (g : RS c (FK da fun ds => FK (put (enumO ds)) k) m Q) : RS c (FK (iEnm da) k) m Q := rk_conv (fun e => by
  unfold FK iEnm
  rw [fl_bind]
  cases da e with
  | ok ds e1 =>
    simp only [fl_ok]
    rcases ds with _ | ⟨d, _ | ⟨_, _⟩⟩
    · rfl
    · cases d <;> rfl
    · cases d <;> rfl
  | ex _ _ => rfl
  | stuck => rfl) g
theorem enum_L (f : α → D) (xs : List α) : enumO [eLs f xs] = some ((enumI xs).map (eP2 eI f)) := congrArg some (enumD_map f xs)
theorem enum_T (f : α → D) (xs : List α) : enumO [eTs f xs] = some ((enumI xs).map (eP2 eI f)) := congrArg some (enumD_map f xs)
theorem rk_rfn {x : Str} {da : DAr} {k : List Ar → DEnv → Fl} (g : RS c (FK da fun xs => k (.g x :: xs)) m Q) : RS c (FK (rFn x da) k) m Q := rk_conv (fun e => by
  unfold FK rFn
  rw [fl_bind]
  rfl) g
theorem rk_callV {np i : Nat} {tbl : List (Str × Df)} {x : Str} {F : Df} {da : DAr} {k : D → DEnv → Fl} (g : RS c (FK da (callK np F k)) m Q) (hc : c[i]? = some (.is (.f x)) := by rfl) (ht : tbl.lookup x = some F := by rfl) : RS c (FK (eCallV np i tbl da) k) m Q := fun e he => by
  have := g e he
  unfold FK at this ⊢
  unfold eCallV
  rw [he.is hc]
  simp only [ht]
  rw [fl_bind]
  exact this
theorem wk_fnp {x : Str} : Wk (.is (.f x)) .np := rfl
theorem wk_fnw {x : Str} : Wk (.is (.f x)) .nw := rfl
end
def isLstD : D → Bool
  | .list _ => true
  | _ => false
theorem isi_lst (d : D) : isiD "list" d = some (.bool (isLstD d)) := by
  cases d with
  | none => exact isi_of (show kitB "NoneType" "list" = some false by decide +kernel)
  | bool _ => exact isi_of (show kitB "bool" "list" = some false by decide +kernel)
  | int _ => exact isi_of (show kitB "int" "list" = some false by decide +kernel)
  | str _ => exact isi_of (show kitB "str" "list" = some false by decide +kernel)
  | list _ => exact isi_of (show kitB "list" "list" = some true by decide +kernel)
  | tuple _ => exact isi_of (show kitB "tuple" "list" = some false by decide +kernel)
  | dict _ => exact isi_of (show kitB "dict" "list" = some false by decide +kernel)
end NT
/- part NT9 -/
set_option Elab.async false
set_option linter.all false
set_option autoImplicit false
/-! NT9: list.extend, zip. -/
namespace NT
open PySem L2 DL LW
section
variable {α β σ τ l ρ : Type} {c : Sps} {m : Ct σ l ρ} {Q : Qs σ l ρ}
def extN (xs ys : List α) : N (List α) := if xs.length + ys.length < 100000 then .ok (xs ++ ys) else .stuck
theorem rk_extT {fe : α → D} {xs ys : List α} {i : Nat} {k : D → DEnv → Fl} {M : List α → Ct σ l ρ} (g : ∀ ys, RS (reC c i (ys.map fe)) (k .none) (M ys) Q) (h : getC c i = some (xs.map fe) := by rfl) : RS c (moK i mExtend [eTs fe ys] k) ((extN xs ys).ct M) Q :=
  rk_moX (v := fun _ => .none) (ys := id) (fun zs hy => by
    unfold extN at hy
    split at hy <;> cases hy
    rename_i q
    show (if (xs.map fe).length + (ys.map fe).length < 100000 then some (PyData.none, xs.map fe ++ ys.map fe) else none) = _
    rw [List.length_map, List.length_map, if_pos q]
    simp) (fun x => by unfold extN; split <;> exact fun h => by cases h) g h
theorem rk_extL {fe : α → D} {xs ys : List α} {i : Nat} {k : D → DEnv → Fl} {M : List α → Ct σ l ρ} (g : ∀ ys, RS (reC c i (ys.map fe)) (k .none) (M ys) Q) (h : getC c i = some (xs.map fe) := by rfl) : RS c (moK i mExtend [eLs fe ys] k) ((extN xs ys).ct M) Q :=
  rk_moX (v := fun _ => .none) (ys := id) (fun zs hy => by
    unfold extN at hy
    split at hy <;> cases hy
    rename_i q
    show (if (xs.map fe).length + (ys.map fe).length < 100000 then some (PyData.none, xs.map fe ++ ys.map fe) else none) = _
    rw [List.length_map, List.length_map, if_pos q]
    simp) (fun x => by unfold extN; split <;> exact fun h => by cases h) g h
def zipO : List D → Option (List D)
  | [.tuple xs, .tuple ys] => some (zipD xs ys)
  | _ => none
theorem rk_zip {da : DA} {k : List D → DEnv → Fl} (g : RS c (FK da fun ds => FK (put (zipO ds)) k) m Q) : RS c (FK (iZp da) k) m Q := rk_conv (fun e => by
  unfold FK iZp
  rw [fl_bind]
  cases da e with
  | ok ds e1 =>
    simp only [fl_ok]
    unfold zipO
    split
    · rfl
    · first
        | rfl
        | (rename_i h
           split
           · exact (h _ _ rfl).elim
           · rfl)
  | ex _ _ => rfl
  | stuck => rfl) g
theorem zip_T (f : α → D) (g : β → D) (xs : List α) (ys : List β) : zipO [eTs f xs, eTs g ys] = some ((xs.zip ys).map (eP2 f g)) := by
  show some (zipD (xs.map f) (ys.map g)) = _
  unfold zipD
  rw [List.zip_map, List.map_map]
  rfl
end
end NT
/- part NT10 -/
set_option Elab.async false
set_option linter.all false
set_option autoImplicit false
/-! NT10: try. -/
namespace NT
open PySem L2 DL LW
section
variable {α β σ τ l ρ : Type} {c : Sps} {Q : Qs σ l ρ}
def tryC (m : Ct σ l ρ) (h : Xc → Ct σ l ρ) : Ct σ l ρ := match m with
  | .ex x => h x
  | r => r
@[simp] theorem tryC_ex (x : Xc) (h : Xc → Ct σ l ρ) : tryC (.ex x) h = h x := rfl
@[simp] theorem tryC_nx (s : σ) (h : Xc → Ct σ l ρ) : tryC (.nx s) h = .nx s := rfl
@[simp] theorem tryC_rt (s : ρ) (h : Xc → Ct σ l ρ) : tryC (.rt s) h = .rt s := rfl
@[simp] theorem tryC_stuck (h : Xc → Ct σ l ρ) : tryC .stuck h = .stuck := rfl
def kindL (x : Xc) : List (Str × Option Str) → N Str
  | [] => .ex x
  | (n, w) :: r => if mtC n x.c = true then (match kindD x w with
    | some (.str s) => .ok s
    | _ => .stuck) else kindL x r
def kindT (x : Xc) (l : List (Str × Option Str)) : N Str := if x.c ∈ kNames then kindL x l else .stuck
theorem fits_setV {e : DEnv} {i : Nat} (he : Fits c e) (h : stb c i = true) (s : Sl) : setV i s e = some (e.set i s) := stb_at h he s
theorem rs_try {db b : DS} {iE iK : Nat} {hl : List (Str × Option Str)} {mb : Ct τ l ρ} {c1 : τ → Sps} {cx : Sps} {V : Str → τ} {K : τ → Ct σ l ρ}
    (hb : RS c db mb { nx := fun s e => Fits (c1 s) e, lp := Q.lp, rt := Q.rt, rl := Q.rl, ex := fun e => Fits cx e }) (hs : ∀ s, Sub ((cx.set iE .nw).set iK (.is (.v (.str s)))) (c1 (V s))) (g : ∀ s, RS (c1 s) b (K s) Q)
    (hx : ∀ e, Fits cx e → Q.ex e) (hE : stb cx iE = true := by rfl) (hK : stb (cx.set iE .nw) iK = true := by rfl) :
    RS c (sSeq (sTryK db iE iK hl) b) ((tryC mb fun x => (kindT x hl).ct fun s => .nx (V s)).sq K) Q := fun e he => by
  have hb := hb e he
  show R _ (match sTryK db iE iK hl e with
    | .nx e1 => b e1
    | r => r) Q
  unfold sTryK
  cases q : mb with
  | stuck => exact trivial
  | nx s =>
    rw [q] at hb
    obtain ⟨e1, h1, h2⟩ := hb
    rw [h1]
    exact g s e1 h2
  | rt r =>
    rw [q] at hb
    rcases hb with ⟨d, e1, h1, h2⟩ | ⟨d, e1, h1, h2⟩
    · rw [h1]; exact .inl ⟨d, e1, rfl, h2⟩
    · rw [h1]; exact .inr ⟨d, e1, rfl, h2⟩
  | bk s =>
    rw [q] at hb
    obtain ⟨e1, h1, h2⟩ := hb
    rw [h1]
    exact ⟨e1, rfl, h2⟩
  | ct s =>
    rw [q] at hb
    obtain ⟨e1, h1, h2⟩ := hb
    rw [h1]
    exact ⟨e1, rfl, h2⟩
  | ex x =>
    rw [q] at hb
    obtain ⟨e1, h1, h2⟩ := hb
    rw [h1, tryC_ex]
    unfold kindT
    by_cases hk : x.c ∈ kNames
    · simp only [if_pos hk]
      clear q h1
      induction hl with
      | nil => exact ⟨e1, rfl, hx e1 h2⟩
      | cons p r ih =>
        obtain ⟨n, w⟩ := p
        by_cases hm : mtC n x.c = true
        · unfold kindL tryH
          rw [if_pos hm, if_pos hm, fits_setV h2 hE]
          have h3 : Fits (cx.set iE .nw) (e1.set iE .no) := h2.set iE rfl
          cases q2 : kindD x w with
          | none => exact trivial
          | some y =>
            cases y with
            | str s =>
              simp only [fits_setV h3 hK]
              exact g (V s) _ ((h3.set iK (x := .is (.v (.str s))) rfl).sub (hs s))
            | _ => exact trivial
        · unfold kindL tryH
          rw [if_neg hm, if_neg hm]
          exact ih
    · simp only [if_neg hk]
      exact trivial
end
end NT
/- part NW -/
set_option Elab.async false
set_option linter.all false
set_option maxRecDepth 100000
set_option maxHeartbeats 4000000
namespace NW
open PySem L2 DL LW NT
noncomputable section
def n_is_whole (thing0 : D) : N Bool := Ct.fn (
 .rt ((isIntD thing0) && (!(isBoolD thing0))) : Ct Unit Unit Bool)
theorem rf_is_whole (thing0 : D) : RF (n_is_whole thing0) (f_is_whole [.v thing0]) (fun r => (eB r)) (fun r => [.no]) := rf_of (n := 1) (b := b_is_whole) (c0 := [.is (.v thing0)])
 (rs_last (rs_ret (rk_pure (d := (eB ((isIntD thing0) && (!(isBoolD thing0))))) (ep_and (ep_isi (ep_var (d := thing0) rfl) (isi_int thing0)) (ep_not (ep_isi (ep_var (d := thing0) rfl) (isi_bool thing0))))  (rk_ret (r := ((isIntD thing0) && (!(isBoolD thing0)))) fun _ he => ⟨rfl, outs_of rfl rfl he⟩))))
def n_broken (onward0 : (List Int)) (mates0 : (List (Option Int))) : N (Option Int) := Ct.fn (
 (rngN (onward0.length : Int)).ct fun xs0 =>
 (forC (fun half0 => fun met0 =>
 ((idx onward0 half0).ct fun a0 =>
 (if ((decide (a0 < (0 : Int))) || ((decide ((onward0.length : Int) ≤ a0)) || (dhas met0 a0))) = true then
 .rt (some half0) else
 (putN met0 a0 true).ct fun met1 =>
 (idx mates0 half0).ct fun a1 =>
 (Ct.fn ((optC a1
 (.rt false)
 (fun mate1 => (Ct.fn ((if (decide (mate1 < (0 : Int))) = true then
 .rt true else
 (if (decide ((onward0.length : Int) ≤ mate1)) = true then
 .rt true else
 (if (decide (mate1 = half0)) = true then
 .rt true else
 (idx mates0 mate1).ct fun a2 =>
 .rt (!(decide (a2 = (some half0))))))) : Ct Unit Unit Bool)).ct fun b0 =>
 .rt b0)) : Ct Unit Unit Bool)).ct fun b1 =>
 (if b1 = true then
 .rt (some half0) else
 .nx met1)) : Ct (List (Int × Bool)) (List (Int × Bool)) _)) xs0 ([] : (List (Int × Bool)))).sq fun met2 =>
 .rt none : Ct Unit Unit (Option Int))
theorem rf_broken (onward0 : (List Int)) (mates0 : (List (Option Int))) : RF (n_broken onward0 mates0) (f_broken [.v ((eTs eI) onward0), .v ((eTs (eO eI)) mates0)]) (fun r => ((eO eI) r)) (fun r => [.no, .no]) := rf_of (n := 7) (b := b_broken) (c0 := [.is (.v ((eTs eI) onward0)), .is (.v ((eTs (eO eI)) mates0)), .nw, .nw, .nw, .nw, .nw])
 (rs_asg (rk_pure (d := (eI (onward0.length : Int))) (ep_cb (ep_acons (ep_var (d := ((eTs eI) onward0)) rfl) ep_anil) (len_T (f := eI) onward0))  (rk_asgN (rs_asgM (rk_pure ep_dict0 (rk_asgM (rs_forK (rk_rng (j := (onward0.length : Int)) (ep_acons (ep_var (d := (eI (onward0.length : Int))) rfl) ep_anil) fun xs0 => (rs_for (fe := eI) (c0 := fun met0 => [.is (.v ((eTs eI) onward0)), .is (.v ((eTs (eO eI)) mates0)), .is (.v (eI (onward0.length : Int))), .is (.m (eKv eI eB met0)), .nw, .nw, .nw]) (c1 := fun half0 => fun met0 => [.is (.v ((eTs eI) onward0)), .is (.v ((eTs (eO eI)) mates0)), .is (.v (eI (onward0.length : Int))), .is (.m (eKv eI eB met0)), .is (.v (eI half0)), .nw, .nw]) (s0 := ([] : (List (Int × Bool)))) (sub_cons wk_is (sub_cons wk_is (sub_cons wk_is (sub_cons wk_is (sub_cons wk_nw (sub_cons wk_nw (sub_cons wk_nw sub_nil))))))) (fun _ met0 => gs_N) (fun half0 met0 => (rs_asg (rk_ixN (rk_pure (d := (eI half0)) (ep_var (d := (eI half0)) rfl)  (rk_ixAt (d := ((eTs eI) onward0)) (rk_ixT (f := eI) (xs := onward0) fun a0 => (rk_asgN (rs_if (rk_pure (d := ((decide (a0 < (0 : Int))) || ((decide ((onward0.length : Int) ≤ a0)) || (dhas met0 a0)))) (ep_orT (ep_tst (ep_bin (ep_var (d := (eI a0)) rfl) ep_C rfl)) (ep_orT (ep_tst (ep_bin (ep_var (d := (eI a0)) rfl) (ep_var (d := (eI (onward0.length : Int))) rfl) rfl)) (ep_tst (ep_inM (f := eI) (g := eB) (kvs := met0) (k := a0) (ep_var (d := (eI a0)) rfl) rfl)))) (rk_ifF (rs_ret (rk_pure (d := ((eO eI) (some half0))) (ep_var (d := (eI half0)) rfl)  (rk_ret (r := (some half0)) fun _ he => ⟨rfl, outs_of rfl rfl he⟩))) (rs_nxs (rs_putM (rk_pure (d := (eB true)) ep_C  (rk_kn (rk_pure (d := (eI a0)) (ep_var (d := (eI a0)) rfl)  (rk_putM (f := eI) (g := eB) (kk := a0) (v := true) (kvs := met0) fun met1 => (rs_asg (rk_ixN (rk_pure (d := (eI half0)) (ep_var (d := (eI half0)) rfl)  (rk_ixAt (d := ((eTs (eO eI)) mates0)) (rk_ixT (f := (eO eI)) (xs := mates0) fun a1 => (rk_asgN (rs_last (rs_if (rk_unitT (v := fun b1 => b1) (c' := fun b1 => [.is (.v ((eTs eI) onward0)), .is (.v ((eTs (eO eI)) mates0)), .is (.v (eI (onward0.length : Int))), .is (.m (eKv eI eB met1)), .is (.v (eI half0)), .is (.v (eI a0)), .is (.v ((eO eI) a1))]) (by apply rs_opt (x := a1); exact (rk_andT (rk_pure (d := false) (ep_tst (ep_bin (ep_var (d := ((eO eI) none)) rfl) ep_C (isnt_none (f := eI) none))) (rk_retT fun _ he => ⟨rfl, he.sub (sub_cons wk_is (sub_cons wk_is (sub_cons wk_is (sub_cons wk_is (sub_cons wk_is (sub_cons wk_is (sub_cons wk_is sub_nil)))))))⟩))); exact (fun mate1 => rk_andT (rk_pure (d := true) (ep_tst (ep_bin (ep_var (d := (eI mate1)) rfl) ep_C rfl)) (rk_unitT (v := fun b0 => b0) (c' := fun b0 => [.is (.v ((eTs eI) onward0)), .is (.v ((eTs (eO eI)) mates0)), .is (.v (eI (onward0.length : Int))), .is (.m (eKv eI eB met1)), .is (.v (eI half0)), .is (.v (eI a0)), .is (.v (eI mate1))]) (rk_orT (rk_pure (d := (decide (mate1 < (0 : Int)))) (ep_tst (ep_bin (ep_var (d := (eI mate1)) rfl) ep_C rfl)) (rk_ifF (rk_retT fun _ he => ⟨rfl, he.sub (sub_cons wk_is (sub_cons wk_is (sub_cons wk_is (sub_cons wk_is (sub_cons wk_is (sub_cons wk_is (sub_cons wk_is sub_nil)))))))⟩) (rk_orT (rk_pure (d := (decide ((onward0.length : Int) ≤ mate1))) (ep_tst (ep_bin (ep_var (d := (eI mate1)) rfl) (ep_var (d := (eI (onward0.length : Int))) rfl) rfl)) (rk_ifF (rk_retT fun _ he => ⟨rfl, he.sub (sub_cons wk_is (sub_cons wk_is (sub_cons wk_is (sub_cons wk_is (sub_cons wk_is (sub_cons wk_is (sub_cons wk_is sub_nil)))))))⟩) (rk_orT (rk_pure (d := (decide (mate1 = half0))) (ep_tst (ep_bin (ep_var (d := (eI mate1)) rfl) (ep_var (d := (eI half0)) rfl) (eq_typed (f := eI) mate1 half0))) (rk_ifF (rk_retT fun _ he => ⟨rfl, he.sub (sub_cons wk_is (sub_cons wk_is (sub_cons wk_is (sub_cons wk_is (sub_cons wk_is (sub_cons wk_is (sub_cons wk_is sub_nil)))))))⟩) (rk_tst (rk_bin (rk_ixN (rk_pure (d := (eI mate1)) (ep_var (d := (eI mate1)) rfl)  (rk_ixAt (d := ((eTs (eO eI)) mates0)) (rk_ixT (f := (eO eI)) (xs := mates0) fun a2 => (rk_pure (d := (eI half0)) (ep_var (d := (eI half0)) rfl)  (rk_put (ne_typed (f := (eO eI)) a2 (some half0)) (rk_put rfl (rk_retT fun _ he => ⟨rfl, he.sub (sub_cons wk_is (sub_cons wk_is (sub_cons wk_is (sub_cons wk_is (sub_cons wk_is (sub_cons wk_is (sub_cons wk_is sub_nil)))))))⟩))))) rfl)))))))))))))) (fun b0 => (rk_retT fun _ he => ⟨rfl, he.sub (sub_cons wk_is (sub_cons wk_is (sub_cons wk_is (sub_cons wk_is (sub_cons wk_is (sub_cons wk_is (sub_cons wk_is sub_nil)))))))⟩)))))) (fun b1 => (rk_ifF (rs_ret (rk_pure (d := ((eO eI) (some half0))) (ep_var (d := (eI half0)) rfl)  (rk_ret (r := (some half0)) fun _ he => ⟨rfl, outs_of rfl rfl he⟩))) (rs_nxs (rs_nx fun _ he => he.sub (sub_cons wk_is (sub_cons wk_is (sub_cons wk_is (sub_cons wk_is (sub_cons wk_vnw (sub_cons wk_vnw (sub_cons wk_vnw sub_nil)))))))))))))))) rfl))))))))))))))) rfl))))) (fun met2 => (rs_last (rs_ret (rk_pure (d := ((eO eI) none)) ep_C  (rk_ret (r := none) fun _ he => ⟨rfl, outs_of rfl rfl he⟩))))))))))))))
def n_is_skin_S (thing0 : ((List Int) × (List (Option Int)))) : N Bool := Ct.fn (
 (if ((!(isTupD ((eP2 (eTs eI) (eTs (eO eI))) thing0))) || (!(decide ((2 : Int) = (2 : Int))))) = true then
 .rt false else
 (if ((!(isTupD ((eTs eI) thing0.1))) || (!(isTupD ((eTs (eO eI)) thing0.2)))) = true then
 .rt false else
 (if ((decide ((thing0.1.length : Int) < (1 : Int))) || ((decide ((400 : Int) < (thing0.1.length : Int))) || (!(decide ((thing0.2.length : Int) = (thing0.1.length : Int)))))) = true then
 .rt false else
 (lcP (fun behind0 => ((n_is_whole (eI behind0)).ct fun r0 =>
 .rt r0 : Ct Unit Unit Bool)) thing0.1).ct fun ys0 =>
 (if (!(ys0.all id)) = true then
 .rt false else
 (lcP (fun mate0 => ((Ct.fn ((if (mate0.isNone) = true then
 .rt true else
 (n_is_whole ((eO eI) mate0)).ct fun r1 =>
 .rt r1) : Ct Unit Unit Bool)).ct fun b0 =>
 .rt b0 : Ct Unit Unit Bool)) thing0.2).ct fun ys1 =>
 (if (!(ys1.all id)) = true then
 .rt false else
 (n_broken thing0.1 thing0.2).ct fun r2 =>
 .rt (r2.isNone)))))) : Ct Unit Unit Bool)
theorem rf_is_skin_S (thing0 : ((List Int) × (List (Option Int)))) : RF (n_is_skin_S thing0) (f_is_skin [.v ((eP2 (eTs eI) (eTs (eO eI))) thing0)]) (fun r => (eB r)) (fun r => [.no]) := rf_of (n := 5) (b := b_is_skin) (c0 := [.is (.v ((eP2 (eTs eI) (eTs (eO eI))) thing0)), .nw, .nw, .nw, .nw])
 (rs_if (rk_pure (d := ((!(isTupD ((eP2 (eTs eI) (eTs (eO eI))) thing0))) || (!(decide ((2 : Int) = (2 : Int)))))) (ep_orT (ep_notT (ep_tst (ep_isi (ep_var (d := ((eP2 (eTs eI) (eTs (eO eI))) thing0)) rfl) (isi_tup ((eP2 (eTs eI) (eTs (eO eI))) thing0))))) (ep_tst (ep_bin (ep_cb (ep_acons (ep_var (d := ((eP2 (eTs eI) (eTs (eO eI))) thing0)) rfl) ep_anil) rfl) ep_C (ne_typed (f := eI) (2 : Int) (2 : Int))))) (rk_ifF (rs_ret (rk_pure (d := (eB false)) ep_C  (rk_ret (r := false) fun _ he => ⟨rfl, outs_of rfl rfl he⟩))) (rs_nxs (rs_asg (rk_pure (d := ((eP2 (eTs eI) (eTs (eO eI))) thing0)) (ep_var (d := ((eP2 (eTs eI) (eTs (eO eI))) thing0)) rfl)  (rk_asg (gs_T (gss_cons gs_N (gss_cons gs_N gss_nil))) (rs_if (rk_pure (d := ((!(isTupD ((eTs eI) thing0.1))) || (!(isTupD ((eTs (eO eI)) thing0.2))))) (ep_orT (ep_notT (ep_tst (ep_isi (ep_var (d := ((eTs eI) thing0.1)) rfl) (isi_tup ((eTs eI) thing0.1))))) (ep_notT (ep_tst (ep_isi (ep_var (d := ((eTs (eO eI)) thing0.2)) rfl) (isi_tup ((eTs (eO eI)) thing0.2)))))) (rk_ifF (rs_ret (rk_pure (d := (eB false)) ep_C  (rk_ret (r := false) fun _ he => ⟨rfl, outs_of rfl rfl he⟩))) (rs_nxs (rs_if (rk_pure (d := ((decide ((thing0.1.length : Int) < (1 : Int))) || ((decide ((400 : Int) < (thing0.1.length : Int))) || (!(decide ((thing0.2.length : Int) = (thing0.1.length : Int))))))) (ep_orT (ep_tst (ep_bin (ep_cb (ep_acons (ep_var (d := ((eTs eI) thing0.1)) rfl) ep_anil) (len_T (f := eI) thing0.1)) ep_C rfl)) (ep_orT (ep_tst (ep_bin (ep_cb (ep_acons (ep_var (d := ((eTs eI) thing0.1)) rfl) ep_anil) (len_T (f := eI) thing0.1)) ep_C rfl)) (ep_tst (ep_bin (ep_cb (ep_acons (ep_var (d := ((eTs (eO eI)) thing0.2)) rfl) ep_anil) (len_T (f := (eO eI)) thing0.2)) (ep_cb (ep_acons (ep_var (d := ((eTs eI) thing0.1)) rfl) ep_anil) (len_T (f := eI) thing0.1)) (ne_typed (f := eI) (thing0.2.length : Int) (thing0.1.length : Int)))))) (rk_ifF (rs_ret (rk_pure (d := (eB false)) ep_C  (rk_ret (r := false) fun _ he => ⟨rfl, outs_of rfl rfl he⟩))) (rs_nxs (rs_if (rk_notT (rk_tst (rk_cb (rk_acons (rk_elst (rk_lc (rk_seq (rk_pure (d := ((eTs eI) thing0.1)) (ep_var (d := ((eTs eI) thing0.1)) rfl)  (rk_put rfl (rk_lcP (fe := eI) (fb := eB) (ca := fun behind0 => [.is (.v ((eP2 (eTs eI) (eTs (eO eI))) thing0)), .is (.v ((eTs eI) thing0.1)), .is (.v ((eTs (eO eI)) thing0.2)), .is (.v (eI behind0)), .nw]) (fun _ => gs_N) (fun behind0 => (rk_ck1 (rk_callN (rk_rcons (rk_pure (d := (eI behind0)) (ep_var (d := (eI behind0)) rfl)  (rk_rnil (rk_call (rf_is_whole (eI behind0)) (fun r0 => (rk_retC (fb := eB) (sub_cons wk_is (sub_cons wk_is (sub_cons wk_is (sub_cons wk_is (sub_cons wk_nw sub_nil))))))) (fun _ _ _ _ => trivial)))))))) (fun ys0 => (rk_anil (rk_put (all_B ys0) (rk_put rfl (rk_ifF (rs_ret (rk_pure (d := (eB false)) ep_C  (rk_ret (r := false) fun _ he => ⟨rfl, outs_of rfl rfl he⟩))) (rs_nxs (rs_if (rk_notT (rk_tst (rk_cb (rk_acons (rk_elst (rk_lc (rk_seq (rk_pure (d := ((eTs (eO eI)) thing0.2)) (ep_var (d := ((eTs (eO eI)) thing0.2)) rfl)  (rk_put rfl (rk_lcP (fe := (eO eI)) (fb := eB) (ca := fun mate0 => [.is (.v ((eP2 (eTs eI) (eTs (eO eI))) thing0)), .is (.v ((eTs eI) thing0.1)), .is (.v ((eTs (eO eI)) thing0.2)), .nw, .is (.v ((eO eI) mate0))]) (fun _ => gs_N) (fun mate0 => (rk_ck1 (rk_unit (v := fun b0 => eB b0) (c' := fun b0 => [.is (.v ((eP2 (eTs eI) (eTs (eO eI))) thing0)), .is (.v ((eTs eI) thing0.1)), .is (.v ((eTs (eO eI)) thing0.2)), .nw, .is (.v ((eO eI) mate0))]) (rk_or (rk_pure (d := (eB (mate0.isNone))) (ep_bin (ep_var (d := ((eO eI) mate0)) rfl) ep_C (is_none (f := eI) mate0))  (rk_put rfl (rk_ifF (rk_ret fun _ he => ⟨rfl, he.sub (sub_cons wk_is (sub_cons wk_is (sub_cons wk_is (sub_cons wk_nw (sub_cons wk_is sub_nil)))))⟩) (rk_callN (rk_rcons (rk_pure (d := ((eO eI) mate0)) (ep_var (d := ((eO eI) mate0)) rfl)  (rk_rnil (rk_call (rf_is_whole ((eO eI) mate0)) (fun r1 => (rk_ret fun _ he => ⟨rfl, he.sub (sub_cons wk_is (sub_cons wk_is (sub_cons wk_is (sub_cons wk_nw (sub_cons wk_is sub_nil)))))⟩)) (fun _ _ _ _ => trivial)))))))))) (fun b0 => (rk_retC (fb := eB) (sub_cons wk_is (sub_cons wk_is (sub_cons wk_is (sub_cons wk_nw (sub_cons wk_is sub_nil)))))))))) (fun ys1 => (rk_anil (rk_put (all_B ys1) (rk_put rfl (rk_ifF (rs_ret (rk_pure (d := (eB false)) ep_C  (rk_ret (r := false) fun _ he => ⟨rfl, outs_of rfl rfl he⟩))) (rs_nxs (rs_last (rs_ret (rk_bin (rk_callN (rk_rcons (rk_pure (d := ((eTs eI) thing0.1)) (ep_var (d := ((eTs eI) thing0.1)) rfl)  (rk_rcons (rk_pure (d := ((eTs (eO eI)) thing0.2)) (ep_var (d := ((eTs (eO eI)) thing0.2)) rfl)  (rk_rnil (rk_call (rf_broken thing0.1 thing0.2) (fun r2 => (rk_pure (d := (eU ())) ep_C  (rk_put (is_none (f := eI) r2) (rk_ret (r := (r2.isNone)) fun _ he => ⟨rfl, outs_of rfl rfl he⟩)))) (fun _ _ _ _ => trivial))))))))))))))))))))))))))))))))))))))))))))))))))))))))))))
def n__law_take (bag0 : (List Int)) (many0 : Int) : N (Int × (List Int)) := Ct.fn (
 (idx bag0 (0 : Int)).ct fun a0 =>
 (if (decide ((0 : Int) < a0)) = true then
 (idx bag0 (0 : Int)).ct fun a1 =>
 (modN a1 many0).ct fun n0 =>
 (idx bag0 (0 : Int)).ct fun a2 =>
 (divN a2 many0).ct fun n1 =>
 (setN bag0 (0 : Int) n1).ct fun bag1 =>
 .rt (n0, bag1) else
 (idx bag0 (1 : Int)).ct fun a3 =>
 (mulN a3 (48271 : Int)).ct fun n2 =>
 (modN n2 (2147483647 : Int)).ct fun n3 =>
 (setN bag0 (1 : Int) n3).ct fun bag2 =>
 (idx bag2 (1 : Int)).ct fun a4 =>
 (idx bag2 (1 : Int)).ct fun a5 =>
 (mulN a4 a5).ct fun n4 =>
 (modN n4 (2147483629 : Int)).ct fun n5 =>
 (divN n5 (64 : Int)).ct fun n6 =>
 (modN n6 many0).ct fun n7 =>
 .rt (n7, bag2)) : Ct Unit Unit (Int × (List Int)))
theorem rf__law_take (bag0 : (List Int)) (many0 : Int) : RF (n__law_take bag0 many0) (f__law_take [.p (List.map eI bag0), .v (eI many0)]) (fun r => (eI r.1)) (fun r => [.p (List.map eI r.2), .no]) := rf_of (n := 3) (b := b__law_take) (c0 := [.is (.p (List.map eI bag0)), .is (.v (eI many0)), .nw])
 (rs_if (rk_tst (rk_bin (rk_ixN (rk_pure (d := (eI (0 : Int))) ep_C  (rk_ixAt (d := ((eLs eI) bag0)) (rk_ixL (f := eI) (xs := bag0) fun a0 => (rk_pure (d := (eI (0 : Int))) ep_C  (rk_put rfl (rk_put rfl (rk_ifF (rs_assoc (rs_asg (rk_bin (rk_ixN (rk_pure (d := (eI (0 : Int))) ep_C  (rk_ixAt (d := ((eLs eI) bag0)) (rk_ixL (f := eI) (xs := bag0) fun a1 => (rk_pure (d := (eI many0)) (ep_var (d := (eI many0)) rfl)  (rk_mod fun n0 => (rk_asgN (rs_assoc (rs_setO (rk_bin (rk_ixN (rk_pure (d := (eI (0 : Int))) ep_C  (rk_ixAt (d := ((eLs eI) bag0)) (rk_ixL (f := eI) (xs := bag0) fun a2 => (rk_pure (d := (eI many0)) (ep_var (d := (eI many0)) rfl)  (rk_div fun n1 => (rk_kn (rk_pure (d := (eI (0 : Int))) ep_C  (rk_set (fe := eI) (a := n1) (xs := bag0) fun bag1 => (rs_ret (rk_pure (d := (eI n0)) (ep_var (d := (eI n0)) rfl)  (rk_ret (r := (n0, bag1)) fun _ he => ⟨rfl, outs_of rfl rfl he⟩))))))))) rfl)))))))))) rfl)))))) (rs_nxs (rs_setO (rk_bin (rk_bin (rk_ixN (rk_pure (d := (eI (1 : Int))) ep_C  (rk_ixAt (d := ((eLs eI) bag0)) (rk_ixL (f := eI) (xs := bag0) fun a3 => (rk_pure (d := (eI (48271 : Int))) ep_C  (rk_mul fun n2 => (rk_pure (d := (eI (2147483647 : Int))) ep_C  (rk_mod fun n3 => (rk_kn (rk_pure (d := (eI (1 : Int))) ep_C  (rk_set (fe := eI) (a := n3) (xs := bag0) fun bag2 => (rs_last (rs_ret (rk_bin (rk_bin (rk_bin (rk_bin (rk_ixN (rk_pure (d := (eI (1 : Int))) ep_C  (rk_ixAt (d := ((eLs eI) bag2)) (rk_ixL (f := eI) (xs := bag2) fun a4 => (rk_ixN (rk_pure (d := (eI (1 : Int))) ep_C  (rk_ixAt (d := ((eLs eI) bag2)) (rk_ixL (f := eI) (xs := bag2) fun a5 => (rk_mul fun n4 => (rk_pure (d := (eI (2147483629 : Int))) ep_C  (rk_mod fun n5 => (rk_pure (d := (eI (64 : Int))) ep_C  (rk_div fun n6 => (rk_pure (d := (eI many0)) (ep_var (d := (eI many0)) rfl)  (rk_mod fun n7 => (rk_ret (r := (n7, bag2)) fun _ he => ⟨rfl, outs_of rfl rfl he⟩))))))))) rfl)))) rfl))))))))))))))))) rfl)))))))))))) rfl))))))
def n__law_bag (script0 : (List Int)) (k0 : Int) : N (List Int) := Ct.fn (
 (Ct.sq ((if (decide (k0 < (script0.length : Int))) = true then
 (idx script0 k0).ct fun a0 =>
 (powN (10 : Int) (60 : Int)).ct fun n0 =>
 (powN (10 : Int) (60 : Int)).ct fun n1 =>
 (mulN n0 n1).ct fun n2 =>
 (modN a0 n2).ct fun n3 =>
 .nx n3 else
 .nx (0 : Int)) : Ct Int _ _) fun cell0 =>
 (powN (10 : Int) (18 : Int)).ct fun n4 =>
 (if (decide (cell0 < n4)) = true then
 (mulN cell0 (7919 : Int)).ct fun n5 =>
 (mulN (104729 : Int) k0).ct fun n6 =>
 (modN (n5 + n6) (2147483646 : Int)).ct fun n7 =>
 .rt [(0 : Int), ((1 : Int) + n7)] else
 (modN (cell0 + k0) (2147483646 : Int)).ct fun n8 =>
 .rt [cell0, ((1 : Int) + n8)])) : Ct Unit Unit (List Int))
theorem rf__law_bag (script0 : (List Int)) (k0 : Int) : RFl (n__law_bag script0 k0) (f__law_bag [.v ((eLs eI) script0), .v (eI k0)]) (fun r => List.map eI r) (fun r => [.no, .no]) := rfl_of (n := 3) (b := b__law_bag) (c0 := [.is (.v ((eLs eI) script0)), .is (.v (eI k0)), .nw])
 (rs_asg (rk_pure (d := (eI (0 : Int))) ep_C  (rk_asgN (rs_seq (c1 := fun cell0 => [.is (.v ((eLs eI) script0)), .is (.v (eI k0)), .is (.v (eI cell0))]) (rs_if0 (rk_pure (d := (decide (k0 < (script0.length : Int)))) (ep_tst (ep_bin (ep_var (d := (eI k0)) rfl) (ep_cb (ep_acons (ep_var (d := ((eLs eI) script0)) rfl) ep_anil) (len_L (f := eI) script0)) rfl)) (rk_ifF (rs_last (rs_asg (rk_bin (rk_ixN (rk_pure (d := (eI k0)) (ep_var (d := (eI k0)) rfl)  (rk_ixAt (d := ((eLs eI) script0)) (rk_ixL (f := eI) (xs := script0) fun a0 => (rk_bin (rk_bin (rk_pure (d := (eI (10 : Int))) ep_C  (rk_pure (d := (eI (60 : Int))) ep_C  (rk_pow fun n0 => (rk_bin (rk_pure (d := (eI (10 : Int))) ep_C  (rk_pure (d := (eI (60 : Int))) ep_C  (rk_pow fun n1 => (rk_mul fun n2 => (rk_mod fun n3 => (rk_asgN (rs_nx fun _ he => he.sub (sub_cons wk_is (sub_cons wk_is (sub_cons wk_is sub_nil))))))))))))))))) rfl)))))) (rs_nx fun _ he => he.sub (sub_cons wk_is (sub_cons wk_is (sub_cons wk_is sub_nil))))))) (fun cell0 => (rs_if (rk_tst (rk_bin (rk_pure (d := (eI cell0)) (ep_var (d := (eI cell0)) rfl)  (rk_bin (rk_pure (d := (eI (10 : Int))) ep_C  (rk_pure (d := (eI (18 : Int))) ep_C  (rk_pow fun n4 => (rk_put rfl (rk_put rfl (rk_ifF (rs_retL (rk_lst (rk_acons (rk_pure (d := (eI (0 : Int))) ep_C  (rk_acons (rk_bin (rk_pure (d := (eI (1 : Int))) ep_C  (rk_bin (rk_bin (rk_bin (rk_pure (d := (eI cell0)) (ep_var (d := (eI cell0)) rfl)  (rk_pure (d := (eI (7919 : Int))) ep_C  (rk_mul fun n5 => (rk_bin (rk_pure (d := (eI (104729 : Int))) ep_C  (rk_pure (d := (eI k0)) (ep_var (d := (eI k0)) rfl)  (rk_mul fun n6 => (rk_put rfl (rk_pure (d := (eI (2147483646 : Int))) ep_C  (rk_mod fun n7 => (rk_put rfl (rk_anil (rk_put (if_pos (Nat.le_of_ble_eq_true rfl)) (rk_retL (r := [(0 : Int), ((1 : Int) + n7)]) fun _ he => ⟨rfl, outs_of rfl rfl he⟩)))))))))))))))))))))))) (rs_nxs (rs_last (rs_retL (rk_lst (rk_acons (rk_pure (d := (eI cell0)) (ep_var (d := (eI cell0)) rfl)  (rk_acons (rk_bin (rk_pure (d := (eI (1 : Int))) ep_C  (rk_bin (rk_pure (d := (eI (cell0 + k0))) (ep_bin (ep_var (d := (eI cell0)) rfl) (ep_var (d := (eI k0)) rfl) rfl)  (rk_pure (d := (eI (2147483646 : Int))) ep_C  (rk_mod fun n8 => (rk_put rfl (rk_anil (rk_put (if_pos (Nat.le_of_ble_eq_true rfl)) (rk_retL (r := [cell0, ((1 : Int) + n8)]) fun _ he => ⟨rfl, outs_of rfl rfl he⟩)))))))))))))))))))))))))))))))))
def n__law_skin (bag0 : (List Int)) (most0 : Int) : N (((List Int) × (List (Option Int))) × (List Int)) := Ct.fn (
 (n__law_take bag0 most0).ct (P2 fun r0 bag1 =>
 (rngN ((1 : Int) + r0)).ct fun xs0 =>
 (forC (fun half0 => (P2 fun bag2 order0 =>
 ((n__law_take bag2 (half0 + (1 : Int))).ct (P2 fun r1 bag3 =>
 (insN order0 r1 half0).ct fun order1 =>
 .nx (bag3, order1)) : Ct ((List Int) × (List Int)) ((List Int) × (List Int)) _))) xs0 (bag1, ([] : (List Int)))).sq (P2 fun bag4 order2 =>
 (repN (0 : Int) ((1 : Int) + r0)).ct fun xs1 =>
 (n__law_take bag4 (6 : Int)).ct (P2 fun r2 bag5 =>
 (n__law_take bag5 (3 : Int)).ct (P2 fun r3 bag6 =>
 (idx [((1 : Int) + r2), (3 : Int), ((1 : Int) + r0)] r3).ct fun a0 =>
 (whileC ((P3 fun bag7 onward0 left0 => Ct.fn (.rt (!(decide (left0 = ([] : (List Int))))) : Ct Unit Unit Bool))) ((P3 fun bag7 onward0 left0 =>
 ((n__law_take bag7 a0).ct (P2 fun r4 bag8 =>
 (n__law_take bag8 (2 : Int)).ct (P2 fun r5 bag9 =>
 (idx [a0, ((1 : Int) + r4)] r5).ct fun a1 =>
 (rngN (imin (left0.length : Int) a1)).ct fun xs2 =>
 (forC (fun k0 => fun onward1 =>
 ((idx (cutL left0 none (some (imin (left0.length : Int) a1))) k0).ct fun a2 =>
 (idx (cutL left0 none (some (imin (left0.length : Int) a1))) (k0 - (1 : Int))).ct fun a3 =>
 (setN onward1 a3 a2).ct fun onward2 =>
 .nx onward2 : Ct (List Int) (List Int) _)) xs2 onward0).sq fun onward3 =>
 .nx (bag9, onward3, (cutL left0 (some (imin (left0.length : Int) a1)) none)))) : Ct ((List Int) × (List Int) × (List Int)) ((List Int) × (List Int) × (List Int)) _))) FUEL (bag6, xs1, order2)).sq (P3 fun bag10 onward4 left1 =>
 (repN none ((1 : Int) + r0)).ct fun xs3 =>
 (n__law_take bag10 (3 : Int)).ct (P2 fun r6 bag11 =>
 (idx [(2 : Int), (5 : Int), (99 : Int)] r6).ct fun a4 =>
 (rngL ((1 : Int) + r0)).ct fun xs4 =>
 (whileC ((P3 fun bag12 mates0 waiting0 => Ct.fn (.rt (decide ((1 : Int) < (waiting0.length : Int))) : Ct Unit Unit Bool))) ((P3 fun bag12 mates0 waiting0 =>
 ((n__law_take bag12 (waiting0.length : Int)).ct (P2 fun r7 bag13 =>
 (popAtN waiting0 r7).ct (P2 fun a5 waiting1 =>
 (n__law_take bag13 (waiting1.length : Int)).ct (P2 fun r8 bag14 =>
 (popAtN waiting1 r8).ct (P2 fun a6 waiting2 =>
 (n__law_take bag14 a4).ct (P2 fun r9 bag15 =>
 (if (decide ((0 : Int) < r9)) = true then
 (setN mates0 a5 (some a6)).ct fun mates1 =>
 (setN mates1 a6 (some a5)).ct fun mates2 =>
 .nx (bag15, mates2, waiting2) else
 .nx (bag15, mates0, waiting2))))))) : Ct ((List Int) × (List (Option Int)) × (List Int)) ((List Int) × (List (Option Int)) × (List Int)) _))) FUEL (bag11, xs3, xs4)).sq (P3 fun bag16 mates3 waiting3 =>
 .rt ((onward4, mates3), bag16)))))))) : Ct Unit Unit (((List Int) × (List (Option Int))) × (List Int)))
theorem rf__law_skin (bag0 : (List Int)) (most0 : Int) : RF (n__law_skin bag0 most0) (f__law_skin [.p (List.map eI bag0), .v (eI most0)]) (fun r => ((eP2 (eTs eI) (eTs (eO eI))) r.1)) (fun r => [.p (List.map eI r.2), .no]) := rf_of (n := 16) (b := b__law_skin) (c0 := [.is (.p (List.map eI bag0)), .is (.v (eI most0)), .nw, .nw, .nw, .nw, .nw, .nw, .nw, .nw, .nw, .nw, .nw, .nw, .nw, .nw])
 (rs_asg (rk_bin (rk_pure (d := (eI (1 : Int))) ep_C  (rk_callN (rk_lend (rk_rcons (rk_pure (d := (eI most0)) (ep_var (d := (eI most0)) rfl)  (rk_rnil (rk_lendK (rk_call (rf__law_take bag0 most0) (fun ⟨r0, bag1⟩ => (rk_put rfl (rk_asgN (rs_asgL (rk_pure (ep_lst ep_anil) (rk_asgL (rs_forK (rk_rng (j := ((1 : Int) + r0)) (ep_acons (ep_var (d := (eI ((1 : Int) + r0))) rfl) ep_anil) fun xs0 => (rs_for (fe := eI) (c0 := (P2 fun bag2 order0 => [.is (.p (List.map eI bag2)), .is (.v (eI most0)), .is (.v (eI ((1 : Int) + r0))), .is (.l (List.map eI order0)), .nw, .nw, .nw, .nw, .nw, .nw, .nw, .nw, .nw, .nw, .nw, .nw])) (c1 := fun half0 => (P2 fun bag2 order0 => [.is (.p (List.map eI bag2)), .is (.v (eI most0)), .is (.v (eI ((1 : Int) + r0))), .is (.l (List.map eI order0)), .is (.v (eI half0)), .nw, .nw, .nw, .nw, .nw, .nw, .nw, .nw, .nw, .nw, .nw])) (s0 := (bag1, ([] : (List Int)))) (sub_cons wk_is (sub_cons wk_is (sub_cons wk_is (sub_cons wk_is (sub_cons wk_nw (sub_cons wk_nw (sub_cons wk_nw (sub_cons wk_nw (sub_cons wk_nw (sub_cons wk_nw (sub_cons wk_nw (sub_cons wk_nw (sub_cons wk_nw (sub_cons wk_nw (sub_cons wk_nw (sub_cons wk_nw sub_nil)))))))))))))))) (fun _ ⟨bag2, order0⟩ => gs_N) (fun half0 ⟨bag2, order0⟩ => (rs_last (rs_drop (rk_mo (xs := List.map eI order0) (rk_acons (rk_callN (rk_lend (rk_rcons (rk_pure (d := (eI (half0 + (1 : Int)))) (ep_bin (ep_var (d := (eI half0)) rfl) ep_C rfl)  (rk_rnil (rk_lendK (rk_call (rf__law_take bag2 (half0 + (1 : Int))) (fun ⟨r1, bag3⟩ => (rk_acons (rk_pure (d := (eI half0)) (ep_var (d := (eI half0)) rfl)  (rk_anil (rk_ins (fe := eI) (xs := order0) (a := half0) fun order1 => (rs_nx fun _ he => he.sub (sub_cons wk_is (sub_cons wk_is (sub_cons wk_is (sub_cons wk_is (sub_cons wk_vnw (sub_cons wk_nw (sub_cons wk_nw (sub_cons wk_nw (sub_cons wk_nw (sub_cons wk_nw (sub_cons wk_nw (sub_cons wk_nw (sub_cons wk_nw (sub_cons wk_nw (sub_cons wk_nw (sub_cons wk_nw sub_nil)))))))))))))))))))))) (fun _ _ _ _ => trivial))))))))))))) (fun ⟨bag4, order2⟩ => (rs_asgL (rk_rep (f := eI) (a := (0 : Int)) (n := ((1 : Int) + r0)) (ep_lst (ep_acons ep_C ep_anil)) (ep_var (d := (eI ((1 : Int) + r0))) rfl) fun xs1 => (rk_asgL (rs_asg (rk_bin (rk_elst (rk_lst (rk_acons (rk_bin (rk_pure (d := (eI (1 : Int))) ep_C  (rk_callN (rk_lend (rk_rcons (rk_pure (d := (eI (6 : Int))) ep_C  (rk_rnil (rk_lendK (rk_call (rf__law_take bag4 (6 : Int)) (fun ⟨r2, bag5⟩ => (rk_put rfl (rk_acons (rk_pure (d := (eI (3 : Int))) ep_C  (rk_acons (rk_pure (d := (eI ((1 : Int) + r0))) (ep_var (d := (eI ((1 : Int) + r0))) rfl)  (rk_anil (rk_put (if_pos (Nat.le_of_ble_eq_true rfl)) (rk_callN (rk_lend (rk_rcons (rk_pure (d := (eI (3 : Int))) ep_C  (rk_rnil (rk_lendK (rk_call (rf__law_take bag5 (3 : Int)) (fun ⟨r3, bag6⟩ => (rk_ixL (f := eI) (xs := [((1 : Int) + r2), (3 : Int), ((1 : Int) + r0)]) fun a0 => (rk_asgN (rs_asg (rk_elst (rk_pure (ep_listO (xs := List.map eI order2) rfl) (rk_asgN (rs_while (c0 := (P3 fun bag7 onward0 left0 => [.is (.p (List.map eI bag7)), .is (.v (eI most0)), .is (.v (eI ((1 : Int) + r0))), .is (.l (List.map eI order2)), .nw, .is (.l (List.map eI onward0)), .is (.v (eI a0)), .is (.v ((eLs eI) left0)), .nw, .nw, .nw, .nw, .nw, .nw, .nw, .nw])) (s0 := (bag6, xs1, order2)) (sub_cons wk_is (sub_cons wk_is (sub_cons wk_is (sub_cons wk_is (sub_cons wk_nw (sub_cons wk_is (sub_cons wk_is (sub_cons wk_is (sub_cons wk_nw (sub_cons wk_nw (sub_cons wk_nw (sub_cons wk_nw (sub_cons wk_nw (sub_cons wk_nw (sub_cons wk_nw (sub_cons wk_nw sub_nil)))))))))))))))) (fun ⟨bag7, onward0, left0⟩ => rk_fnrt (v := eB) (c' := fun _ => [.is (.p (List.map eI bag7)), .is (.v (eI most0)), .is (.v (eI ((1 : Int) + r0))), .is (.l (List.map eI order2)), .nw, .is (.l (List.map eI onward0)), .is (.v (eI a0)), .is (.v ((eLs eI) left0)), .nw, .nw, .nw, .nw, .nw, .nw, .nw, .nw]) (rk_pure (d := (!(decide (left0 = ([] : (List Int)))))) (ep_tst (ep_bin (ep_var (d := ((eLs eI) left0)) rfl) (ep_elst (ep_lst ep_anil)) (ne_typed (f := (eLs eI)) left0 ([] : (List Int))))) (rk_retT fun _ he => ⟨rfl, he.sub (sub_cons wk_is (sub_cons wk_is (sub_cons wk_is (sub_cons wk_is (sub_cons wk_nw (sub_cons wk_is (sub_cons wk_is (sub_cons wk_is (sub_cons wk_nw (sub_cons wk_nw (sub_cons wk_nw (sub_cons wk_nw (sub_cons wk_nw (sub_cons wk_nw (sub_cons wk_nw (sub_cons wk_nw sub_nil))))))))))))))))⟩))) (fun ⟨bag7, onward0, left0⟩ => (rs_asg (rk_cb (rk_acons (rk_pure (d := (eI (left0.length : Int))) (ep_cb (ep_acons (ep_var (d := ((eLs eI) left0)) rfl) ep_anil) (len_L (f := eI) left0))  (rk_acons (rk_bin (rk_elst (rk_lst (rk_acons (rk_pure (d := (eI a0)) (ep_var (d := (eI a0)) rfl)  (rk_acons (rk_bin (rk_pure (d := (eI (1 : Int))) ep_C  (rk_callN (rk_lend (rk_rcons (rk_pure (d := (eI a0)) (ep_var (d := (eI a0)) rfl)  (rk_rnil (rk_lendK (rk_call (rf__law_take bag7 a0) (fun ⟨r4, bag8⟩ => (rk_put rfl (rk_anil (rk_put (if_pos (Nat.le_of_ble_eq_true rfl)) (rk_callN (rk_lend (rk_rcons (rk_pure (d := (eI (2 : Int))) ep_C  (rk_rnil (rk_lendK (rk_call (rf__law_take bag8 (2 : Int)) (fun ⟨r5, bag9⟩ => (rk_ixL (f := eI) (xs := [a0, ((1 : Int) + r4)]) fun a1 => (rk_anil (rk_put rfl (rk_asgN (rs_asg (rk_pure (d := ((eLs eI) (cutL left0 none (some (imin (left0.length : Int) a1))))) (ep_sl (ep_var (d := ((eLs eI) left0)) rfl) ep_ptN (ep_ptS (ep_var (d := (eI (imin (left0.length : Int) a1))) rfl)) (sl_L (f := eI) left0 none (some (imin (left0.length : Int) a1))))  (rk_asgN (rs_asg (rk_pure (d := ((eLs eI) (cutL left0 (some (imin (left0.length : Int) a1)) none))) (ep_sl (ep_var (d := ((eLs eI) left0)) rfl) (ep_ptS (ep_var (d := (eI (imin (left0.length : Int) a1))) rfl)) ep_ptN (sl_L (f := eI) left0 (some (imin (left0.length : Int) a1)) none))  (rk_asgN (rs_last (rs_forK (rk_rng (j := (imin (left0.length : Int) a1)) (ep_acons (ep_var (d := (eI (imin (left0.length : Int) a1))) rfl) ep_anil) fun xs2 => (rs_for (fe := eI) (c0 := fun onward1 => [.is (.p (List.map eI bag9)), .is (.v (eI most0)), .is (.v (eI ((1 : Int) + r0))), .is (.l (List.map eI order2)), .nw, .is (.l (List.map eI onward1)), .is (.v (eI a0)), .is (.v ((eLs eI) (cutL left0 (some (imin (left0.length : Int) a1)) none))), .is (.v (eI (imin (left0.length : Int) a1))), .is (.v ((eLs eI) (cutL left0 none (some (imin (left0.length : Int) a1))))), .nw, .nw, .nw, .nw, .nw, .nw]) (c1 := fun k0 => fun onward1 => [.is (.p (List.map eI bag9)), .is (.v (eI most0)), .is (.v (eI ((1 : Int) + r0))), .is (.l (List.map eI order2)), .nw, .is (.l (List.map eI onward1)), .is (.v (eI a0)), .is (.v ((eLs eI) (cutL left0 (some (imin (left0.length : Int) a1)) none))), .is (.v (eI (imin (left0.length : Int) a1))), .is (.v ((eLs eI) (cutL left0 none (some (imin (left0.length : Int) a1))))), .is (.v (eI k0)), .nw, .nw, .nw, .nw, .nw]) (s0 := onward0) (sub_cons wk_is (sub_cons wk_is (sub_cons wk_is (sub_cons wk_is (sub_cons wk_nw (sub_cons wk_is (sub_cons wk_is (sub_cons wk_is (sub_cons wk_is (sub_cons wk_is (sub_cons wk_nw (sub_cons wk_nw (sub_cons wk_nw (sub_cons wk_nw (sub_cons wk_nw (sub_cons wk_nw sub_nil)))))))))))))))) (fun _ onward1 => gs_N) (fun k0 onward1 => (rs_last (rs_setO (rk_ixN (rk_pure (d := (eI k0)) (ep_var (d := (eI k0)) rfl)  (rk_ixAt (d := ((eLs eI) (cutL left0 none (some (imin (left0.length : Int) a1))))) (rk_ixL (f := eI) (xs := (cutL left0 none (some (imin (left0.length : Int) a1)))) fun a2 => (rk_kn (rk_ixN (rk_pure (d := (eI (k0 - (1 : Int)))) (ep_bin (ep_var (d := (eI k0)) rfl) ep_C rfl)  (rk_ixAt (d := ((eLs eI) (cutL left0 none (some (imin (left0.length : Int) a1))))) (rk_ixL (f := eI) (xs := (cutL left0 none (some (imin (left0.length : Int) a1)))) fun a3 => (rk_set (fe := eI) (a := a2) (xs := onward1) fun onward2 => (rs_nx fun _ he => he.sub (sub_cons wk_is (sub_cons wk_is (sub_cons wk_is (sub_cons wk_is (sub_cons wk_nw (sub_cons wk_is (sub_cons wk_is (sub_cons wk_is (sub_cons wk_is (sub_cons wk_is (sub_cons wk_vnw (sub_cons wk_nw (sub_cons wk_nw (sub_cons wk_nw (sub_cons wk_nw (sub_cons wk_nw sub_nil))))))))))))))))))) rfl))))) rfl)))))) (fun onward3 => (rs_nx fun _ he => he.sub (sub_cons wk_is (sub_cons wk_is (sub_cons wk_is (sub_cons wk_is (sub_cons wk_nw (sub_cons wk_is (sub_cons wk_is (sub_cons wk_is (sub_cons wk_vnw (sub_cons wk_vnw (sub_cons wk_nw (sub_cons wk_nw (sub_cons wk_nw (sub_cons wk_nw (sub_cons wk_nw (sub_cons wk_nw sub_nil))))))))))))))))))))))))))))))))) (fun _ _ _ _ => trivial)))))))))))) (fun _ _ _ _ => trivial)))))))))))))))))))))) (fun ⟨bag10, onward4, left1⟩ => (rs_asgL (rk_rep (f := (eO eI)) (a := none) (n := ((1 : Int) + r0)) (ep_lst (ep_acons ep_C ep_anil)) (ep_var (d := (eI ((1 : Int) + r0))) rfl) fun xs3 => (rk_asgL (rs_asg (rk_bin (rk_pure (d := ((eLs eI) [(2 : Int), (5 : Int), (99 : Int)])) (ep_elst (ep_lst (ep_acons ep_C (ep_acons ep_C (ep_acons ep_C ep_anil)))))  (rk_callN (rk_lend (rk_rcons (rk_pure (d := (eI (3 : Int))) ep_C  (rk_rnil (rk_lendK (rk_call (rf__law_take bag10 (3 : Int)) (fun ⟨r6, bag11⟩ => (rk_ixL (f := eI) (xs := [(2 : Int), (5 : Int), (99 : Int)]) fun a4 => (rk_asgN (rs_asgL (rk_lrng (j := ((1 : Int) + r0)) (ep_var (d := (eI ((1 : Int) + r0))) rfl) fun xs4 => (rk_asgL (rs_while (c0 := (P3 fun bag12 mates0 waiting0 => [.is (.p (List.map eI bag12)), .is (.v (eI most0)), .is (.v (eI ((1 : Int) + r0))), .is (.l (List.map eI order2)), .nw, .is (.l (List.map eI onward4)), .is (.v (eI a0)), .is (.v ((eLs eI) left1)), .nw, .nw, .nw, .is (.l (List.map (eO eI) mates0)), .is (.v (eI a4)), .is (.l (List.map eI waiting0)), .nw, .nw])) (s0 := (bag11, xs3, xs4)) (sub_cons wk_is (sub_cons wk_is (sub_cons wk_is (sub_cons wk_is (sub_cons wk_nw (sub_cons wk_is (sub_cons wk_is (sub_cons wk_is (sub_cons wk_nw (sub_cons wk_nw (sub_cons wk_nw (sub_cons wk_is (sub_cons wk_is (sub_cons wk_is (sub_cons wk_nw (sub_cons wk_nw sub_nil)))))))))))))))) (fun ⟨bag12, mates0, waiting0⟩ => rk_fnrt (v := eB) (c' := fun _ => [.is (.p (List.map eI bag12)), .is (.v (eI most0)), .is (.v (eI ((1 : Int) + r0))), .is (.l (List.map eI order2)), .nw, .is (.l (List.map eI onward4)), .is (.v (eI a0)), .is (.v ((eLs eI) left1)), .nw, .nw, .nw, .is (.l (List.map (eO eI) mates0)), .is (.v (eI a4)), .is (.l (List.map eI waiting0)), .nw, .nw]) (rk_pure (d := (decide ((1 : Int) < (waiting0.length : Int)))) (ep_tst (ep_bin (ep_lenO (f := eI) (xs := waiting0) rfl) ep_C rfl)) (rk_retT fun _ he => ⟨rfl, he.sub (sub_cons wk_is (sub_cons wk_is (sub_cons wk_is (sub_cons wk_is (sub_cons wk_nw (sub_cons wk_is (sub_cons wk_is (sub_cons wk_is (sub_cons wk_nw (sub_cons wk_nw (sub_cons wk_nw (sub_cons wk_is (sub_cons wk_is (sub_cons wk_is (sub_cons wk_nw (sub_cons wk_nw sub_nil))))))))))))))))⟩))) (fun ⟨bag12, mates0, waiting0⟩ => (rs_asg (rk_mo (xs := List.map eI waiting0) (rk_acons (rk_callN (rk_lend (rk_rcons (rk_pure (d := (eI (waiting0.length : Int))) (ep_lenO (f := eI) (xs := waiting0) rfl)  (rk_rnil (rk_lendK (rk_call (rf__law_take bag12 (waiting0.length : Int)) (fun ⟨r7, bag13⟩ => (rk_anil (rk_popAt (fe := eI) (xs := waiting0) fun ⟨a5, waiting1⟩ => (rk_asgN (rs_asg (rk_mo (xs := List.map eI waiting1) (rk_acons (rk_callN (rk_lend (rk_rcons (rk_pure (d := (eI (waiting1.length : Int))) (ep_lenO (f := eI) (xs := waiting1) rfl)  (rk_rnil (rk_lendK (rk_call (rf__law_take bag13 (waiting1.length : Int)) (fun ⟨r8, bag14⟩ => (rk_anil (rk_popAt (fe := eI) (xs := waiting1) fun ⟨a6, waiting2⟩ => (rk_asgN (rs_last (rs_if (rk_tst (rk_bin (rk_callN (rk_lend (rk_rcons (rk_pure (d := (eI a4)) (ep_var (d := (eI a4)) rfl)  (rk_rnil (rk_lendK (rk_call (rf__law_take bag14 a4) (fun ⟨r9, bag15⟩ => (rk_pure (d := (eI (0 : Int))) ep_C  (rk_put rfl (rk_put rfl (rk_ifF (rs_assoc (rs_setO (rk_pure (d := ((eO eI) (some a6))) (ep_var (d := (eI a6)) rfl)  (rk_kn (rk_pure (d := (eI a5)) (ep_var (d := (eI a5)) rfl)  (rk_set (fe := (eO eI)) (a := (some a6)) (xs := mates0) fun mates1 => (rs_setO (rk_pure (d := ((eO eI) (some a5))) (ep_var (d := (eI a5)) rfl)  (rk_kn (rk_pure (d := (eI a6)) (ep_var (d := (eI a6)) rfl)  (rk_set (fe := (eO eI)) (a := (some a5)) (xs := mates1) fun mates2 => (rs_nx fun _ he => he.sub (sub_cons wk_is (sub_cons wk_is (sub_cons wk_is (sub_cons wk_is (sub_cons wk_nw (sub_cons wk_is (sub_cons wk_is (sub_cons wk_is (sub_cons wk_nw (sub_cons wk_nw (sub_cons wk_nw (sub_cons wk_is (sub_cons wk_is (sub_cons wk_is (sub_cons wk_vnw (sub_cons wk_vnw sub_nil)))))))))))))))))))))))))))) (rs_nxs (rs_nx fun _ he => he.sub (sub_cons wk_is (sub_cons wk_is (sub_cons wk_is (sub_cons wk_is (sub_cons wk_nw (sub_cons wk_is (sub_cons wk_is (sub_cons wk_is (sub_cons wk_nw (sub_cons wk_nw (sub_cons wk_nw (sub_cons wk_is (sub_cons wk_is (sub_cons wk_is (sub_cons wk_vnw (sub_cons wk_vnw sub_nil))))))))))))))))))))))) (fun _ _ _ _ => trivial)))))))))))))))) (fun _ _ _ _ => trivial))))))))))))))) (fun _ _ _ _ => trivial)))))))))))) (fun ⟨bag16, mates3, waiting3⟩ => (rs_last (rs_ret (rk_pure (d := ((eP2 (eTs eI) (eTs (eO eI))) (onward4, mates3))) (ep_tup (ep_acons (ep_tupO (xs := List.map eI onward4) rfl) (ep_acons (ep_tupO (xs := List.map (eO eI) mates3) rfl) ep_anil)))  (rk_ret (r := ((onward4, mates3), bag16)) fun _ he => ⟨rfl, outs_of rfl rfl he⟩)))))))))))) (fun _ _ _ _ => trivial))))))))))))))))))))))) (fun _ _ _ _ => trivial)))))))))))))))) (fun _ _ _ _ => trivial)))))))))))))))))))))))))))) (fun _ _ _ _ => trivial)))))))))))
def n__law_broken_L (onward0 : (List Int)) (mates0 : (List (Option Int))) : N (Option Int) := Ct.fn (
 (rngN (onward0.length : Int)).ct fun xs0 =>
 (forC (fun half0 => fun (_ : Unit) =>
 ((Ct.fn ((idx onward0 half0).ct fun a0 =>
 (if (!((decide ((0 : Int) ≤ a0)) && (decide (a0 < (onward0.length : Int))))) = true then
 .rt true else
 (idx onward0 half0).ct fun a1 =>
 .rt (memB a1 (cutL onward0 none (some half0)))) : Ct Unit Unit Bool)).ct fun b0 =>
 (if b0 = true then
 .rt (some half0) else
 (idx mates0 half0).ct fun a2 =>
 (Ct.fn ((optC a2
 (.rt false)
 (fun mate1 => (Ct.fn ((if (!((decide ((0 : Int) ≤ mate1)) && (decide (mate1 < (onward0.length : Int))))) = true then
 .rt true else
 (if (decide (mate1 = half0)) = true then
 .rt true else
 (idx mates0 mate1).ct fun a3 =>
 .rt (!(decide (a3 = (some half0)))))) : Ct Unit Unit Bool)).ct fun b1 =>
 .rt b1)) : Ct Unit Unit Bool)).ct fun b2 =>
 (if b2 = true then
 .rt (some half0) else
 .nx ())) : Ct Unit Unit _)) xs0 ()).sq fun (_ : Unit) =>
 .rt none : Ct Unit Unit (Option Int))
theorem rf__law_broken_L (onward0 : (List Int)) (mates0 : (List (Option Int))) : RF (n__law_broken_L onward0 mates0) (f__law_broken [.v ((eLs eI) onward0), .v ((eLs (eO eI)) mates0)]) (fun r => ((eO eI) r)) (fun r => [.no, .no]) := rf_of (n := 5) (b := b__law_broken) (c0 := [.is (.v ((eLs eI) onward0)), .is (.v ((eLs (eO eI)) mates0)), .nw, .nw, .nw])
 (rs_asg (rk_pure (d := (eI (onward0.length : Int))) (ep_cb (ep_acons (ep_var (d := ((eLs eI) onward0)) rfl) ep_anil) (len_L (f := eI) onward0))  (rk_asgN (rs_forK (rk_rng (j := (onward0.length : Int)) (ep_acons (ep_var (d := (eI (onward0.length : Int))) rfl) ep_anil) fun xs0 => (rs_for (fe := eI) (c0 := fun (_ : Unit) => [.is (.v ((eLs eI) onward0)), .is (.v ((eLs (eO eI)) mates0)), .is (.v (eI (onward0.length : Int))), .nw, .nw]) (c1 := fun half0 => fun (_ : Unit) => [.is (.v ((eLs eI) onward0)), .is (.v ((eLs (eO eI)) mates0)), .is (.v (eI (onward0.length : Int))), .is (.v (eI half0)), .nw]) (s0 := ()) (sub_cons wk_is (sub_cons wk_is (sub_cons wk_is (sub_cons wk_nw (sub_cons wk_nw sub_nil))))) (fun _ _ => gs_N) (fun half0 _ => (rs_if (rk_unitT (v := fun b0 => b0) (c' := fun b0 => [.is (.v ((eLs eI) onward0)), .is (.v ((eLs (eO eI)) mates0)), .is (.v (eI (onward0.length : Int))), .is (.v (eI half0)), .nw]) (rk_orT (rk_notT (rk_tst (rk_chain (rk_pure (d := (eI (0 : Int))) ep_C  (rk_ixN (rk_pure (d := (eI half0)) (ep_var (d := (eI half0)) rfl)  (rk_ixAt (d := ((eLs eI) onward0)) (rk_ixL (f := eI) (xs := onward0) fun a0 => (rk_chainP (ep_var (d := (eI (onward0.length : Int))) rfl) rfl rfl (rk_put rfl (rk_ifF (rk_retT fun _ he => ⟨rfl, he.sub (sub_cons wk_is (sub_cons wk_is (sub_cons wk_is (sub_cons wk_is (sub_cons wk_nw sub_nil)))))⟩) (rk_tst (rk_bin (rk_ixN (rk_pure (d := (eI half0)) (ep_var (d := (eI half0)) rfl)  (rk_ixAt (d := ((eLs eI) onward0)) (rk_ixL (f := eI) (xs := onward0) fun a1 => (rk_pure (d := ((eLs eI) (cutL onward0 none (some half0)))) (ep_sl (ep_var (d := ((eLs eI) onward0)) rfl) ep_ptN (ep_ptS (ep_var (d := (eI half0)) rfl)) (sl_L (f := eI) onward0 none (some half0)))  (rk_put (in_lst (f := eI) a1 (cutL onward0 none (some half0))) (rk_put rfl (rk_retT fun _ he => ⟨rfl, he.sub (sub_cons wk_is (sub_cons wk_is (sub_cons wk_is (sub_cons wk_is (sub_cons wk_nw sub_nil)))))⟩))))) rfl))))))))) rfl)))))))) (fun b0 => (rk_ifF (rs_ret (rk_pure (d := ((eO eI) (some half0))) (ep_var (d := (eI half0)) rfl)  (rk_ret (r := (some half0)) fun _ he => ⟨rfl, outs_of rfl rfl he⟩))) (rs_nxs (rs_asg (rk_ixN (rk_pure (d := (eI half0)) (ep_var (d := (eI half0)) rfl)  (rk_ixAt (d := ((eLs (eO eI)) mates0)) (rk_ixL (f := (eO eI)) (xs := mates0) fun a2 => (rk_asgN (rs_last (rs_if (rk_unitT (v := fun b2 => b2) (c' := fun b2 => [.is (.v ((eLs eI) onward0)), .is (.v ((eLs (eO eI)) mates0)), .is (.v (eI (onward0.length : Int))), .is (.v (eI half0)), .is (.v ((eO eI) a2))]) (by apply rs_opt (x := a2); exact (rk_andT (rk_pure (d := false) (ep_tst (ep_bin (ep_var (d := ((eO eI) none)) rfl) ep_C (isnt_none (f := eI) none))) (rk_retT fun _ he => ⟨rfl, he.sub (sub_cons wk_is (sub_cons wk_is (sub_cons wk_is (sub_cons wk_is (sub_cons wk_is sub_nil)))))⟩))); exact (fun mate1 => rk_andT (rk_pure (d := true) (ep_tst (ep_bin (ep_var (d := (eI mate1)) rfl) ep_C rfl)) (rk_unitT (v := fun b1 => b1) (c' := fun b1 => [.is (.v ((eLs eI) onward0)), .is (.v ((eLs (eO eI)) mates0)), .is (.v (eI (onward0.length : Int))), .is (.v (eI half0)), .is (.v (eI mate1))]) (rk_orT (rk_pure (d := (!((decide ((0 : Int) ≤ mate1)) && (decide (mate1 < (onward0.length : Int)))))) (ep_notT (ep_tst (ep_chain ep_C (ep_var (d := (eI mate1)) rfl) (ep_var (d := (eI (onward0.length : Int))) rfl) rfl rfl))) (rk_ifF (rk_retT fun _ he => ⟨rfl, he.sub (sub_cons wk_is (sub_cons wk_is (sub_cons wk_is (sub_cons wk_is (sub_cons wk_is sub_nil)))))⟩) (rk_orT (rk_pure (d := (decide (mate1 = half0))) (ep_tst (ep_bin (ep_var (d := (eI mate1)) rfl) (ep_var (d := (eI half0)) rfl) (eq_typed (f := eI) mate1 half0))) (rk_ifF (rk_retT fun _ he => ⟨rfl, he.sub (sub_cons wk_is (sub_cons wk_is (sub_cons wk_is (sub_cons wk_is (sub_cons wk_is sub_nil)))))⟩) (rk_tst (rk_bin (rk_ixN (rk_pure (d := (eI mate1)) (ep_var (d := (eI mate1)) rfl)  (rk_ixAt (d := ((eLs (eO eI)) mates0)) (rk_ixL (f := (eO eI)) (xs := mates0) fun a3 => (rk_pure (d := (eI half0)) (ep_var (d := (eI half0)) rfl)  (rk_put (ne_typed (f := (eO eI)) a3 (some half0)) (rk_put rfl (rk_retT fun _ he => ⟨rfl, he.sub (sub_cons wk_is (sub_cons wk_is (sub_cons wk_is (sub_cons wk_is (sub_cons wk_is sub_nil)))))⟩))))) rfl))))))))))) (fun b1 => (rk_retT fun _ he => ⟨rfl, he.sub (sub_cons wk_is (sub_cons wk_is (sub_cons wk_is (sub_cons wk_is (sub_cons wk_is sub_nil)))))⟩)))))) (fun b2 => (rk_ifF (rs_ret (rk_pure (d := ((eO eI) (some half0))) (ep_var (d := (eI half0)) rfl)  (rk_ret (r := (some half0)) fun _ he => ⟨rfl, outs_of rfl rfl he⟩))) (rs_nxs (rs_nx fun _ he => he.sub (sub_cons wk_is (sub_cons wk_is (sub_cons wk_is (sub_cons wk_vnw (sub_cons wk_vnw sub_nil)))))))))))))) rfl)))))))))) (fun _ => (rs_last (rs_ret (rk_pure (d := ((eO eI) none)) ep_C  (rk_ret (r := none) fun _ he => ⟨rfl, outs_of rfl rfl he⟩)))))))))))
def n__law_broken_T (onward0 : (List Int)) (mates0 : (List (Option Int))) : N (Option Int) := Ct.fn (
 (rngN (onward0.length : Int)).ct fun xs0 =>
 (forC (fun half0 => fun (_ : Unit) =>
 ((Ct.fn ((idx onward0 half0).ct fun a0 =>
 (if (!((decide ((0 : Int) ≤ a0)) && (decide (a0 < (onward0.length : Int))))) = true then
 .rt true else
 (idx onward0 half0).ct fun a1 =>
 .rt (memB a1 (cutL onward0 none (some half0)))) : Ct Unit Unit Bool)).ct fun b0 =>
 (if b0 = true then
 .rt (some half0) else
 (idx mates0 half0).ct fun a2 =>
 (Ct.fn ((optC a2
 (.rt false)
 (fun mate1 => (Ct.fn ((if (!((decide ((0 : Int) ≤ mate1)) && (decide (mate1 < (onward0.length : Int))))) = true then
 .rt true else
 (if (decide (mate1 = half0)) = true then
 .rt true else
 (idx mates0 mate1).ct fun a3 =>
 .rt (!(decide (a3 = (some half0)))))) : Ct Unit Unit Bool)).ct fun b1 =>
 .rt b1)) : Ct Unit Unit Bool)).ct fun b2 =>
 (if b2 = true then
 .rt (some half0) else
 .nx ())) : Ct Unit Unit _)) xs0 ()).sq fun (_ : Unit) =>
 .rt none : Ct Unit Unit (Option Int))
theorem rf__law_broken_T (onward0 : (List Int)) (mates0 : (List (Option Int))) : RF (n__law_broken_T onward0 mates0) (f__law_broken [.v ((eTs eI) onward0), .v ((eTs (eO eI)) mates0)]) (fun r => ((eO eI) r)) (fun r => [.no, .no]) := rf_of (n := 5) (b := b__law_broken) (c0 := [.is (.v ((eTs eI) onward0)), .is (.v ((eTs (eO eI)) mates0)), .nw, .nw, .nw])
 (rs_asg (rk_pure (d := (eI (onward0.length : Int))) (ep_cb (ep_acons (ep_var (d := ((eTs eI) onward0)) rfl) ep_anil) (len_T (f := eI) onward0))  (rk_asgN (rs_forK (rk_rng (j := (onward0.length : Int)) (ep_acons (ep_var (d := (eI (onward0.length : Int))) rfl) ep_anil) fun xs0 => (rs_for (fe := eI) (c0 := fun (_ : Unit) => [.is (.v ((eTs eI) onward0)), .is (.v ((eTs (eO eI)) mates0)), .is (.v (eI (onward0.length : Int))), .nw, .nw]) (c1 := fun half0 => fun (_ : Unit) => [.is (.v ((eTs eI) onward0)), .is (.v ((eTs (eO eI)) mates0)), .is (.v (eI (onward0.length : Int))), .is (.v (eI half0)), .nw]) (s0 := ()) (sub_cons wk_is (sub_cons wk_is (sub_cons wk_is (sub_cons wk_nw (sub_cons wk_nw sub_nil))))) (fun _ _ => gs_N) (fun half0 _ => (rs_if (rk_unitT (v := fun b0 => b0) (c' := fun b0 => [.is (.v ((eTs eI) onward0)), .is (.v ((eTs (eO eI)) mates0)), .is (.v (eI (onward0.length : Int))), .is (.v (eI half0)), .nw]) (rk_orT (rk_notT (rk_tst (rk_chain (rk_pure (d := (eI (0 : Int))) ep_C  (rk_ixN (rk_pure (d := (eI half0)) (ep_var (d := (eI half0)) rfl)  (rk_ixAt (d := ((eTs eI) onward0)) (rk_ixT (f := eI) (xs := onward0) fun a0 => (rk_chainP (ep_var (d := (eI (onward0.length : Int))) rfl) rfl rfl (rk_put rfl (rk_ifF (rk_retT fun _ he => ⟨rfl, he.sub (sub_cons wk_is (sub_cons wk_is (sub_cons wk_is (sub_cons wk_is (sub_cons wk_nw sub_nil)))))⟩) (rk_tst (rk_bin (rk_ixN (rk_pure (d := (eI half0)) (ep_var (d := (eI half0)) rfl)  (rk_ixAt (d := ((eTs eI) onward0)) (rk_ixT (f := eI) (xs := onward0) fun a1 => (rk_pure (d := ((eTs eI) (cutL onward0 none (some half0)))) (ep_sl (ep_var (d := ((eTs eI) onward0)) rfl) ep_ptN (ep_ptS (ep_var (d := (eI half0)) rfl)) (sl_T (f := eI) onward0 none (some half0)))  (rk_put (in_tup (f := eI) a1 (cutL onward0 none (some half0))) (rk_put rfl (rk_retT fun _ he => ⟨rfl, he.sub (sub_cons wk_is (sub_cons wk_is (sub_cons wk_is (sub_cons wk_is (sub_cons wk_nw sub_nil)))))⟩))))) rfl))))))))) rfl)))))))) (fun b0 => (rk_ifF (rs_ret (rk_pure (d := ((eO eI) (some half0))) (ep_var (d := (eI half0)) rfl)  (rk_ret (r := (some half0)) fun _ he => ⟨rfl, outs_of rfl rfl he⟩))) (rs_nxs (rs_asg (rk_ixN (rk_pure (d := (eI half0)) (ep_var (d := (eI half0)) rfl)  (rk_ixAt (d := ((eTs (eO eI)) mates0)) (rk_ixT (f := (eO eI)) (xs := mates0) fun a2 => (rk_asgN (rs_last (rs_if (rk_unitT (v := fun b2 => b2) (c' := fun b2 => [.is (.v ((eTs eI) onward0)), .is (.v ((eTs (eO eI)) mates0)), .is (.v (eI (onward0.length : Int))), .is (.v (eI half0)), .is (.v ((eO eI) a2))]) (by apply rs_opt (x := a2); exact (rk_andT (rk_pure (d := false) (ep_tst (ep_bin (ep_var (d := ((eO eI) none)) rfl) ep_C (isnt_none (f := eI) none))) (rk_retT fun _ he => ⟨rfl, he.sub (sub_cons wk_is (sub_cons wk_is (sub_cons wk_is (sub_cons wk_is (sub_cons wk_is sub_nil)))))⟩))); exact (fun mate1 => rk_andT (rk_pure (d := true) (ep_tst (ep_bin (ep_var (d := (eI mate1)) rfl) ep_C rfl)) (rk_unitT (v := fun b1 => b1) (c' := fun b1 => [.is (.v ((eTs eI) onward0)), .is (.v ((eTs (eO eI)) mates0)), .is (.v (eI (onward0.length : Int))), .is (.v (eI half0)), .is (.v (eI mate1))]) (rk_orT (rk_pure (d := (!((decide ((0 : Int) ≤ mate1)) && (decide (mate1 < (onward0.length : Int)))))) (ep_notT (ep_tst (ep_chain ep_C (ep_var (d := (eI mate1)) rfl) (ep_var (d := (eI (onward0.length : Int))) rfl) rfl rfl))) (rk_ifF (rk_retT fun _ he => ⟨rfl, he.sub (sub_cons wk_is (sub_cons wk_is (sub_cons wk_is (sub_cons wk_is (sub_cons wk_is sub_nil)))))⟩) (rk_orT (rk_pure (d := (decide (mate1 = half0))) (ep_tst (ep_bin (ep_var (d := (eI mate1)) rfl) (ep_var (d := (eI half0)) rfl) (eq_typed (f := eI) mate1 half0))) (rk_ifF (rk_retT fun _ he => ⟨rfl, he.sub (sub_cons wk_is (sub_cons wk_is (sub_cons wk_is (sub_cons wk_is (sub_cons wk_is sub_nil)))))⟩) (rk_tst (rk_bin (rk_ixN (rk_pure (d := (eI mate1)) (ep_var (d := (eI mate1)) rfl)  (rk_ixAt (d := ((eTs (eO eI)) mates0)) (rk_ixT (f := (eO eI)) (xs := mates0) fun a3 => (rk_pure (d := (eI half0)) (ep_var (d := (eI half0)) rfl)  (rk_put (ne_typed (f := (eO eI)) a3 (some half0)) (rk_put rfl (rk_retT fun _ he => ⟨rfl, he.sub (sub_cons wk_is (sub_cons wk_is (sub_cons wk_is (sub_cons wk_is (sub_cons wk_is sub_nil)))))⟩))))) rfl))))))))))) (fun b1 => (rk_retT fun _ he => ⟨rfl, he.sub (sub_cons wk_is (sub_cons wk_is (sub_cons wk_is (sub_cons wk_is (sub_cons wk_is sub_nil)))))⟩)))))) (fun b2 => (rk_ifF (rs_ret (rk_pure (d := ((eO eI) (some half0))) (ep_var (d := (eI half0)) rfl)  (rk_ret (r := (some half0)) fun _ he => ⟨rfl, outs_of rfl rfl he⟩))) (rs_nxs (rs_nx fun _ he => he.sub (sub_cons wk_is (sub_cons wk_is (sub_cons wk_is (sub_cons wk_vnw (sub_cons wk_vnw sub_nil)))))))))))))) rfl)))))))))) (fun _ => (rs_last (rs_ret (rk_pure (d := ((eO eI) none)) ep_C  (rk_ret (r := none) fun _ he => ⟨rfl, outs_of rfl rfl he⟩)))))))))))
def n_look_at_half (skin0 : ((List Int) × (List (Option Int)))) (half0 : Int) : N Unit := Ct.fp (
 (if ((decide (half0 < (0 : Int))) || (decide ((skin0.1.length : Int) ≤ half0))) = true then
 .ex ⟨"NoHalf", none⟩ else
 .nx ()) : Ct Unit Unit Unit)
theorem rf_look_at_half (skin0 : ((List Int) × (List (Option Int)))) (half0 : Int) : RF (n_look_at_half skin0 half0) (f_look_at_half [.v ((eP2 (eTs eI) (eTs (eO eI))) skin0), .v (eI half0)]) (fun _ => PyData.none) (fun r => [.no, .no]) := rp_of (n := 2) (b := b_look_at_half) (c0 := [.is (.v ((eP2 (eTs eI) (eTs (eO eI))) skin0)), .is (.v (eI half0))])
 (rs_last (rs_if (rk_pure (d := ((decide (half0 < (0 : Int))) || (decide ((skin0.1.length : Int) ≤ half0)))) (ep_orT (ep_tst (ep_bin (ep_var (d := (eI half0)) rfl) ep_C rfl)) (ep_tst (ep_bin (ep_var (d := (eI half0)) rfl) (ep_cb (ep_acons (ep_ixN (d := ((eP2 (eTs eI) (eTs (eO eI))) skin0)) ep_C rfl rfl) ep_anil) (len_T (f := eI) skin0.1)) rfl))) (rk_ifF (rs_raise fun _ _ => trivial) (rs_nxs (rs_nx fun _ he => outs_of rfl rfl he))))))
def n_ahead_of (skin0 : ((List Int) × (List (Option Int)))) (half0 : Int) : N Int := Ct.fn (
 (n_look_at_half skin0 half0).ct fun u0 =>
 (indexN skin0.1 half0).ct fun i0 =>
 .rt i0 : Ct Unit Unit Int)
theorem rf_ahead_of (skin0 : ((List Int) × (List (Option Int)))) (half0 : Int) : RF (n_ahead_of skin0 half0) (f_ahead_of [.v ((eP2 (eTs eI) (eTs (eO eI))) skin0), .v (eI half0)]) (fun r => (eI r)) (fun r => [.no, .no]) := rf_of (n := 2) (b := b_ahead_of) (c0 := [.is (.v ((eP2 (eTs eI) (eTs (eO eI))) skin0)), .is (.v (eI half0))])
 (rs_drop (rk_callN (rk_rcons (rk_pure (d := ((eP2 (eTs eI) (eTs (eO eI))) skin0)) (ep_var (d := ((eP2 (eTs eI) (eTs (eO eI))) skin0)) rfl)  (rk_rcons (rk_pure (d := (eI half0)) (ep_var (d := (eI half0)) rfl)  (rk_rnil (rk_call (rf_look_at_half skin0 half0) (fun u0 => (rs_last (rs_ret (rk_index (rk_pure (d := ((eTs eI) skin0.1)) (ep_ixN (d := ((eP2 (eTs eI) (eTs (eO eI))) skin0)) ep_C rfl rfl)  (rk_idxT (rk_pure (d := (eI half0)) (ep_var (d := (eI half0)) rfl)  (rk_idxP (xs := skin0.1) (i := half0) fun i0 => (rk_ret (r := i0) fun _ he => ⟨rfl, outs_of rfl rfl he⟩))))))))) (fun _ _ _ _ => trivial)))))))))
def n_left_of (skin0 : ((List Int) × (List (Option Int)))) (half0 : Int) : N (Option Int) := Ct.fn (
 (n_ahead_of skin0 half0).ct fun r0 =>
 (idx skin0.2 r0).ct fun a0 =>
 .rt a0 : Ct Unit Unit (Option Int))
theorem rf_left_of (skin0 : ((List Int) × (List (Option Int)))) (half0 : Int) : RF (n_left_of skin0 half0) (f_left_of [.v ((eP2 (eTs eI) (eTs (eO eI))) skin0), .v (eI half0)]) (fun r => ((eO eI) r)) (fun r => [.no, .no]) := rf_of (n := 2) (b := b_left_of) (c0 := [.is (.v ((eP2 (eTs eI) (eTs (eO eI))) skin0)), .is (.v (eI half0))])
 (rs_last (rs_ret (rk_bin (rk_pure (d := ((eTs (eO eI)) skin0.2)) (ep_ixN (d := ((eP2 (eTs eI) (eTs (eO eI))) skin0)) ep_C rfl rfl)  (rk_callN (rk_rcons (rk_pure (d := ((eP2 (eTs eI) (eTs (eO eI))) skin0)) (ep_var (d := ((eP2 (eTs eI) (eTs (eO eI))) skin0)) rfl)  (rk_rcons (rk_pure (d := (eI half0)) (ep_var (d := (eI half0)) rfl)  (rk_rnil (rk_call (rf_ahead_of skin0 half0) (fun r0 => (rk_ixT (f := (eO eI)) (xs := skin0.2) fun a0 => (rk_ret (r := a0) fun _ he => ⟨rfl, outs_of rfl rfl he⟩))) (fun _ _ _ _ => trivial))))))))))))
def n_right_of (skin0 : ((List Int) × (List (Option Int)))) (half0 : Int) : N (Option Int) := Ct.fn (
 (n_look_at_half skin0 half0).ct fun u0 =>
 (idx skin0.2 half0).ct fun a0 =>
 (optC a0
 (.rt none)
 (fun mate0 => (idx skin0.1 mate0).ct fun a1 =>
 .rt (some a1))) : Ct Unit Unit (Option Int))
theorem rf_right_of (skin0 : ((List Int) × (List (Option Int)))) (half0 : Int) : RF (n_right_of skin0 half0) (f_right_of [.v ((eP2 (eTs eI) (eTs (eO eI))) skin0), .v (eI half0)]) (fun r => ((eO eI) r)) (fun r => [.no, .no]) := rf_of (n := 3) (b := b_right_of) (c0 := [.is (.v ((eP2 (eTs eI) (eTs (eO eI))) skin0)), .is (.v (eI half0)), .nw])
 (rs_drop (rk_callN (rk_rcons (rk_pure (d := ((eP2 (eTs eI) (eTs (eO eI))) skin0)) (ep_var (d := ((eP2 (eTs eI) (eTs (eO eI))) skin0)) rfl)  (rk_rcons (rk_pure (d := (eI half0)) (ep_var (d := (eI half0)) rfl)  (rk_rnil (rk_call (rf_look_at_half skin0 half0) (fun u0 => (rs_asg (rk_bin (rk_pure (d := ((eTs (eO eI)) skin0.2)) (ep_ixN (d := ((eP2 (eTs eI) (eTs (eO eI))) skin0)) ep_C rfl rfl)  (rk_pure (d := (eI half0)) (ep_var (d := (eI half0)) rfl)  (rk_ixT (f := (eO eI)) (xs := skin0.2) fun a0 => (rk_asgN (rs_if (by apply rs_opt (x := a0); exact (rk_pure (d := true) (ep_tst (ep_bin (ep_var (d := ((eO eI) none)) rfl) ep_C (is_none (f := eI) none))) (rs_ret (rk_pure (d := ((eO eI) none)) ep_C  (rk_ret (r := none) fun _ he => ⟨rfl, outs_of rfl rfl he⟩)))); exact (fun mate0 => rk_pure (d := false) (ep_tst (ep_bin (ep_var (d := (eI mate0)) rfl) ep_C rfl)) (rs_nxs (rs_last (rs_ret (rk_bin (rk_pure (d := ((eTs eI) skin0.1)) (ep_ixN (d := ((eP2 (eTs eI) (eTs (eO eI))) skin0)) ep_C rfl rfl)  (rk_pure (d := (eI mate0)) (ep_var (d := (eI mate0)) rfl)  (rk_ixT (f := eI) (xs := skin0.1) fun a1 => (rk_ret (r := (some a1)) fun _ he => ⟨rfl, outs_of rfl rfl he⟩)))))))))))))))))) (fun _ _ _ _ => trivial)))))))))
def n_patch_of (skin0 : ((List Int) × (List (Option Int)))) (half0 : Int) : N (List Int) := Ct.fn (
 (n_look_at_half skin0 half0).ct fun u0 =>
 (idx skin0.1 half0).ct fun a0 =>
 (whileC ((P2 fun found0 at0 => Ct.fn (.rt (!(decide (at0 = half0))) : Ct Unit Unit Bool))) ((P2 fun found0 at0 =>
 ((appN found0 at0).ct fun found1 =>
 (idx skin0.1 at0).ct fun a1 =>
 .nx (found1, a1) : Ct ((List Int) × Int) ((List Int) × Int) _))) FUEL ([half0], a0)).sq (P2 fun found2 at1 =>
 .rt found2) : Ct Unit Unit (List Int))
theorem rf_patch_of (skin0 : ((List Int) × (List (Option Int)))) (half0 : Int) : RF (n_patch_of skin0 half0) (f_patch_of [.v ((eP2 (eTs eI) (eTs (eO eI))) skin0), .v (eI half0)]) (fun r => ((eTs eI) r)) (fun r => [.no, .no]) := rf_of (n := 4) (b := b_patch_of) (c0 := [.is (.v ((eP2 (eTs eI) (eTs (eO eI))) skin0)), .is (.v (eI half0)), .nw, .nw])
 (rs_drop (rk_callN (rk_rcons (rk_pure (d := ((eP2 (eTs eI) (eTs (eO eI))) skin0)) (ep_var (d := ((eP2 (eTs eI) (eTs (eO eI))) skin0)) rfl)  (rk_rcons (rk_pure (d := (eI half0)) (ep_var (d := (eI half0)) rfl)  (rk_rnil (rk_call (rf_look_at_half skin0 half0) (fun u0 => (rs_asgL (rk_pure (ep_lst (ep_acons (ep_var (d := (eI half0)) rfl) ep_anil)) (rk_asgL (rs_asg (rk_bin (rk_pure (d := ((eTs eI) skin0.1)) (ep_ixN (d := ((eP2 (eTs eI) (eTs (eO eI))) skin0)) ep_C rfl rfl)  (rk_pure (d := (eI half0)) (ep_var (d := (eI half0)) rfl)  (rk_ixT (f := eI) (xs := skin0.1) fun a0 => (rk_asgN (rs_while (c0 := (P2 fun found0 at0 => [.is (.v ((eP2 (eTs eI) (eTs (eO eI))) skin0)), .is (.v (eI half0)), .is (.l (List.map eI found0)), .is (.v (eI at0))])) (s0 := ([half0], a0)) (sub_cons wk_is (sub_cons wk_is (sub_cons wk_is (sub_cons wk_is sub_nil)))) (fun ⟨found0, at0⟩ => rk_fnrt (v := eB) (c' := fun _ => [.is (.v ((eP2 (eTs eI) (eTs (eO eI))) skin0)), .is (.v (eI half0)), .is (.l (List.map eI found0)), .is (.v (eI at0))]) (rk_pure (d := (!(decide (at0 = half0)))) (ep_tst (ep_bin (ep_var (d := (eI at0)) rfl) (ep_var (d := (eI half0)) rfl) (ne_typed (f := eI) at0 half0))) (rk_retT fun _ he => ⟨rfl, he.sub (sub_cons wk_is (sub_cons wk_is (sub_cons wk_is (sub_cons wk_is sub_nil))))⟩))) (fun ⟨found0, at0⟩ => (rs_drop (rk_mo (xs := List.map eI found0) (rk_acons (rk_pure (d := (eI at0)) (ep_var (d := (eI at0)) rfl)  (rk_anil (rk_app (fe := eI) (xs := found0) (a := at0) fun found1 => (rs_last (rs_asg (rk_bin (rk_pure (d := ((eTs eI) skin0.1)) (ep_ixN (d := ((eP2 (eTs eI) (eTs (eO eI))) skin0)) ep_C rfl rfl)  (rk_pure (d := (eI at0)) (ep_var (d := (eI at0)) rfl)  (rk_ixT (f := eI) (xs := skin0.1) fun a1 => (rk_asgN (rs_nx fun _ he => he.sub (sub_cons wk_is (sub_cons wk_is (sub_cons wk_is (sub_cons wk_is sub_nil))))))))))))))))))) (fun ⟨found2, at1⟩ => (rs_last (rs_ret (rk_pure (d := ((eTs eI) found2)) (ep_tupO (xs := List.map eI found2) rfl)  (rk_ret (r := found2) fun _ he => ⟨rfl, outs_of rfl rfl he⟩)))))))))))))))) (fun _ _ _ _ => trivial)))))))))
def n_round_knot (skin0 : ((List Int) × (List (Option Int)))) (half0 : Int) : N (List Int) := Ct.fn (
 (n_right_of skin0 half0).ct fun r0 =>
 (whileC ((P2 fun first0 at0 => Ct.fn (.rt (optC at0 false (fun at1 => (!(decide (at1 = half0))))) : Ct Unit Unit Bool))) ((P2 fun first0 at0 =>
 ((unw at0).ct fun at00 =>
 (n_right_of skin0 at00).ct fun r1 =>
 .nx (at00, r1) : Ct (Int × (Option Int)) (Int × (Option Int)) _))) FUEL (half0, r0)).sq (P2 fun first1 at2 =>
 (Ct.sq ((if (decide (at2 = (some half0))) = true then
 .nx half0 else
 .nx first1) : Ct Int _ _) fun first2 =>
 (n_left_of skin0 first2).ct fun r2 =>
 (whileC ((P2 fun at3 found0 => Ct.fn (.rt (optC at3 false (fun at4 => (!(decide (at4 = first2))))) : Ct Unit Unit Bool))) ((P2 fun at3 found0 =>
 ((unw at3).ct fun at30 =>
 (appN found0 at30).ct fun found1 =>
 (n_left_of skin0 at30).ct fun r3 =>
 .nx (r3, found1) : Ct ((Option Int) × (List Int)) ((Option Int) × (List Int)) _))) FUEL (r2, [first2])).sq (P2 fun at5 found2 =>
 .rt found2))) : Ct Unit Unit (List Int))
theorem rf_round_knot (skin0 : ((List Int) × (List (Option Int)))) (half0 : Int) : RF (n_round_knot skin0 half0) (f_round_knot [.v ((eP2 (eTs eI) (eTs (eO eI))) skin0), .v (eI half0)]) (fun r => ((eTs eI) r)) (fun r => [.no, .no]) := rf_of (n := 5) (b := b_round_knot) (c0 := [.is (.v ((eP2 (eTs eI) (eTs (eO eI))) skin0)), .is (.v (eI half0)), .nw, .nw, .nw])
 (rs_asg (rk_pure (d := (eI half0)) (ep_var (d := (eI half0)) rfl)  (rk_asgN (rs_asg (rk_callN (rk_rcons (rk_pure (d := ((eP2 (eTs eI) (eTs (eO eI))) skin0)) (ep_var (d := ((eP2 (eTs eI) (eTs (eO eI))) skin0)) rfl)  (rk_rcons (rk_pure (d := (eI half0)) (ep_var (d := (eI half0)) rfl)  (rk_rnil (rk_call (rf_right_of skin0 half0) (fun r0 => (rk_asgN (rs_while (c0 := (P2 fun first0 at0 => [.is (.v ((eP2 (eTs eI) (eTs (eO eI))) skin0)), .is (.v (eI half0)), .is (.v (eI first0)), .is (.v ((eO eI) at0)), .nw])) (s0 := (half0, r0)) (sub_cons wk_is (sub_cons wk_is (sub_cons wk_is (sub_cons wk_is (sub_cons wk_nw sub_nil))))) (fun ⟨first0, at0⟩ => rk_fnrt (v := eB) (c' := fun _ => [.is (.v ((eP2 (eTs eI) (eTs (eO eI))) skin0)), .is (.v (eI half0)), .is (.v (eI first0)), .is (.v ((eO eI) at0)), .nw]) (rk_pure (d := (optC at0 false (fun at1 => (!(decide (at1 = half0)))))) (by apply ep_optT (x := at0); exact (ep_andF (ep_tst (ep_bin (ep_var (d := ((eO eI) none)) rfl) ep_C (isnt_none (f := eI) none)))); exact (fun at1 => ep_andK (ep_tst (ep_bin (ep_var (d := (eI at1)) rfl) ep_C rfl)) (ep_tst (ep_bin (ep_var (d := (eI at1)) rfl) (ep_var (d := (eI half0)) rfl) (ne_typed (f := eI) at1 half0))))) (rk_retT fun _ he => ⟨rfl, he.sub (sub_cons wk_is (sub_cons wk_is (sub_cons wk_is (sub_cons wk_is (sub_cons wk_nw sub_nil)))))⟩))) (fun ⟨first0, at0⟩ => (rs_asg (rk_pure (d := ((eO eI) at0)) (ep_var (d := ((eO eI) at0)) rfl)  (rk_asgN (rs_last (rs_asg (rk_callN (rk_rcons (rk_pure (d := ((eP2 (eTs eI) (eTs (eO eI))) skin0)) (ep_var (d := ((eP2 (eTs eI) (eTs (eO eI))) skin0)) rfl)  (rk_rcons (rk_pure (d := ((eO eI) at0)) (ep_var (d := ((eO eI) at0)) rfl)  (by apply rs_unw (x := at0); exact (fun at00 => (rk_rnil (rk_call (rf_right_of skin0 at00) (fun r1 => (rk_asgN (rs_nx fun _ he => he.sub (sub_cons wk_is (sub_cons wk_is (sub_cons wk_is (sub_cons wk_is (sub_cons wk_nw sub_nil)))))))) (fun _ _ _ _ => trivial)))))))))))))))) (fun ⟨first1, at2⟩ => (rs_seq (c1 := fun first2 => [.is (.v ((eP2 (eTs eI) (eTs (eO eI))) skin0)), .is (.v (eI half0)), .is (.v (eI first2)), .is (.v ((eO eI) at2)), .nw]) (rs_if0 (rk_pure (d := (decide (at2 = (some half0)))) (ep_tst (ep_bin (ep_var (d := ((eO eI) at2)) rfl) (ep_var (d := (eI half0)) rfl) (eq_typed (f := (eO eI)) at2 (some half0)))) (rk_ifF (rs_last (rs_asg (rk_pure (d := (eI half0)) (ep_var (d := (eI half0)) rfl)  (rk_asgN (rs_nx fun _ he => he.sub (sub_cons wk_is (sub_cons wk_is (sub_cons wk_is (sub_cons wk_is (sub_cons wk_nw sub_nil)))))))))) (rs_nx fun _ he => he.sub (sub_cons wk_is (sub_cons wk_is (sub_cons wk_is (sub_cons wk_is (sub_cons wk_nw sub_nil))))))))) (fun first2 => (rs_asgL (rk_pure (ep_lst (ep_acons (ep_var (d := (eI first2)) rfl) ep_anil)) (rk_asgL (rs_asg (rk_callN (rk_rcons (rk_pure (d := ((eP2 (eTs eI) (eTs (eO eI))) skin0)) (ep_var (d := ((eP2 (eTs eI) (eTs (eO eI))) skin0)) rfl)  (rk_rcons (rk_pure (d := (eI first2)) (ep_var (d := (eI first2)) rfl)  (rk_rnil (rk_call (rf_left_of skin0 first2) (fun r2 => (rk_asgN (rs_while (c0 := (P2 fun at3 found0 => [.is (.v ((eP2 (eTs eI) (eTs (eO eI))) skin0)), .is (.v (eI half0)), .is (.v (eI first2)), .is (.v ((eO eI) at3)), .is (.l (List.map eI found0))])) (s0 := (r2, [first2])) (sub_cons wk_is (sub_cons wk_is (sub_cons wk_is (sub_cons wk_is (sub_cons wk_is sub_nil))))) (fun ⟨at3, found0⟩ => rk_fnrt (v := eB) (c' := fun _ => [.is (.v ((eP2 (eTs eI) (eTs (eO eI))) skin0)), .is (.v (eI half0)), .is (.v (eI first2)), .is (.v ((eO eI) at3)), .is (.l (List.map eI found0))]) (rk_pure (d := (optC at3 false (fun at4 => (!(decide (at4 = first2)))))) (by apply ep_optT (x := at3); exact (ep_andF (ep_tst (ep_bin (ep_var (d := ((eO eI) none)) rfl) ep_C (isnt_none (f := eI) none)))); exact (fun at4 => ep_andK (ep_tst (ep_bin (ep_var (d := (eI at4)) rfl) ep_C rfl)) (ep_tst (ep_bin (ep_var (d := (eI at4)) rfl) (ep_var (d := (eI first2)) rfl) (ne_typed (f := eI) at4 first2))))) (rk_retT fun _ he => ⟨rfl, he.sub (sub_cons wk_is (sub_cons wk_is (sub_cons wk_is (sub_cons wk_is (sub_cons wk_is sub_nil)))))⟩))) (fun ⟨at3, found0⟩ => (rs_drop (rk_mo (xs := List.map eI found0) (rk_acons (rk_pure (d := ((eO eI) at3)) (ep_var (d := ((eO eI) at3)) rfl)  (by apply rs_unw (x := at3); exact (fun at30 => (rk_anil (rk_app (fe := eI) (xs := found0) (a := at30) fun found1 => (rs_last (rs_asg (rk_callN (rk_rcons (rk_pure (d := ((eP2 (eTs eI) (eTs (eO eI))) skin0)) (ep_var (d := ((eP2 (eTs eI) (eTs (eO eI))) skin0)) rfl)  (rk_rcons (rk_pure (d := (eI at30)) (ep_var (d := (eI at30)) rfl)  (rk_rnil (rk_call (rf_left_of skin0 at30) (fun r3 => (rk_asgN (rs_nx fun _ he => he.sub (sub_cons wk_is (sub_cons wk_is (sub_cons wk_is (sub_cons wk_is (sub_cons wk_is sub_nil)))))))) (fun _ _ _ _ => trivial))))))))))))))))))) (fun ⟨at5, found2⟩ => (rs_last (rs_ret (rk_pure (d := ((eTs eI) found2)) (ep_tupO (xs := List.map eI found2) rfl)  (rk_ret (r := found2) fun _ he => ⟨rfl, outs_of rfl rfl he⟩)))))))) (fun _ _ _ _ => trivial)))))))))))))))))) (fun _ _ _ _ => trivial))))))))))))
def n_next_at_rim (skin0 : ((List Int) × (List (Option Int)))) (half0 : Int) : N Int := Ct.fn (
 (idx skin0.1 half0).ct fun a0 =>
 (whileC (fun at0 => Ct.fn ((idx skin0.2 at0).ct fun a1 =>
 .rt (!a1.isNone) : Ct Unit Unit Bool)) (fun at0 =>
 ((idx skin0.2 at0).ct fun a2 =>
 (unw a2).ct fun a20 =>
 (idx skin0.1 a20).ct fun a3 =>
 .nx a3 : Ct Int Int _)) FUEL a0).sq fun at1 =>
 .rt at1 : Ct Unit Unit Int)
theorem rf_next_at_rim (skin0 : ((List Int) × (List (Option Int)))) (half0 : Int) : RF (n_next_at_rim skin0 half0) (f_next_at_rim [.v ((eP2 (eTs eI) (eTs (eO eI))) skin0), .v (eI half0)]) (fun r => (eI r)) (fun r => [.no, .no]) := rf_of (n := 3) (b := b_next_at_rim) (c0 := [.is (.v ((eP2 (eTs eI) (eTs (eO eI))) skin0)), .is (.v (eI half0)), .nw])
 (rs_asg (rk_bin (rk_pure (d := ((eTs eI) skin0.1)) (ep_ixN (d := ((eP2 (eTs eI) (eTs (eO eI))) skin0)) ep_C rfl rfl)  (rk_pure (d := (eI half0)) (ep_var (d := (eI half0)) rfl)  (rk_ixT (f := eI) (xs := skin0.1) fun a0 => (rk_asgN (rs_while (c0 := fun at0 => [.is (.v ((eP2 (eTs eI) (eTs (eO eI))) skin0)), .is (.v (eI half0)), .is (.v (eI at0))]) (s0 := a0) (sub_cons wk_is (sub_cons wk_is (sub_cons wk_is sub_nil))) (fun at0 => rk_fnrt (v := eB) (c' := fun _ => [.is (.v ((eP2 (eTs eI) (eTs (eO eI))) skin0)), .is (.v (eI half0)), .is (.v (eI at0))]) (rk_tst (rk_bin (rk_bin (rk_pure (d := ((eTs (eO eI)) skin0.2)) (ep_ixN (d := ((eP2 (eTs eI) (eTs (eO eI))) skin0)) ep_C rfl rfl)  (rk_pure (d := (eI at0)) (ep_var (d := (eI at0)) rfl)  (rk_ixT (f := (eO eI)) (xs := skin0.2) fun a1 => (rk_pure (d := (eU ())) ep_C  (rk_put (isnt_none (f := eI) a1) (rk_put rfl (rk_retT fun _ he => ⟨rfl, he.sub (sub_cons wk_is (sub_cons wk_is (sub_cons wk_is sub_nil)))⟩))))))))))) (fun at0 => (rs_last (rs_asg (rk_bin (rk_pure (d := ((eTs eI) skin0.1)) (ep_ixN (d := ((eP2 (eTs eI) (eTs (eO eI))) skin0)) ep_C rfl rfl)  (rk_bin (rk_pure (d := ((eTs (eO eI)) skin0.2)) (ep_ixN (d := ((eP2 (eTs eI) (eTs (eO eI))) skin0)) ep_C rfl rfl)  (rk_pure (d := (eI at0)) (ep_var (d := (eI at0)) rfl)  (rk_ixT (f := (eO eI)) (xs := skin0.2) fun a2 => (by apply rs_unw (x := a2); exact (fun a20 => (rk_ixT (f := eI) (xs := skin0.1) fun a3 => (rk_asgN (rs_nx fun _ he => he.sub (sub_cons wk_is (sub_cons wk_is (sub_cons wk_is sub_nil))))))))))))))))) (fun at1 => (rs_last (rs_ret (rk_pure (d := (eI at1)) (ep_var (d := (eI at1)) rfl)  (rk_ret (r := at1) fun _ he => ⟨rfl, outs_of rfl rfl he⟩))))))))))))
def n_rim_of (skin0 : ((List Int) × (List (Option Int)))) (half0 : Int) : N (List Int) := Ct.fn (
 (n_look_at_half skin0 half0).ct fun u0 =>
 (idx skin0.2 half0).ct fun a0 =>
 (if (!a0.isNone) = true then
 .ex ⟨"NoRim", none⟩ else
 (n_next_at_rim skin0 half0).ct fun r0 =>
 (whileC ((P2 fun found0 at0 => Ct.fn (.rt (!(decide (at0 = half0))) : Ct Unit Unit Bool))) ((P2 fun found0 at0 =>
 ((appN found0 at0).ct fun found1 =>
 (n_next_at_rim skin0 at0).ct fun r1 =>
 .nx (found1, r1) : Ct ((List Int) × Int) ((List Int) × Int) _))) FUEL ([half0], r0)).sq (P2 fun found2 at1 =>
 .rt found2)) : Ct Unit Unit (List Int))
theorem rf_rim_of (skin0 : ((List Int) × (List (Option Int)))) (half0 : Int) : RF (n_rim_of skin0 half0) (f_rim_of [.v ((eP2 (eTs eI) (eTs (eO eI))) skin0), .v (eI half0)]) (fun r => ((eTs eI) r)) (fun r => [.no, .no]) := rf_of (n := 4) (b := b_rim_of) (c0 := [.is (.v ((eP2 (eTs eI) (eTs (eO eI))) skin0)), .is (.v (eI half0)), .nw, .nw])
 (rs_drop (rk_callN (rk_rcons (rk_pure (d := ((eP2 (eTs eI) (eTs (eO eI))) skin0)) (ep_var (d := ((eP2 (eTs eI) (eTs (eO eI))) skin0)) rfl)  (rk_rcons (rk_pure (d := (eI half0)) (ep_var (d := (eI half0)) rfl)  (rk_rnil (rk_call (rf_look_at_half skin0 half0) (fun u0 => (rs_if (rk_tst (rk_bin (rk_bin (rk_pure (d := ((eTs (eO eI)) skin0.2)) (ep_ixN (d := ((eP2 (eTs eI) (eTs (eO eI))) skin0)) ep_C rfl rfl)  (rk_pure (d := (eI half0)) (ep_var (d := (eI half0)) rfl)  (rk_ixT (f := (eO eI)) (xs := skin0.2) fun a0 => (rk_pure (d := (eU ())) ep_C  (rk_put (isnt_none (f := eI) a0) (rk_put rfl (rk_ifF (rs_raise fun _ _ => trivial) (rs_nxs (rs_asgL (rk_pure (ep_lst (ep_acons (ep_var (d := (eI half0)) rfl) ep_anil)) (rk_asgL (rs_asg (rk_callN (rk_rcons (rk_pure (d := ((eP2 (eTs eI) (eTs (eO eI))) skin0)) (ep_var (d := ((eP2 (eTs eI) (eTs (eO eI))) skin0)) rfl)  (rk_rcons (rk_pure (d := (eI half0)) (ep_var (d := (eI half0)) rfl)  (rk_rnil (rk_call (rf_next_at_rim skin0 half0) (fun r0 => (rk_asgN (rs_while (c0 := (P2 fun found0 at0 => [.is (.v ((eP2 (eTs eI) (eTs (eO eI))) skin0)), .is (.v (eI half0)), .is (.l (List.map eI found0)), .is (.v (eI at0))])) (s0 := ([half0], r0)) (sub_cons wk_is (sub_cons wk_is (sub_cons wk_is (sub_cons wk_is sub_nil)))) (fun ⟨found0, at0⟩ => rk_fnrt (v := eB) (c' := fun _ => [.is (.v ((eP2 (eTs eI) (eTs (eO eI))) skin0)), .is (.v (eI half0)), .is (.l (List.map eI found0)), .is (.v (eI at0))]) (rk_pure (d := (!(decide (at0 = half0)))) (ep_tst (ep_bin (ep_var (d := (eI at0)) rfl) (ep_var (d := (eI half0)) rfl) (ne_typed (f := eI) at0 half0))) (rk_retT fun _ he => ⟨rfl, he.sub (sub_cons wk_is (sub_cons wk_is (sub_cons wk_is (sub_cons wk_is sub_nil))))⟩))) (fun ⟨found0, at0⟩ => (rs_drop (rk_mo (xs := List.map eI found0) (rk_acons (rk_pure (d := (eI at0)) (ep_var (d := (eI at0)) rfl)  (rk_anil (rk_app (fe := eI) (xs := found0) (a := at0) fun found1 => (rs_last (rs_asg (rk_callN (rk_rcons (rk_pure (d := ((eP2 (eTs eI) (eTs (eO eI))) skin0)) (ep_var (d := ((eP2 (eTs eI) (eTs (eO eI))) skin0)) rfl)  (rk_rcons (rk_pure (d := (eI at0)) (ep_var (d := (eI at0)) rfl)  (rk_rnil (rk_call (rf_next_at_rim skin0 at0) (fun r1 => (rk_asgN (rs_nx fun _ he => he.sub (sub_cons wk_is (sub_cons wk_is (sub_cons wk_is (sub_cons wk_is sub_nil))))))) (fun _ _ _ _ => trivial))))))))))))))))) (fun ⟨found2, at1⟩ => (rs_last (rs_ret (rk_pure (d := ((eTs eI) found2)) (ep_tupO (xs := List.map eI found2) rfl)  (rk_ret (r := found2) fun _ he => ⟨rfl, outs_of rfl rfl he⟩)))))))) (fun _ _ _ _ => trivial))))))))))))))))))))))))) (fun _ _ _ _ => trivial)))))))))
def n__law_left (skin0 : ((List Int) × (List (Option Int)))) (half0 : Int) : N (Option Int) := Ct.fn (
 (indexN skin0.1 half0).ct fun i0 =>
 (idx skin0.2 i0).ct fun a0 =>
 .rt a0 : Ct Unit Unit (Option Int))
theorem rf__law_left (skin0 : ((List Int) × (List (Option Int)))) (half0 : Int) : RF (n__law_left skin0 half0) (f__law_left [.v ((eP2 (eTs eI) (eTs (eO eI))) skin0), .v (eI half0)]) (fun r => ((eO eI) r)) (fun r => [.no, .no]) := rf_of (n := 2) (b := b__law_left) (c0 := [.is (.v ((eP2 (eTs eI) (eTs (eO eI))) skin0)), .is (.v (eI half0))])
 (rs_last (rs_ret (rk_bin (rk_pure (d := ((eTs (eO eI)) skin0.2)) (ep_ixN (d := ((eP2 (eTs eI) (eTs (eO eI))) skin0)) ep_C rfl rfl)  (rk_index (rk_pure (d := ((eTs eI) skin0.1)) (ep_ixN (d := ((eP2 (eTs eI) (eTs (eO eI))) skin0)) ep_C rfl rfl)  (rk_idxT (rk_pure (d := (eI half0)) (ep_var (d := (eI half0)) rfl)  (rk_idxP (xs := skin0.1) (i := half0) fun i0 => (rk_ixT (f := (eO eI)) (xs := skin0.2) fun a0 => (rk_ret (r := a0) fun _ he => ⟨rfl, outs_of rfl rfl he⟩)))))))))))
def n__law_right (skin0 : ((List Int) × (List (Option Int)))) (half0 : Int) : N (Option Int) := Ct.fn (
 (idx skin0.2 half0).ct fun a0 =>
 (if (a0.isNone) = true then
 .rt none else
 (idx skin0.2 half0).ct fun a1 =>
 (unw a1).ct fun a10 =>
 (idx skin0.1 a10).ct fun a2 =>
 .rt (some a2)) : Ct Unit Unit (Option Int))
theorem rf__law_right (skin0 : ((List Int) × (List (Option Int)))) (half0 : Int) : RF (n__law_right skin0 half0) (f__law_right [.v ((eP2 (eTs eI) (eTs (eO eI))) skin0), .v (eI half0)]) (fun r => ((eO eI) r)) (fun r => [.no, .no]) := rf_of (n := 2) (b := b__law_right) (c0 := [.is (.v ((eP2 (eTs eI) (eTs (eO eI))) skin0)), .is (.v (eI half0))])
 (rs_if (rk_tst (rk_bin (rk_bin (rk_pure (d := ((eTs (eO eI)) skin0.2)) (ep_ixN (d := ((eP2 (eTs eI) (eTs (eO eI))) skin0)) ep_C rfl rfl)  (rk_pure (d := (eI half0)) (ep_var (d := (eI half0)) rfl)  (rk_ixT (f := (eO eI)) (xs := skin0.2) fun a0 => (rk_pure (d := (eU ())) ep_C  (rk_put (is_none (f := eI) a0) (rk_put rfl (rk_ifF (rs_ret (rk_pure (d := ((eO eI) none)) ep_C  (rk_ret (r := none) fun _ he => ⟨rfl, outs_of rfl rfl he⟩))) (rs_nxs (rs_last (rs_ret (rk_bin (rk_pure (d := ((eTs eI) skin0.1)) (ep_ixN (d := ((eP2 (eTs eI) (eTs (eO eI))) skin0)) ep_C rfl rfl)  (rk_bin (rk_pure (d := ((eTs (eO eI)) skin0.2)) (ep_ixN (d := ((eP2 (eTs eI) (eTs (eO eI))) skin0)) ep_C rfl rfl)  (rk_pure (d := (eI half0)) (ep_var (d := (eI half0)) rfl)  (rk_ixT (f := (eO eI)) (xs := skin0.2) fun a1 => (by apply rs_unw (x := a1); exact (fun a10 => (rk_ixT (f := eI) (xs := skin0.1) fun a2 => (rk_ret (r := (some a2)) fun _ he => ⟨rfl, outs_of rfl rfl he⟩))))))))))))))))))))))))
def n__law_knot (skin0 : ((List Int) × (List (Option Int)))) (half0 : Int) : N (List Int) := Ct.fn (
 (whileC (fun row0 => Ct.fn ((idx row0 (-1 : Int)).ct fun a0 =>
 (n__law_left skin0 a0).ct fun r0 =>
 .rt (!(memB r0 [none, (some half0)])) : Ct Unit Unit Bool)) (fun row0 =>
 ((idx row0 (-1 : Int)).ct fun a1 =>
 (n__law_left skin0 a1).ct fun r1 =>
 (unw r1).ct fun r10 =>
 (appN row0 r10).ct fun row1 =>
 .nx row1 : Ct (List Int) (List Int) _)) FUEL [half0]).sq fun row2 =>
 (Ct.sq ((idx row2 (-1 : Int)).ct fun a2 =>
 (n__law_left skin0 a2).ct fun r2 =>
 (if (r2.isNone) = true then
 (whileC (fun row4 => Ct.fn ((idx row4 (0 : Int)).ct fun a3 =>
 (n__law_right skin0 a3).ct fun r3 =>
 .rt (!r3.isNone) : Ct Unit Unit Bool)) (fun row4 =>
 ((idx row4 (0 : Int)).ct fun a4 =>
 (n__law_right skin0 a4).ct fun r4 =>
 (unw r4).ct fun r40 =>
 (insN row4 (0 : Int) r40).ct fun row5 =>
 .nx row5 : Ct (List Int) (List Int) _)) FUEL row2).sq fun row6 =>
 .nx row6 else
 .nx row2) : Ct (List Int) _ _) fun row3 =>
 .rt row3) : Ct Unit Unit (List Int))
theorem rf__law_knot (skin0 : ((List Int) × (List (Option Int)))) (half0 : Int) : RF (n__law_knot skin0 half0) (f__law_knot [.v ((eP2 (eTs eI) (eTs (eO eI))) skin0), .v (eI half0)]) (fun r => ((eTs eI) r)) (fun r => [.no, .no]) := rf_of (n := 3) (b := b__law_knot) (c0 := [.is (.v ((eP2 (eTs eI) (eTs (eO eI))) skin0)), .is (.v (eI half0)), .nw])
 (rs_asgL (rk_pure (ep_lst (ep_acons (ep_var (d := (eI half0)) rfl) ep_anil)) (rk_asgL (rs_while (c0 := fun row0 => [.is (.v ((eP2 (eTs eI) (eTs (eO eI))) skin0)), .is (.v (eI half0)), .is (.l (List.map eI row0))]) (s0 := [half0]) (sub_cons wk_is (sub_cons wk_is (sub_cons wk_is sub_nil))) (fun row0 => rk_fnrt (v := eB) (c' := fun _ => [.is (.v ((eP2 (eTs eI) (eTs (eO eI))) skin0)), .is (.v (eI half0)), .is (.l (List.map eI row0))]) (rk_tst (rk_bin (rk_callN (rk_rcons (rk_pure (d := ((eP2 (eTs eI) (eTs (eO eI))) skin0)) (ep_var (d := ((eP2 (eTs eI) (eTs (eO eI))) skin0)) rfl)  (rk_rcons (rk_ixN (rk_pure (d := (eI (-1 : Int))) ep_C  (rk_ixAt (d := ((eLs eI) row0)) (rk_ixL (f := eI) (xs := row0) fun a0 => (rk_rnil (rk_call (rf__law_left skin0 a0) (fun r0 => (rk_pure (d := ((eTs (eO eI)) [none, (some half0)])) (ep_tup (ep_acons ep_C (ep_acons (ep_var (d := (eI half0)) rfl) ep_anil)))  (rk_put (nin_tup (f := (eO eI)) r0 [none, (some half0)]) (rk_put rfl (rk_retT fun _ he => ⟨rfl, he.sub (sub_cons wk_is (sub_cons wk_is (sub_cons wk_is sub_nil)))⟩))))) (fun _ _ _ _ => trivial)))) rfl)))))))))) (fun row0 => (rs_last (rs_drop (rk_mo (xs := List.map eI row0) (rk_acons (rk_callN (rk_rcons (rk_pure (d := ((eP2 (eTs eI) (eTs (eO eI))) skin0)) (ep_var (d := ((eP2 (eTs eI) (eTs (eO eI))) skin0)) rfl)  (rk_rcons (rk_ixN (rk_pure (d := (eI (-1 : Int))) ep_C  (rk_ixAt (d := ((eLs eI) row0)) (rk_ixL (f := eI) (xs := row0) fun a1 => (rk_rnil (rk_call (rf__law_left skin0 a1) (fun r1 => (by apply rs_unw (x := r1); exact (fun r10 => (rk_anil (rk_app (fe := eI) (xs := row0) (a := r10) fun row1 => (rs_nx fun _ he => he.sub (sub_cons wk_is (sub_cons wk_is (sub_cons wk_is sub_nil))))))))) (fun _ _ _ _ => trivial)))) rfl)))))))))))) (fun row2 => (rs_seq (c1 := fun row3 => [.is (.v ((eP2 (eTs eI) (eTs (eO eI))) skin0)), .is (.v (eI half0)), .is (.l (List.map eI row3))]) (rs_if0 (rk_tst (rk_bin (rk_callN (rk_rcons (rk_pure (d := ((eP2 (eTs eI) (eTs (eO eI))) skin0)) (ep_var (d := ((eP2 (eTs eI) (eTs (eO eI))) skin0)) rfl)  (rk_rcons (rk_ixN (rk_pure (d := (eI (-1 : Int))) ep_C  (rk_ixAt (d := ((eLs eI) row2)) (rk_ixL (f := eI) (xs := row2) fun a2 => (rk_rnil (rk_call (rf__law_left skin0 a2) (fun r2 => (rk_pure (d := (eU ())) ep_C  (rk_put (is_none (f := eI) r2) (rk_put rfl (rk_ifF (rs_last (rs_while (c0 := fun row4 => [.is (.v ((eP2 (eTs eI) (eTs (eO eI))) skin0)), .is (.v (eI half0)), .is (.l (List.map eI row4))]) (s0 := row2) (sub_cons wk_is (sub_cons wk_is (sub_cons wk_is sub_nil))) (fun row4 => rk_fnrt (v := eB) (c' := fun _ => [.is (.v ((eP2 (eTs eI) (eTs (eO eI))) skin0)), .is (.v (eI half0)), .is (.l (List.map eI row4))]) (rk_tst (rk_bin (rk_callN (rk_rcons (rk_pure (d := ((eP2 (eTs eI) (eTs (eO eI))) skin0)) (ep_var (d := ((eP2 (eTs eI) (eTs (eO eI))) skin0)) rfl)  (rk_rcons (rk_ixN (rk_pure (d := (eI (0 : Int))) ep_C  (rk_ixAt (d := ((eLs eI) row4)) (rk_ixL (f := eI) (xs := row4) fun a3 => (rk_rnil (rk_call (rf__law_right skin0 a3) (fun r3 => (rk_pure (d := (eU ())) ep_C  (rk_put (isnt_none (f := eI) r3) (rk_put rfl (rk_retT fun _ he => ⟨rfl, he.sub (sub_cons wk_is (sub_cons wk_is (sub_cons wk_is sub_nil)))⟩))))) (fun _ _ _ _ => trivial)))) rfl)))))))))) (fun row4 => (rs_last (rs_drop (rk_mo (xs := List.map eI row4) (rk_acons (rk_pure (d := (eI (0 : Int))) ep_C  (rk_acons (rk_callN (rk_rcons (rk_pure (d := ((eP2 (eTs eI) (eTs (eO eI))) skin0)) (ep_var (d := ((eP2 (eTs eI) (eTs (eO eI))) skin0)) rfl)  (rk_rcons (rk_ixN (rk_pure (d := (eI (0 : Int))) ep_C  (rk_ixAt (d := ((eLs eI) row4)) (rk_ixL (f := eI) (xs := row4) fun a4 => (rk_rnil (rk_call (rf__law_right skin0 a4) (fun r4 => (by apply rs_unw (x := r4); exact (fun r40 => (rk_anil (rk_ins (fe := eI) (xs := row4) (a := r40) fun row5 => (rs_nx fun _ he => he.sub (sub_cons wk_is (sub_cons wk_is (sub_cons wk_is sub_nil))))))))) (fun _ _ _ _ => trivial)))) rfl)))))))))))))) (fun row6 => (rs_nx fun _ he => he.sub (sub_cons wk_is (sub_cons wk_is (sub_cons wk_is sub_nil))))))) (rs_nx fun _ he => he.sub (sub_cons wk_is (sub_cons wk_is (sub_cons wk_is sub_nil))))))))) (fun _ _ _ _ => trivial)))) rfl)))))))))) (fun row3 => (rs_last (rs_ret (rk_pure (d := ((eTs eI) row3)) (ep_tupO (xs := List.map eI row3) rfl)  (rk_ret (r := row3) fun _ he => ⟨rfl, outs_of rfl rfl he⟩)))))))))))
def n__law_patch (skin0 : ((List Int) × (List (Option Int)))) (half0 : Int) : N (List Int) := Ct.fn (
 (whileC (fun row0 => Ct.fn ((idx row0 (-1 : Int)).ct fun a0 =>
 (idx skin0.1 a0).ct fun a1 =>
 .rt (!(decide (a1 = half0))) : Ct Unit Unit Bool)) (fun row0 =>
 ((idx row0 (-1 : Int)).ct fun a2 =>
 (idx skin0.1 a2).ct fun a3 =>
 (appN row0 a3).ct fun row1 =>
 .nx row1 : Ct (List Int) (List Int) _)) FUEL [half0]).sq fun row2 =>
 .rt row2 : Ct Unit Unit (List Int))
theorem rf__law_patch (skin0 : ((List Int) × (List (Option Int)))) (half0 : Int) : RF (n__law_patch skin0 half0) (f__law_patch [.v ((eP2 (eTs eI) (eTs (eO eI))) skin0), .v (eI half0)]) (fun r => ((eTs eI) r)) (fun r => [.no, .no]) := rf_of (n := 3) (b := b__law_patch) (c0 := [.is (.v ((eP2 (eTs eI) (eTs (eO eI))) skin0)), .is (.v (eI half0)), .nw])
 (rs_asgL (rk_pure (ep_lst (ep_acons (ep_var (d := (eI half0)) rfl) ep_anil)) (rk_asgL (rs_while (c0 := fun row0 => [.is (.v ((eP2 (eTs eI) (eTs (eO eI))) skin0)), .is (.v (eI half0)), .is (.l (List.map eI row0))]) (s0 := [half0]) (sub_cons wk_is (sub_cons wk_is (sub_cons wk_is sub_nil))) (fun row0 => rk_fnrt (v := eB) (c' := fun _ => [.is (.v ((eP2 (eTs eI) (eTs (eO eI))) skin0)), .is (.v (eI half0)), .is (.l (List.map eI row0))]) (rk_tst (rk_bin (rk_bin (rk_pure (d := ((eTs eI) skin0.1)) (ep_ixN (d := ((eP2 (eTs eI) (eTs (eO eI))) skin0)) ep_C rfl rfl)  (rk_ixN (rk_pure (d := (eI (-1 : Int))) ep_C  (rk_ixAt (d := ((eLs eI) row0)) (rk_ixL (f := eI) (xs := row0) fun a0 => (rk_ixT (f := eI) (xs := skin0.1) fun a1 => (rk_pure (d := (eI half0)) (ep_var (d := (eI half0)) rfl)  (rk_put (ne_typed (f := eI) a1 half0) (rk_put rfl (rk_retT fun _ he => ⟨rfl, he.sub (sub_cons wk_is (sub_cons wk_is (sub_cons wk_is sub_nil)))⟩)))))) rfl)))))))) (fun row0 => (rs_last (rs_drop (rk_mo (xs := List.map eI row0) (rk_acons (rk_bin (rk_pure (d := ((eTs eI) skin0.1)) (ep_ixN (d := ((eP2 (eTs eI) (eTs (eO eI))) skin0)) ep_C rfl rfl)  (rk_ixN (rk_pure (d := (eI (-1 : Int))) ep_C  (rk_ixAt (d := ((eLs eI) row0)) (rk_ixL (f := eI) (xs := row0) fun a2 => (rk_ixT (f := eI) (xs := skin0.1) fun a3 => (rk_anil (rk_app (fe := eI) (xs := row0) (a := a3) fun row1 => (rs_nx fun _ he => he.sub (sub_cons wk_is (sub_cons wk_is (sub_cons wk_is sub_nil)))))))) rfl)))))))))) (fun row2 => (rs_last (rs_ret (rk_pure (d := ((eTs eI) row2)) (ep_tupO (xs := List.map eI row2) rfl)  (rk_ret (r := row2) fun _ he => ⟨rfl, outs_of rfl rfl he⟩)))))))))
def n__law_rim (skin0 : ((List Int) × (List (Option Int)))) (half0 : Int) : N (List Int) := Ct.fn (
 (whileC (fun row0 => Ct.fn (.rt true : Ct Unit Unit Bool)) (fun row0 =>
 ((idx row0 (-1 : Int)).ct fun a0 =>
 (idx skin0.1 a0).ct fun a1 =>
 (n__law_knot skin0 a1).ct fun r0 =>
 (idx r0 (0 : Int)).ct fun a2 =>
 (if (decide (a2 = half0)) = true then
 .rt row0 else
 (appN row0 a2).ct fun row1 =>
 .nx row1) : Ct (List Int) (List Int) _)) FUEL [half0]).sq fun row2 =>
 .stuck : Ct Unit Unit (List Int))
theorem rf__law_rim (skin0 : ((List Int) × (List (Option Int)))) (half0 : Int) : RF (n__law_rim skin0 half0) (f__law_rim [.v ((eP2 (eTs eI) (eTs (eO eI))) skin0), .v (eI half0)]) (fun r => ((eTs eI) r)) (fun r => [.no, .no]) := rf_of (n := 4) (b := b__law_rim) (c0 := [.is (.v ((eP2 (eTs eI) (eTs (eO eI))) skin0)), .is (.v (eI half0)), .nw, .nw])
 (rs_asgL (rk_pure (ep_lst (ep_acons (ep_var (d := (eI half0)) rfl) ep_anil)) (rk_asgL (rs_last (rs_while (c0 := fun row0 => [.is (.v ((eP2 (eTs eI) (eTs (eO eI))) skin0)), .is (.v (eI half0)), .is (.l (List.map eI row0)), .nw]) (s0 := [half0]) (sub_cons wk_is (sub_cons wk_is (sub_cons wk_is (sub_cons wk_nw sub_nil)))) (fun row0 => rk_fnrt (v := eB) (c' := fun _ => [.is (.v ((eP2 (eTs eI) (eTs (eO eI))) skin0)), .is (.v (eI half0)), .is (.l (List.map eI row0)), .nw]) (rk_pure (d := true) (ep_tru ep_C rfl) (rk_retT fun _ he => ⟨rfl, he.sub (sub_cons wk_is (sub_cons wk_is (sub_cons wk_is (sub_cons wk_nw sub_nil))))⟩))) (fun row0 => (rs_asg (rk_bin (rk_callN (rk_rcons (rk_pure (d := ((eP2 (eTs eI) (eTs (eO eI))) skin0)) (ep_var (d := ((eP2 (eTs eI) (eTs (eO eI))) skin0)) rfl)  (rk_rcons (rk_bin (rk_pure (d := ((eTs eI) skin0.1)) (ep_ixN (d := ((eP2 (eTs eI) (eTs (eO eI))) skin0)) ep_C rfl rfl)  (rk_ixN (rk_pure (d := (eI (-1 : Int))) ep_C  (rk_ixAt (d := ((eLs eI) row0)) (rk_ixL (f := eI) (xs := row0) fun a0 => (rk_ixT (f := eI) (xs := skin0.1) fun a1 => (rk_rnil (rk_call (rf__law_knot skin0 a1) (fun r0 => (rk_pure (d := (eI (0 : Int))) ep_C  (rk_ixT (f := eI) (xs := r0) fun a2 => (rk_asgN (rs_if (rk_pure (d := (decide (a2 = half0))) (ep_tst (ep_bin (ep_var (d := (eI a2)) rfl) (ep_var (d := (eI half0)) rfl) (eq_typed (f := eI) a2 half0))) (rk_ifF (rs_ret (rk_pure (d := ((eTs eI) row0)) (ep_tupO (xs := List.map eI row0) rfl)  (rk_ret (r := row0) fun _ he => ⟨rfl, outs_of rfl rfl he⟩))) (rs_nxs (rs_last (rs_drop (rk_mo (xs := List.map eI row0) (rk_acons (rk_pure (d := (eI a2)) (ep_var (d := (eI a2)) rfl)  (rk_anil (rk_app (fe := eI) (xs := row0) (a := a2) fun row1 => (rs_nx fun _ he => he.sub (sub_cons wk_is (sub_cons wk_is (sub_cons wk_is (sub_cons wk_vnw sub_nil)))))))))))))))))))) (fun _ _ _ _ => trivial))))) rfl)))))))))))) (fun row2 => (fun _ _ => trivial)))))))
def n__law_at_rim (skin0 : ((List Int) × (List (Option Int)))) (half0 : Int) : N ((Option (List Int)) × Str) := Ct.fn (
 (Ct.sq (tryC ((n_rim_of skin0 half0).ct fun r0 =>
 .nx (("" : Str), (some r0)) : Ct (Str × (Option (List Int))) _ _) fun x => (kindT x [("SkinError", none)]).ct fun s0 => .nx (s0, none)) (P2 fun kind0 found0 =>
 .rt (found0, kind0))) : Ct Unit Unit ((Option (List Int)) × Str))
theorem rf__law_at_rim (skin0 : ((List Int) × (List (Option Int)))) (half0 : Int) : RF (n__law_at_rim skin0 half0) (f__law_at_rim [.v ((eP2 (eTs eI) (eTs (eO eI))) skin0), .v (eI half0)]) (fun r => ((eP2 (eO (eTs eI)) eS) r)) (fun r => [.no, .no]) := rf_of (n := 5) (b := b__law_at_rim) (c0 := [.is (.v ((eP2 (eTs eI) (eTs (eO eI))) skin0)), .is (.v (eI half0)), .nw, .nw, .nw])
 (rs_asg (rk_pure (d := (eS ("" : Str))) ep_C  (rk_asgN (rs_asg (rk_pure (d := ((eO (eTs eI)) none)) ep_C  (rk_asgN (rs_try (hl := [("SkinError", none)]) (c1 := (P2 fun kind0 found0 => [.is (.v ((eP2 (eTs eI) (eTs (eO eI))) skin0)), .is (.v (eI half0)), .is (.v (eS kind0)), .is (.v ((eO (eTs eI)) found0)), .nw])) (cx := [.is (.v ((eP2 (eTs eI) (eTs (eO eI))) skin0)), .is (.v (eI half0)), .is (.v (eS ("" : Str))), .is (.v ((eO (eTs eI)) none)), .nw]) (V := fun s0 => (s0, none)) (rs_last (rs_asg (rk_callN (rk_rcons (rk_pure (d := ((eP2 (eTs eI) (eTs (eO eI))) skin0)) (ep_var (d := ((eP2 (eTs eI) (eTs (eO eI))) skin0)) rfl)  (rk_rcons (rk_pure (d := (eI half0)) (ep_var (d := (eI half0)) rfl)  (rk_rnil (rk_call (rf_rim_of skin0 half0) (fun r0 => (rk_asgN (rs_nx fun _ he => he.sub (sub_cons wk_is (sub_cons wk_is (sub_cons wk_is (sub_cons wk_is (sub_cons wk_nw sub_nil)))))))) (fun _ _ h h2 => by rw [h2 rfl]; exact h.sub (sub_cons wk_is (sub_cons wk_is (sub_cons wk_is (sub_cons wk_is (sub_cons wk_nw sub_nil))))))))))))))) (fun s0 => (sub_cons wk_is (sub_cons wk_is (sub_cons wk_is (sub_cons wk_is (sub_cons wk_nw sub_nil)))))) (fun ⟨kind0, found0⟩ => (rs_last (rs_ret (rk_pure (d := ((eP2 (eO (eTs eI)) eS) (found0, kind0))) (ep_tup (ep_acons (ep_var (d := ((eO (eTs eI)) found0)) rfl) (ep_acons (ep_var (d := (eS kind0)) rfl) ep_anil)))  (rk_ret (r := (found0, kind0)) fun _ he => ⟨rfl, outs_of rfl rfl he⟩))))) (fun _ _ => trivial))))))))
def n_seam_of (skin0 : ((List Int) × (List (Option Int)))) (half0 : Int) : N (List Int) := Ct.fn (
 (idx skin0.2 half0).ct fun a0 =>
 (optC a0
 (.rt [half0])
 (fun mate0 => .rt [(imin half0 mate0), (imax half0 mate0)])) : Ct Unit Unit (List Int))
theorem rf_seam_of (skin0 : ((List Int) × (List (Option Int)))) (half0 : Int) : RF (n_seam_of skin0 half0) (f_seam_of [.v ((eP2 (eTs eI) (eTs (eO eI))) skin0), .v (eI half0)]) (fun r => ((eTs eI) r)) (fun r => [.no, .no]) := rf_of (n := 3) (b := b_seam_of) (c0 := [.is (.v ((eP2 (eTs eI) (eTs (eO eI))) skin0)), .is (.v (eI half0)), .nw])
 (rs_asg (rk_bin (rk_pure (d := ((eTs (eO eI)) skin0.2)) (ep_ixN (d := ((eP2 (eTs eI) (eTs (eO eI))) skin0)) ep_C rfl rfl)  (rk_pure (d := (eI half0)) (ep_var (d := (eI half0)) rfl)  (rk_ixT (f := (eO eI)) (xs := skin0.2) fun a0 => (rk_asgN (rs_if (by apply rs_opt (x := a0); exact (rk_pure (d := true) (ep_tst (ep_bin (ep_var (d := ((eO eI) none)) rfl) ep_C (is_none (f := eI) none))) (rs_ret (rk_pure (d := ((eTs eI) [half0])) (ep_tup (ep_acons (ep_var (d := (eI half0)) rfl) ep_anil))  (rk_ret (r := [half0]) fun _ he => ⟨rfl, outs_of rfl rfl he⟩)))); exact (fun mate0 => rk_pure (d := false) (ep_tst (ep_bin (ep_var (d := (eI mate0)) rfl) ep_C rfl)) (rs_nxs (rs_last (rs_ret (rk_pure (d := ((eTs eI) [(imin half0 mate0), (imax half0 mate0)])) (ep_tup (ep_acons (ep_cb (ep_acons (ep_var (d := (eI half0)) rfl) (ep_acons (ep_var (d := (eI mate0)) rfl) ep_anil)) rfl) (ep_acons (ep_cb (ep_acons (ep_var (d := (eI half0)) rfl) (ep_acons (ep_var (d := (eI mate0)) rfl) ep_anil)) rfl) ep_anil)))  (rk_ret (r := [(imin half0 mate0), (imax half0 mate0)]) fun _ he => ⟨rfl, outs_of rfl rfl he⟩))))))))))))))
def n_all_walks_round_knot (halves0 : (List Int)) (skin0 : ((List Int) × (List (Option Int)))) : N (List (List Int)) := Ct.fn (
 (forC (fun half0 => (P2 fun met0 found0 =>
 ((if (!(dhas met0 half0)) = true then
 (n_round_knot skin0 half0).ct fun r0 =>
 (forC (fun one0 => fun met1 =>
 ((putN met1 one0 true).ct fun met2 =>
 .nx met2 : Ct (List (Int × Bool)) (List (Int × Bool)) _)) r0 met0).sq fun met3 =>
 (appN found0 r0).ct fun found1 =>
 .nx (met3, found1) else
 .nx (met0, found0)) : Ct ((List (Int × Bool)) × (List (List Int))) ((List (Int × Bool)) × (List (List Int))) _))) halves0 (([] : (List (Int × Bool))), ([] : (List (List Int))))).sq (P2 fun met4 found2 =>
 .rt found2) : Ct Unit Unit (List (List Int)))
theorem rf_all_walks_round_knot (halves0 : (List Int)) (skin0 : ((List Int) × (List (Option Int)))) : RF (n_all_walks_round_knot halves0 skin0) (f_all_walks [.v ((eLs eI) halves0), .f "round_knot", .v ((eP2 (eTs eI) (eTs (eO eI))) skin0)]) (fun r => ((eTs (eTs eI)) r)) (fun r => [.no, .no, .no]) := rf_of (n := 8) (b := b_all_walks) (c0 := [.is (.v ((eLs eI) halves0)), .is (.f "round_knot"), .is (.v ((eP2 (eTs eI) (eTs (eO eI))) skin0)), .nw, .nw, .nw, .nw, .nw])
 (rs_asgM (rk_pure ep_dict0 (rk_asgM (rs_asgL (rk_pure (ep_lst ep_anil) (rk_asgL (rs_forK (rk_seq (rk_pure (d := ((eLs eI) halves0)) (ep_var (d := ((eLs eI) halves0)) rfl)  (rk_put rfl (rs_for (fe := eI) (c0 := (P2 fun met0 found0 => [.is (.v ((eLs eI) halves0)), .is (.f "round_knot"), .is (.v ((eP2 (eTs eI) (eTs (eO eI))) skin0)), .is (.m (eKv eI eB met0)), .is (.l (List.map (eTs eI) found0)), .nw, .nw, .nw])) (c1 := fun half0 => (P2 fun met0 found0 => [.is (.v ((eLs eI) halves0)), .is (.f "round_knot"), .is (.v ((eP2 (eTs eI) (eTs (eO eI))) skin0)), .is (.m (eKv eI eB met0)), .is (.l (List.map (eTs eI) found0)), .is (.v (eI half0)), .nw, .nw])) (s0 := (([] : (List (Int × Bool))), ([] : (List (List Int))))) (sub_cons wk_is (sub_cons wk_is (sub_cons wk_is (sub_cons wk_is (sub_cons wk_is (sub_cons wk_nw (sub_cons wk_nw (sub_cons wk_nw sub_nil)))))))) (fun _ ⟨met0, found0⟩ => gs_N) (fun half0 ⟨met0, found0⟩ => (rs_last (rs_if (rk_pure (d := (!(dhas met0 half0))) (ep_tst (ep_ninM (f := eI) (g := eB) (kvs := met0) (k := half0) (ep_var (d := (eI half0)) rfl) rfl)) (rk_ifF (rs_assoc (rs_asg (rk_callV (F := f_round_knot) (rk_rcons (rk_pure (d := ((eP2 (eTs eI) (eTs (eO eI))) skin0)) (ep_var (d := ((eP2 (eTs eI) (eTs (eO eI))) skin0)) rfl)  (rk_rcons (rk_pure (d := (eI half0)) (ep_var (d := (eI half0)) rfl)  (rk_rnil (rk_call (rf_round_knot skin0 half0) (fun r0 => (rk_asgN (rs_assoc (rs_forK (rk_seq (rk_pure (d := ((eTs eI) r0)) (ep_var (d := ((eTs eI) r0)) rfl)  (rk_put rfl (rs_for (fe := eI) (c0 := fun met1 => [.is (.v ((eLs eI) halves0)), .is (.f "round_knot"), .is (.v ((eP2 (eTs eI) (eTs (eO eI))) skin0)), .is (.m (eKv eI eB met1)), .is (.l (List.map (eTs eI) found0)), .is (.v (eI half0)), .is (.v ((eTs eI) r0)), .nw]) (c1 := fun one0 => fun met1 => [.is (.v ((eLs eI) halves0)), .is (.f "round_knot"), .is (.v ((eP2 (eTs eI) (eTs (eO eI))) skin0)), .is (.m (eKv eI eB met1)), .is (.l (List.map (eTs eI) found0)), .is (.v (eI half0)), .is (.v ((eTs eI) r0)), .is (.v (eI one0))]) (s0 := met0) (sub_cons wk_is (sub_cons wk_is (sub_cons wk_is (sub_cons wk_is (sub_cons wk_is (sub_cons wk_is (sub_cons wk_is (sub_cons wk_nw sub_nil)))))))) (fun _ met1 => gs_N) (fun one0 met1 => (rs_last (rs_putM (rk_pure (d := (eB true)) ep_C  (rk_kn (rk_pure (d := (eI one0)) (ep_var (d := (eI one0)) rfl)  (rk_putM (f := eI) (g := eB) (kk := one0) (v := true) (kvs := met1) fun met2 => (rs_nx fun _ he => he.sub (sub_cons wk_is (sub_cons wk_is (sub_cons wk_is (sub_cons wk_is (sub_cons wk_is (sub_cons wk_is (sub_cons wk_is (sub_cons wk_vnw sub_nil)))))))))))))))) (fun met3 => (rs_drop (rk_mo (xs := List.map (eTs eI) found0) (rk_acons (rk_pure (d := ((eTs eI) r0)) (ep_var (d := ((eTs eI) r0)) rfl)  (rk_anil (rk_app (fe := (eTs eI)) (xs := found0) (a := r0) fun found1 => (rs_nx fun _ he => he.sub (sub_cons wk_is (sub_cons wk_is (sub_cons wk_is (sub_cons wk_is (sub_cons wk_is (sub_cons wk_vnw (sub_cons wk_vnw (sub_cons wk_nw sub_nil)))))))))))))))))))))))) (fun _ _ _ _ => trivial)))))))))) (rs_nxs (rs_nx fun _ he => he.sub (sub_cons wk_is (sub_cons wk_is (sub_cons wk_is (sub_cons wk_is (sub_cons wk_is (sub_cons wk_vnw (sub_cons wk_nw (sub_cons wk_nw sub_nil))))))))))))))) (fun ⟨met4, found2⟩ => (rs_last (rs_ret (rk_pure (d := ((eTs (eTs eI)) found2)) (ep_tupO (xs := List.map (eTs eI) found2) rfl)  (rk_ret (r := found2) fun _ he => ⟨rfl, outs_of rfl rfl he⟩))))))))))))))))
def n_all_walks_patch_of (halves0 : (List Int)) (skin0 : ((List Int) × (List (Option Int)))) : N (List (List Int)) := Ct.fn (
 (forC (fun half0 => (P2 fun met0 found0 =>
 ((if (!(dhas met0 half0)) = true then
 (n_patch_of skin0 half0).ct fun r0 =>
 (forC (fun one0 => fun met1 =>
 ((putN met1 one0 true).ct fun met2 =>
 .nx met2 : Ct (List (Int × Bool)) (List (Int × Bool)) _)) r0 met0).sq fun met3 =>
 (appN found0 r0).ct fun found1 =>
 .nx (met3, found1) else
 .nx (met0, found0)) : Ct ((List (Int × Bool)) × (List (List Int))) ((List (Int × Bool)) × (List (List Int))) _))) halves0 (([] : (List (Int × Bool))), ([] : (List (List Int))))).sq (P2 fun met4 found2 =>
 .rt found2) : Ct Unit Unit (List (List Int)))
theorem rf_all_walks_patch_of (halves0 : (List Int)) (skin0 : ((List Int) × (List (Option Int)))) : RF (n_all_walks_patch_of halves0 skin0) (f_all_walks [.v ((eLs eI) halves0), .f "patch_of", .v ((eP2 (eTs eI) (eTs (eO eI))) skin0)]) (fun r => ((eTs (eTs eI)) r)) (fun r => [.no, .no, .no]) := rf_of (n := 8) (b := b_all_walks) (c0 := [.is (.v ((eLs eI) halves0)), .is (.f "patch_of"), .is (.v ((eP2 (eTs eI) (eTs (eO eI))) skin0)), .nw, .nw, .nw, .nw, .nw])
 (rs_asgM (rk_pure ep_dict0 (rk_asgM (rs_asgL (rk_pure (ep_lst ep_anil) (rk_asgL (rs_forK (rk_seq (rk_pure (d := ((eLs eI) halves0)) (ep_var (d := ((eLs eI) halves0)) rfl)  (rk_put rfl (rs_for (fe := eI) (c0 := (P2 fun met0 found0 => [.is (.v ((eLs eI) halves0)), .is (.f "patch_of"), .is (.v ((eP2 (eTs eI) (eTs (eO eI))) skin0)), .is (.m (eKv eI eB met0)), .is (.l (List.map (eTs eI) found0)), .nw, .nw, .nw])) (c1 := fun half0 => (P2 fun met0 found0 => [.is (.v ((eLs eI) halves0)), .is (.f "patch_of"), .is (.v ((eP2 (eTs eI) (eTs (eO eI))) skin0)), .is (.m (eKv eI eB met0)), .is (.l (List.map (eTs eI) found0)), .is (.v (eI half0)), .nw, .nw])) (s0 := (([] : (List (Int × Bool))), ([] : (List (List Int))))) (sub_cons wk_is (sub_cons wk_is (sub_cons wk_is (sub_cons wk_is (sub_cons wk_is (sub_cons wk_nw (sub_cons wk_nw (sub_cons wk_nw sub_nil)))))))) (fun _ ⟨met0, found0⟩ => gs_N) (fun half0 ⟨met0, found0⟩ => (rs_last (rs_if (rk_pure (d := (!(dhas met0 half0))) (ep_tst (ep_ninM (f := eI) (g := eB) (kvs := met0) (k := half0) (ep_var (d := (eI half0)) rfl) rfl)) (rk_ifF (rs_assoc (rs_asg (rk_callV (F := f_patch_of) (rk_rcons (rk_pure (d := ((eP2 (eTs eI) (eTs (eO eI))) skin0)) (ep_var (d := ((eP2 (eTs eI) (eTs (eO eI))) skin0)) rfl)  (rk_rcons (rk_pure (d := (eI half0)) (ep_var (d := (eI half0)) rfl)  (rk_rnil (rk_call (rf_patch_of skin0 half0) (fun r0 => (rk_asgN (rs_assoc (rs_forK (rk_seq (rk_pure (d := ((eTs eI) r0)) (ep_var (d := ((eTs eI) r0)) rfl)  (rk_put rfl (rs_for (fe := eI) (c0 := fun met1 => [.is (.v ((eLs eI) halves0)), .is (.f "patch_of"), .is (.v ((eP2 (eTs eI) (eTs (eO eI))) skin0)), .is (.m (eKv eI eB met1)), .is (.l (List.map (eTs eI) found0)), .is (.v (eI half0)), .is (.v ((eTs eI) r0)), .nw]) (c1 := fun one0 => fun met1 => [.is (.v ((eLs eI) halves0)), .is (.f "patch_of"), .is (.v ((eP2 (eTs eI) (eTs (eO eI))) skin0)), .is (.m (eKv eI eB met1)), .is (.l (List.map (eTs eI) found0)), .is (.v (eI half0)), .is (.v ((eTs eI) r0)), .is (.v (eI one0))]) (s0 := met0) (sub_cons wk_is (sub_cons wk_is (sub_cons wk_is (sub_cons wk_is (sub_cons wk_is (sub_cons wk_is (sub_cons wk_is (sub_cons wk_nw sub_nil)))))))) (fun _ met1 => gs_N) (fun one0 met1 => (rs_last (rs_putM (rk_pure (d := (eB true)) ep_C  (rk_kn (rk_pure (d := (eI one0)) (ep_var (d := (eI one0)) rfl)  (rk_putM (f := eI) (g := eB) (kk := one0) (v := true) (kvs := met1) fun met2 => (rs_nx fun _ he => he.sub (sub_cons wk_is (sub_cons wk_is (sub_cons wk_is (sub_cons wk_is (sub_cons wk_is (sub_cons wk_is (sub_cons wk_is (sub_cons wk_vnw sub_nil)))))))))))))))) (fun met3 => (rs_drop (rk_mo (xs := List.map (eTs eI) found0) (rk_acons (rk_pure (d := ((eTs eI) r0)) (ep_var (d := ((eTs eI) r0)) rfl)  (rk_anil (rk_app (fe := (eTs eI)) (xs := found0) (a := r0) fun found1 => (rs_nx fun _ he => he.sub (sub_cons wk_is (sub_cons wk_is (sub_cons wk_is (sub_cons wk_is (sub_cons wk_is (sub_cons wk_vnw (sub_cons wk_vnw (sub_cons wk_nw sub_nil)))))))))))))))))))))))) (fun _ _ _ _ => trivial)))))))))) (rs_nxs (rs_nx fun _ he => he.sub (sub_cons wk_is (sub_cons wk_is (sub_cons wk_is (sub_cons wk_is (sub_cons wk_is (sub_cons wk_vnw (sub_cons wk_nw (sub_cons wk_nw sub_nil))))))))))))))) (fun ⟨met4, found2⟩ => (rs_last (rs_ret (rk_pure (d := ((eTs (eTs eI)) found2)) (ep_tupO (xs := List.map (eTs eI) found2) rfl)  (rk_ret (r := found2) fun _ he => ⟨rfl, outs_of rfl rfl he⟩))))))))))))))))
def n_all_walks_rim_of (halves0 : (List Int)) (skin0 : ((List Int) × (List (Option Int)))) : N (List (List Int)) := Ct.fn (
 (forC (fun half0 => (P2 fun met0 found0 =>
 ((if (!(dhas met0 half0)) = true then
 (n_rim_of skin0 half0).ct fun r0 =>
 (forC (fun one0 => fun met1 =>
 ((putN met1 one0 true).ct fun met2 =>
 .nx met2 : Ct (List (Int × Bool)) (List (Int × Bool)) _)) r0 met0).sq fun met3 =>
 (appN found0 r0).ct fun found1 =>
 .nx (met3, found1) else
 .nx (met0, found0)) : Ct ((List (Int × Bool)) × (List (List Int))) ((List (Int × Bool)) × (List (List Int))) _))) halves0 (([] : (List (Int × Bool))), ([] : (List (List Int))))).sq (P2 fun met4 found2 =>
 .rt found2) : Ct Unit Unit (List (List Int)))
theorem rf_all_walks_rim_of (halves0 : (List Int)) (skin0 : ((List Int) × (List (Option Int)))) : RF (n_all_walks_rim_of halves0 skin0) (f_all_walks [.v ((eLs eI) halves0), .f "rim_of", .v ((eP2 (eTs eI) (eTs (eO eI))) skin0)]) (fun r => ((eTs (eTs eI)) r)) (fun r => [.no, .no, .no]) := rf_of (n := 8) (b := b_all_walks) (c0 := [.is (.v ((eLs eI) halves0)), .is (.f "rim_of"), .is (.v ((eP2 (eTs eI) (eTs (eO eI))) skin0)), .nw, .nw, .nw, .nw, .nw])
 (rs_asgM (rk_pure ep_dict0 (rk_asgM (rs_asgL (rk_pure (ep_lst ep_anil) (rk_asgL (rs_forK (rk_seq (rk_pure (d := ((eLs eI) halves0)) (ep_var (d := ((eLs eI) halves0)) rfl)  (rk_put rfl (rs_for (fe := eI) (c0 := (P2 fun met0 found0 => [.is (.v ((eLs eI) halves0)), .is (.f "rim_of"), .is (.v ((eP2 (eTs eI) (eTs (eO eI))) skin0)), .is (.m (eKv eI eB met0)), .is (.l (List.map (eTs eI) found0)), .nw, .nw, .nw])) (c1 := fun half0 => (P2 fun met0 found0 => [.is (.v ((eLs eI) halves0)), .is (.f "rim_of"), .is (.v ((eP2 (eTs eI) (eTs (eO eI))) skin0)), .is (.m (eKv eI eB met0)), .is (.l (List.map (eTs eI) found0)), .is (.v (eI half0)), .nw, .nw])) (s0 := (([] : (List (Int × Bool))), ([] : (List (List Int))))) (sub_cons wk_is (sub_cons wk_is (sub_cons wk_is (sub_cons wk_is (sub_cons wk_is (sub_cons wk_nw (sub_cons wk_nw (sub_cons wk_nw sub_nil)))))))) (fun _ ⟨met0, found0⟩ => gs_N) (fun half0 ⟨met0, found0⟩ => (rs_last (rs_if (rk_pure (d := (!(dhas met0 half0))) (ep_tst (ep_ninM (f := eI) (g := eB) (kvs := met0) (k := half0) (ep_var (d := (eI half0)) rfl) rfl)) (rk_ifF (rs_assoc (rs_asg (rk_callV (F := f_rim_of) (rk_rcons (rk_pure (d := ((eP2 (eTs eI) (eTs (eO eI))) skin0)) (ep_var (d := ((eP2 (eTs eI) (eTs (eO eI))) skin0)) rfl)  (rk_rcons (rk_pure (d := (eI half0)) (ep_var (d := (eI half0)) rfl)  (rk_rnil (rk_call (rf_rim_of skin0 half0) (fun r0 => (rk_asgN (rs_assoc (rs_forK (rk_seq (rk_pure (d := ((eTs eI) r0)) (ep_var (d := ((eTs eI) r0)) rfl)  (rk_put rfl (rs_for (fe := eI) (c0 := fun met1 => [.is (.v ((eLs eI) halves0)), .is (.f "rim_of"), .is (.v ((eP2 (eTs eI) (eTs (eO eI))) skin0)), .is (.m (eKv eI eB met1)), .is (.l (List.map (eTs eI) found0)), .is (.v (eI half0)), .is (.v ((eTs eI) r0)), .nw]) (c1 := fun one0 => fun met1 => [.is (.v ((eLs eI) halves0)), .is (.f "rim_of"), .is (.v ((eP2 (eTs eI) (eTs (eO eI))) skin0)), .is (.m (eKv eI eB met1)), .is (.l (List.map (eTs eI) found0)), .is (.v (eI half0)), .is (.v ((eTs eI) r0)), .is (.v (eI one0))]) (s0 := met0) (sub_cons wk_is (sub_cons wk_is (sub_cons wk_is (sub_cons wk_is (sub_cons wk_is (sub_cons wk_is (sub_cons wk_is (sub_cons wk_nw sub_nil)))))))) (fun _ met1 => gs_N) (fun one0 met1 => (rs_last (rs_putM (rk_pure (d := (eB true)) ep_C  (rk_kn (rk_pure (d := (eI one0)) (ep_var (d := (eI one0)) rfl)  (rk_putM (f := eI) (g := eB) (kk := one0) (v := true) (kvs := met1) fun met2 => (rs_nx fun _ he => he.sub (sub_cons wk_is (sub_cons wk_is (sub_cons wk_is (sub_cons wk_is (sub_cons wk_is (sub_cons wk_is (sub_cons wk_is (sub_cons wk_vnw sub_nil)))))))))))))))) (fun met3 => (rs_drop (rk_mo (xs := List.map (eTs eI) found0) (rk_acons (rk_pure (d := ((eTs eI) r0)) (ep_var (d := ((eTs eI) r0)) rfl)  (rk_anil (rk_app (fe := (eTs eI)) (xs := found0) (a := r0) fun found1 => (rs_nx fun _ he => he.sub (sub_cons wk_is (sub_cons wk_is (sub_cons wk_is (sub_cons wk_is (sub_cons wk_is (sub_cons wk_vnw (sub_cons wk_vnw (sub_cons wk_nw sub_nil)))))))))))))))))))))))) (fun _ _ _ _ => trivial)))))))))) (rs_nxs (rs_nx fun _ he => he.sub (sub_cons wk_is (sub_cons wk_is (sub_cons wk_is (sub_cons wk_is (sub_cons wk_is (sub_cons wk_vnw (sub_cons wk_nw (sub_cons wk_nw sub_nil))))))))))))))) (fun ⟨met4, found2⟩ => (rs_last (rs_ret (rk_pure (d := ((eTs (eTs eI)) found2)) (ep_tupO (xs := List.map (eTs eI) found2) rfl)  (rk_ret (r := found2) fun _ he => ⟨rfl, outs_of rfl rfl he⟩))))))))))))))))
def n_all_walks_seam_of (halves0 : (List Int)) (skin0 : ((List Int) × (List (Option Int)))) : N (List (List Int)) := Ct.fn (
 (forC (fun half0 => (P2 fun met0 found0 =>
 ((if (!(dhas met0 half0)) = true then
 (n_seam_of skin0 half0).ct fun r0 =>
 (forC (fun one0 => fun met1 =>
 ((putN met1 one0 true).ct fun met2 =>
 .nx met2 : Ct (List (Int × Bool)) (List (Int × Bool)) _)) r0 met0).sq fun met3 =>
 (appN found0 r0).ct fun found1 =>
 .nx (met3, found1) else
 .nx (met0, found0)) : Ct ((List (Int × Bool)) × (List (List Int))) ((List (Int × Bool)) × (List (List Int))) _))) halves0 (([] : (List (Int × Bool))), ([] : (List (List Int))))).sq (P2 fun met4 found2 =>
 .rt found2) : Ct Unit Unit (List (List Int)))
theorem rf_all_walks_seam_of (halves0 : (List Int)) (skin0 : ((List Int) × (List (Option Int)))) : RF (n_all_walks_seam_of halves0 skin0) (f_all_walks [.v ((eLs eI) halves0), .f "seam_of", .v ((eP2 (eTs eI) (eTs (eO eI))) skin0)]) (fun r => ((eTs (eTs eI)) r)) (fun r => [.no, .no, .no]) := rf_of (n := 8) (b := b_all_walks) (c0 := [.is (.v ((eLs eI) halves0)), .is (.f "seam_of"), .is (.v ((eP2 (eTs eI) (eTs (eO eI))) skin0)), .nw, .nw, .nw, .nw, .nw])
 (rs_asgM (rk_pure ep_dict0 (rk_asgM (rs_asgL (rk_pure (ep_lst ep_anil) (rk_asgL (rs_forK (rk_seq (rk_pure (d := ((eLs eI) halves0)) (ep_var (d := ((eLs eI) halves0)) rfl)  (rk_put rfl (rs_for (fe := eI) (c0 := (P2 fun met0 found0 => [.is (.v ((eLs eI) halves0)), .is (.f "seam_of"), .is (.v ((eP2 (eTs eI) (eTs (eO eI))) skin0)), .is (.m (eKv eI eB met0)), .is (.l (List.map (eTs eI) found0)), .nw, .nw, .nw])) (c1 := fun half0 => (P2 fun met0 found0 => [.is (.v ((eLs eI) halves0)), .is (.f "seam_of"), .is (.v ((eP2 (eTs eI) (eTs (eO eI))) skin0)), .is (.m (eKv eI eB met0)), .is (.l (List.map (eTs eI) found0)), .is (.v (eI half0)), .nw, .nw])) (s0 := (([] : (List (Int × Bool))), ([] : (List (List Int))))) (sub_cons wk_is (sub_cons wk_is (sub_cons wk_is (sub_cons wk_is (sub_cons wk_is (sub_cons wk_nw (sub_cons wk_nw (sub_cons wk_nw sub_nil)))))))) (fun _ ⟨met0, found0⟩ => gs_N) (fun half0 ⟨met0, found0⟩ => (rs_last (rs_if (rk_pure (d := (!(dhas met0 half0))) (ep_tst (ep_ninM (f := eI) (g := eB) (kvs := met0) (k := half0) (ep_var (d := (eI half0)) rfl) rfl)) (rk_ifF (rs_assoc (rs_asg (rk_callV (F := f_seam_of) (rk_rcons (rk_pure (d := ((eP2 (eTs eI) (eTs (eO eI))) skin0)) (ep_var (d := ((eP2 (eTs eI) (eTs (eO eI))) skin0)) rfl)  (rk_rcons (rk_pure (d := (eI half0)) (ep_var (d := (eI half0)) rfl)  (rk_rnil (rk_call (rf_seam_of skin0 half0) (fun r0 => (rk_asgN (rs_assoc (rs_forK (rk_seq (rk_pure (d := ((eTs eI) r0)) (ep_var (d := ((eTs eI) r0)) rfl)  (rk_put rfl (rs_for (fe := eI) (c0 := fun met1 => [.is (.v ((eLs eI) halves0)), .is (.f "seam_of"), .is (.v ((eP2 (eTs eI) (eTs (eO eI))) skin0)), .is (.m (eKv eI eB met1)), .is (.l (List.map (eTs eI) found0)), .is (.v (eI half0)), .is (.v ((eTs eI) r0)), .nw]) (c1 := fun one0 => fun met1 => [.is (.v ((eLs eI) halves0)), .is (.f "seam_of"), .is (.v ((eP2 (eTs eI) (eTs (eO eI))) skin0)), .is (.m (eKv eI eB met1)), .is (.l (List.map (eTs eI) found0)), .is (.v (eI half0)), .is (.v ((eTs eI) r0)), .is (.v (eI one0))]) (s0 := met0) (sub_cons wk_is (sub_cons wk_is (sub_cons wk_is (sub_cons wk_is (sub_cons wk_is (sub_cons wk_is (sub_cons wk_is (sub_cons wk_nw sub_nil)))))))) (fun _ met1 => gs_N) (fun one0 met1 => (rs_last (rs_putM (rk_pure (d := (eB true)) ep_C  (rk_kn (rk_pure (d := (eI one0)) (ep_var (d := (eI one0)) rfl)  (rk_putM (f := eI) (g := eB) (kk := one0) (v := true) (kvs := met1) fun met2 => (rs_nx fun _ he => he.sub (sub_cons wk_is (sub_cons wk_is (sub_cons wk_is (sub_cons wk_is (sub_cons wk_is (sub_cons wk_is (sub_cons wk_is (sub_cons wk_vnw sub_nil)))))))))))))))) (fun met3 => (rs_drop (rk_mo (xs := List.map (eTs eI) found0) (rk_acons (rk_pure (d := ((eTs eI) r0)) (ep_var (d := ((eTs eI) r0)) rfl)  (rk_anil (rk_app (fe := (eTs eI)) (xs := found0) (a := r0) fun found1 => (rs_nx fun _ he => he.sub (sub_cons wk_is (sub_cons wk_is (sub_cons wk_is (sub_cons wk_is (sub_cons wk_is (sub_cons wk_vnw (sub_cons wk_vnw (sub_cons wk_nw sub_nil)))))))))))))))))))))))) (fun _ _ _ _ => trivial)))))))))) (rs_nxs (rs_nx fun _ he => he.sub (sub_cons wk_is (sub_cons wk_is (sub_cons wk_is (sub_cons wk_is (sub_cons wk_is (sub_cons wk_vnw (sub_cons wk_nw (sub_cons wk_nw sub_nil))))))))))))))) (fun ⟨met4, found2⟩ => (rs_last (rs_ret (rk_pure (d := ((eTs (eTs eI)) found2)) (ep_tupO (xs := List.map (eTs eI) found2) rfl)  (rk_ret (r := found2) fun _ he => ⟨rfl, outs_of rfl rfl he⟩))))))))))))))))
def n_knots (skin0 : ((List Int) × (List (Option Int)))) : N (List (List Int)) := Ct.fn (
 (rngL (skin0.1.length : Int)).ct fun xs0 =>
 (n_all_walks_round_knot xs0 skin0).ct fun r0 =>
 .rt r0 : Ct Unit Unit (List (List Int)))
theorem rf_knots (skin0 : ((List Int) × (List (Option Int)))) : RF (n_knots skin0) (f_knots [.v ((eP2 (eTs eI) (eTs (eO eI))) skin0)]) (fun r => ((eTs (eTs eI)) r)) (fun r => [.no]) := rf_of (n := 1) (b := b_knots) (c0 := [.is (.v ((eP2 (eTs eI) (eTs (eO eI))) skin0))])
 (rs_last (rs_ret (rk_callN (rk_rcons (rk_elst (rk_lrng (j := (skin0.1.length : Int)) (ep_cb (ep_acons (ep_ixN (d := ((eP2 (eTs eI) (eTs (eO eI))) skin0)) ep_C rfl rfl) ep_anil) (len_T (f := eI) skin0.1)) fun xs0 => (rk_rfn (rk_rcons (rk_pure (d := ((eP2 (eTs eI) (eTs (eO eI))) skin0)) (ep_var (d := ((eP2 (eTs eI) (eTs (eO eI))) skin0)) rfl)  (rk_rnil (rk_call (rf_all_walks_round_knot xs0 skin0) (fun r0 => (rk_ret (r := r0) fun _ he => ⟨rfl, outs_of rfl rfl he⟩)) (fun _ _ _ _ => trivial))))))))))))
def n_patches (skin0 : ((List Int) × (List (Option Int)))) : N (List (List Int)) := Ct.fn (
 (rngL (skin0.1.length : Int)).ct fun xs0 =>
 (n_all_walks_patch_of xs0 skin0).ct fun r0 =>
 .rt r0 : Ct Unit Unit (List (List Int)))
theorem rf_patches (skin0 : ((List Int) × (List (Option Int)))) : RF (n_patches skin0) (f_patches [.v ((eP2 (eTs eI) (eTs (eO eI))) skin0)]) (fun r => ((eTs (eTs eI)) r)) (fun r => [.no]) := rf_of (n := 1) (b := b_patches) (c0 := [.is (.v ((eP2 (eTs eI) (eTs (eO eI))) skin0))])
 (rs_last (rs_ret (rk_callN (rk_rcons (rk_elst (rk_lrng (j := (skin0.1.length : Int)) (ep_cb (ep_acons (ep_ixN (d := ((eP2 (eTs eI) (eTs (eO eI))) skin0)) ep_C rfl rfl) ep_anil) (len_T (f := eI) skin0.1)) fun xs0 => (rk_rfn (rk_rcons (rk_pure (d := ((eP2 (eTs eI) (eTs (eO eI))) skin0)) (ep_var (d := ((eP2 (eTs eI) (eTs (eO eI))) skin0)) rfl)  (rk_rnil (rk_call (rf_all_walks_patch_of xs0 skin0) (fun r0 => (rk_ret (r := r0) fun _ he => ⟨rfl, outs_of rfl rfl he⟩)) (fun _ _ _ _ => trivial))))))))))))
def n_rims (skin0 : ((List Int) × (List (Option Int)))) : N (List (List Int)) := Ct.fn (
 (lcP (fun p0 => ((if (p0.2.isNone) = true then
 .rt p0.1 else .nx ()) : Ct Unit Unit Int)) (enumI skin0.2)).ct fun ys0 =>
 (n_all_walks_rim_of ys0 skin0).ct fun r0 =>
 .rt r0 : Ct Unit Unit (List (List Int)))
theorem rf_rims (skin0 : ((List Int) × (List (Option Int)))) : RF (n_rims skin0) (f_rims [.v ((eP2 (eTs eI) (eTs (eO eI))) skin0)]) (fun r => ((eTs (eTs eI)) r)) (fun r => [.no]) := rf_of (n := 3) (b := b_rims) (c0 := [.is (.v ((eP2 (eTs eI) (eTs (eO eI))) skin0)), .nw, .nw])
 (rs_last (rs_ret (rk_callN (rk_rcons (rk_elst (rk_lc (rk_enum (rk_acons (rk_pure (d := ((eTs (eO eI)) skin0.2)) (ep_ixN (d := ((eP2 (eTs eI) (eTs (eO eI))) skin0)) ep_C rfl rfl)  (rk_anil (rk_put (enum_T (eO eI) skin0.2) (rk_lcP (fe := (eP2 eI (eO eI))) (fb := eI) (ca := fun p0 => [.is (.v ((eP2 (eTs eI) (eTs (eO eI))) skin0)), .is (.v (eI p0.1)), .is (.v ((eO eI) p0.2))]) (fun _ => (gs_T (gss_cons gs_N (gss_cons gs_N gss_nil)))) (fun p0 => (rk_ck (rk_pure (d := (p0.2.isNone)) (ep_tst (ep_bin (ep_var (d := ((eO eI) p0.2)) rfl) ep_C (is_none (f := eI) p0.2))) (rk_ifF (rk_pure (d := (eI p0.1)) (ep_var (d := (eI p0.1)) rfl)  (rk_retC (fb := eI) (sub_cons wk_is (sub_cons wk_is (sub_cons wk_is sub_nil))))) (rs_nx fun _ he => he.sub (sub_cons wk_is (sub_cons wk_is (sub_cons wk_is sub_nil)))))))) (fun ys0 => (rk_rfn (rk_rcons (rk_pure (d := ((eP2 (eTs eI) (eTs (eO eI))) skin0)) (ep_var (d := ((eP2 (eTs eI) (eTs (eO eI))) skin0)) rfl)  (rk_rnil (rk_call (rf_all_walks_rim_of ys0 skin0) (fun r0 => (rk_ret (r := r0) fun _ he => ⟨rfl, outs_of rfl rfl he⟩)) (fun _ _ _ _ => trivial)))))))))))))))))))
def n_seams (skin0 : ((List Int) × (List (Option Int)))) : N (List (List Int)) := Ct.fn (
 (rngL (skin0.1.length : Int)).ct fun xs0 =>
 (n_all_walks_seam_of xs0 skin0).ct fun r0 =>
 .rt r0 : Ct Unit Unit (List (List Int)))
theorem rf_seams (skin0 : ((List Int) × (List (Option Int)))) : RF (n_seams skin0) (f_seams [.v ((eP2 (eTs eI) (eTs (eO eI))) skin0)]) (fun r => ((eTs (eTs eI)) r)) (fun r => [.no]) := rf_of (n := 1) (b := b_seams) (c0 := [.is (.v ((eP2 (eTs eI) (eTs (eO eI))) skin0))])
 (rs_last (rs_ret (rk_callN (rk_rcons (rk_elst (rk_lrng (j := (skin0.1.length : Int)) (ep_cb (ep_acons (ep_ixN (d := ((eP2 (eTs eI) (eTs (eO eI))) skin0)) ep_C rfl rfl) ep_anil) (len_T (f := eI) skin0.1)) fun xs0 => (rk_rfn (rk_rcons (rk_pure (d := ((eP2 (eTs eI) (eTs (eO eI))) skin0)) (ep_var (d := ((eP2 (eTs eI) (eTs (eO eI))) skin0)) rfl)  (rk_rnil (rk_call (rf_all_walks_seam_of xs0 skin0) (fun r0 => (rk_ret (r := r0) fun _ he => ⟨rfl, outs_of rfl rfl he⟩)) (fun _ _ _ _ => trivial))))))))))))
def n__law_walks (skin0 : ((List Int) × (List (Option Int)))) (word0 : Str) : N (List (List Int)) := Ct.fn (
 (rngN (skin0.1.length : Int)).ct fun xs0 =>
 (forC (fun half0 => (P2 fun found0 met0 =>
 ((Ct.fn ((if (!(dhas met0 half0)) = true then
 (Ct.fn ((eqN (eS word0) (eS ("rim" : Str))).ct fun b0 =>
 (if (!b0) = true then
 .rt true else
 (idx skin0.2 half0).ct fun a0 =>
 .rt (a0.isNone)) : Ct Unit Unit Bool)).ct fun b1 =>
 .rt b1 else
 .rt false) : Ct Unit Unit Bool)).ct fun b2 =>
 (if b2 = true then
 (Ct.sq ((eqN (eS word0) (eS ("knot" : Str))).ct fun b3 =>
 (if b3 = true then
 (n__law_knot skin0 half0).ct fun r0 =>
 .nx r0 else
 (eqN (eS word0) (eS ("patch" : Str))).ct fun b4 =>
 (if b4 = true then
 (n__law_patch skin0 half0).ct fun r1 =>
 .nx r1 else
 (eqN (eS word0) (eS ("rim" : Str))).ct fun b5 =>
 (if b5 = true then
 (n__law_rim skin0 half0).ct fun r2 =>
 .nx r2 else
 (idx skin0.2 half0).ct fun a1 =>
 (lcP (fun one0 => ((if (!one0.isNone) = true then
 (unw one0).ct fun one00 =>
 .rt one00 else .nx ()) : Ct Unit Unit Int)) [(some half0), a1]).ct fun ys0 =>
 .nx (sortI ys0)))) : Ct (List Int) _ _) fun row0 =>
 (appN found0 row0).ct fun found1 =>
 (forC (fun one1 => fun met1 =>
 ((putN met1 one1 true).ct fun met2 =>
 .nx met2 : Ct (List (Int × Bool)) (List (Int × Bool)) _)) row0 met0).sq fun met3 =>
 .nx (found1, met3)) else
 .nx (found0, met0)) : Ct ((List (List Int)) × (List (Int × Bool))) ((List (List Int)) × (List (Int × Bool))) _))) xs0 (([] : (List (List Int))), ([] : (List (Int × Bool))))).sq (P2 fun found2 met4 =>
 .rt found2) : Ct Unit Unit (List (List Int)))
theorem rf__law_walks (skin0 : ((List Int) × (List (Option Int)))) (word0 : Str) : RF (n__law_walks skin0 word0) (f__law_walks [.v ((eP2 (eTs eI) (eTs (eO eI))) skin0), .v (eS word0)]) (fun r => ((eTs (eTs eI)) r)) (fun r => [.no, .no]) := rf_of (n := 7) (b := b__law_walks) (c0 := [.is (.v ((eP2 (eTs eI) (eTs (eO eI))) skin0)), .is (.v (eS word0)), .nw, .nw, .nw, .nw, .nw])
 (rs_asgL (rk_pure (ep_lst ep_anil) (rk_asgL (rs_asgM (rk_pure ep_dict0 (rk_asgM (rs_forK (rk_rng (j := (skin0.1.length : Int)) (ep_acons (ep_cb (ep_acons (ep_ixN (d := ((eP2 (eTs eI) (eTs (eO eI))) skin0)) ep_C rfl rfl) ep_anil) (len_T (f := eI) skin0.1)) ep_anil) fun xs0 => (rs_for (fe := eI) (c0 := (P2 fun found0 met0 => [.is (.v ((eP2 (eTs eI) (eTs (eO eI))) skin0)), .is (.v (eS word0)), .is (.l (List.map (eTs eI) found0)), .is (.m (eKv eI eB met0)), .nw, .nw, .nw])) (c1 := fun half0 => (P2 fun found0 met0 => [.is (.v ((eP2 (eTs eI) (eTs (eO eI))) skin0)), .is (.v (eS word0)), .is (.l (List.map (eTs eI) found0)), .is (.m (eKv eI eB met0)), .is (.v (eI half0)), .nw, .nw])) (s0 := (([] : (List (List Int))), ([] : (List (Int × Bool))))) (sub_cons wk_is (sub_cons wk_is (sub_cons wk_is (sub_cons wk_is (sub_cons wk_nw (sub_cons wk_nw (sub_cons wk_nw sub_nil))))))) (fun _ ⟨found0, met0⟩ => gs_N) (fun half0 ⟨found0, met0⟩ => (rs_last (rs_if (rk_unitT (v := fun b2 => b2) (c' := fun b2 => [.is (.v ((eP2 (eTs eI) (eTs (eO eI))) skin0)), .is (.v (eS word0)), .is (.l (List.map (eTs eI) found0)), .is (.m (eKv eI eB met0)), .is (.v (eI half0)), .nw, .nw]) (rk_andT (rk_pure (d := (!(dhas met0 half0))) (ep_tst (ep_ninM (f := eI) (g := eB) (kvs := met0) (k := half0) (ep_var (d := (eI half0)) rfl) rfl)) (rk_ifF (rk_unitT (v := fun b1 => b1) (c' := fun b1 => [.is (.v ((eP2 (eTs eI) (eTs (eO eI))) skin0)), .is (.v (eS word0)), .is (.l (List.map (eTs eI) found0)), .is (.m (eKv eI eB met0)), .is (.v (eI half0)), .nw, .nw]) (rk_orT (rk_tst (rk_bin (rk_pure (d := (eS word0)) (ep_var (d := (eS word0)) rfl)  (rk_pure (d := (eS ("rim" : Str))) ep_C  (rk_neD (x := (eS word0)) (y := (eS ("rim" : Str))) fun b0 => (rk_put rfl (rk_ifF (rk_retT fun _ he => ⟨rfl, he.sub (sub_cons wk_is (sub_cons wk_is (sub_cons wk_is (sub_cons wk_is (sub_cons wk_is (sub_cons wk_nw (sub_cons wk_nw sub_nil)))))))⟩) (rk_tst (rk_bin (rk_bin (rk_pure (d := ((eTs (eO eI)) skin0.2)) (ep_ixN (d := ((eP2 (eTs eI) (eTs (eO eI))) skin0)) ep_C rfl rfl)  (rk_pure (d := (eI half0)) (ep_var (d := (eI half0)) rfl)  (rk_ixT (f := (eO eI)) (xs := skin0.2) fun a0 => (rk_pure (d := (eU ())) ep_C  (rk_put (is_none (f := eI) a0) (rk_put rfl (rk_retT fun _ he => ⟨rfl, he.sub (sub_cons wk_is (sub_cons wk_is (sub_cons wk_is (sub_cons wk_is (sub_cons wk_is (sub_cons wk_nw (sub_cons wk_nw sub_nil)))))))⟩)))))))))))))))))) (fun b1 => (rk_retT fun _ he => ⟨rfl, he.sub (sub_cons wk_is (sub_cons wk_is (sub_cons wk_is (sub_cons wk_is (sub_cons wk_is (sub_cons wk_nw (sub_cons wk_nw sub_nil)))))))⟩))) (rk_retT fun _ he => ⟨rfl, he.sub (sub_cons wk_is (sub_cons wk_is (sub_cons wk_is (sub_cons wk_is (sub_cons wk_is (sub_cons wk_nw (sub_cons wk_nw sub_nil)))))))⟩)))) (fun b2 => (rk_ifF (rs_assoc (rs_seq (c1 := fun row0 => [.is (.v ((eP2 (eTs eI) (eTs (eO eI))) skin0)), .is (.v (eS word0)), .is (.l (List.map (eTs eI) found0)), .is (.m (eKv eI eB met0)), .is (.v (eI half0)), .is (.v ((eTs eI) row0)), .nw]) (rs_if0 (rk_tst (rk_bin (rk_pure (d := (eS word0)) (ep_var (d := (eS word0)) rfl)  (rk_pure (d := (eS ("knot" : Str))) ep_C  (rk_eqD (x := (eS word0)) (y := (eS ("knot" : Str))) fun b3 => (rk_put rfl (rk_ifF (rs_last (rs_asg (rk_callN (rk_rcons (rk_pure (d := ((eP2 (eTs eI) (eTs (eO eI))) skin0)) (ep_var (d := ((eP2 (eTs eI) (eTs (eO eI))) skin0)) rfl)  (rk_rcons (rk_pure (d := (eI half0)) (ep_var (d := (eI half0)) rfl)  (rk_rnil (rk_call (rf__law_knot skin0 half0) (fun r0 => (rk_asgN (rs_nx fun _ he => he.sub (sub_cons wk_is (sub_cons wk_is (sub_cons wk_is (sub_cons wk_is (sub_cons wk_is (sub_cons wk_is (sub_cons wk_nw sub_nil)))))))))) (fun _ _ _ _ => trivial)))))))))) (rs_last (rs_if (rk_tst (rk_bin (rk_pure (d := (eS word0)) (ep_var (d := (eS word0)) rfl)  (rk_pure (d := (eS ("patch" : Str))) ep_C  (rk_eqD (x := (eS word0)) (y := (eS ("patch" : Str))) fun b4 => (rk_put rfl (rk_ifF (rs_asg (rk_callN (rk_rcons (rk_pure (d := ((eP2 (eTs eI) (eTs (eO eI))) skin0)) (ep_var (d := ((eP2 (eTs eI) (eTs (eO eI))) skin0)) rfl)  (rk_rcons (rk_pure (d := (eI half0)) (ep_var (d := (eI half0)) rfl)  (rk_rnil (rk_call (rf__law_patch skin0 half0) (fun r1 => (rk_asgN (rs_nx fun _ he => he.sub (sub_cons wk_is (sub_cons wk_is (sub_cons wk_is (sub_cons wk_is (sub_cons wk_is (sub_cons wk_is (sub_cons wk_nw sub_nil)))))))))) (fun _ _ _ _ => trivial))))))))) (rs_if (rk_tst (rk_bin (rk_pure (d := (eS word0)) (ep_var (d := (eS word0)) rfl)  (rk_pure (d := (eS ("rim" : Str))) ep_C  (rk_eqD (x := (eS word0)) (y := (eS ("rim" : Str))) fun b5 => (rk_put rfl (rk_ifF (rs_asg (rk_callN (rk_rcons (rk_pure (d := ((eP2 (eTs eI) (eTs (eO eI))) skin0)) (ep_var (d := ((eP2 (eTs eI) (eTs (eO eI))) skin0)) rfl)  (rk_rcons (rk_pure (d := (eI half0)) (ep_var (d := (eI half0)) rfl)  (rk_rnil (rk_call (rf__law_rim skin0 half0) (fun r2 => (rk_asgN (rs_nx fun _ he => he.sub (sub_cons wk_is (sub_cons wk_is (sub_cons wk_is (sub_cons wk_is (sub_cons wk_is (sub_cons wk_is (sub_cons wk_nw sub_nil)))))))))) (fun _ _ _ _ => trivial))))))))) (rs_asg (rk_cb (rk_acons (rk_elst (rk_cl (rk_acons (rk_elst (rk_lc (rk_seq (rk_tup (rk_acons (rk_pure (d := ((eO eI) (some half0))) (ep_var (d := (eI half0)) rfl)  (rk_acons (rk_bin (rk_pure (d := ((eTs (eO eI)) skin0.2)) (ep_ixN (d := ((eP2 (eTs eI) (eTs (eO eI))) skin0)) ep_C rfl rfl)  (rk_pure (d := (eI half0)) (ep_var (d := (eI half0)) rfl)  (rk_ixT (f := (eO eI)) (xs := skin0.2) fun a1 => (rk_anil (rk_put (if_pos (Nat.le_of_ble_eq_true rfl)) (rk_put rfl (rk_lcP (fe := (eO eI)) (fb := eI) (ca := fun one0 => [.is (.v ((eP2 (eTs eI) (eTs (eO eI))) skin0)), .is (.v (eS word0)), .is (.l (List.map (eTs eI) found0)), .is (.m (eKv eI eB met0)), .is (.v (eI half0)), .nw, .is (.v ((eO eI) one0))]) (fun _ => gs_N) (fun one0 => (rk_ck (rk_pure (d := (!one0.isNone)) (ep_tst (ep_bin (ep_var (d := ((eO eI) one0)) rfl) ep_C (isnt_none (f := eI) one0))) (rk_ifF (rk_pure (d := ((eO eI) one0)) (ep_var (d := ((eO eI) one0)) rfl)  (by apply rs_unw (x := one0); exact (fun one00 => (rk_retC (fb := eI) (sub_cons wk_is (sub_cons wk_is (sub_cons wk_is (sub_cons wk_is (sub_cons wk_is (sub_cons wk_nw (sub_cons wk_is sub_nil))))))))))) (rs_nx fun _ he => he.sub (sub_cons wk_is (sub_cons wk_is (sub_cons wk_is (sub_cons wk_is (sub_cons wk_is (sub_cons wk_nw (sub_cons wk_is sub_nil)))))))))))) (fun ys0 => (rk_anil (rk_put (sort_L ys0) (rk_anil (rk_put rfl (rk_asgN (rs_nx fun _ he => he.sub (sub_cons wk_is (sub_cons wk_is (sub_cons wk_is (sub_cons wk_is (sub_cons wk_is (sub_cons wk_is (sub_cons wk_nw sub_nil)))))))))))))))))))))))))))))))))))))))))))))))))))))))))))) (fun row0 => (rs_assoc (rs_drop (rk_mo (xs := List.map (eTs eI) found0) (rk_acons (rk_pure (d := ((eTs eI) row0)) (ep_var (d := ((eTs eI) row0)) rfl)  (rk_anil (rk_app (fe := (eTs eI)) (xs := found0) (a := row0) fun found1 => (rs_forK (rk_seq (rk_pure (d := ((eTs eI) row0)) (ep_var (d := ((eTs eI) row0)) rfl)  (rk_put rfl (rs_for (fe := eI) (c0 := fun met1 => [.is (.v ((eP2 (eTs eI) (eTs (eO eI))) skin0)), .is (.v (eS word0)), .is (.l (List.map (eTs eI) found1)), .is (.m (eKv eI eB met1)), .is (.v (eI half0)), .is (.v ((eTs eI) row0)), .nw]) (c1 := fun one1 => fun met1 => [.is (.v ((eP2 (eTs eI) (eTs (eO eI))) skin0)), .is (.v (eS word0)), .is (.l (List.map (eTs eI) found1)), .is (.m (eKv eI eB met1)), .is (.v (eI half0)), .is (.v ((eTs eI) row0)), .is (.v (eI one1))]) (s0 := met0) (sub_cons wk_is (sub_cons wk_is (sub_cons wk_is (sub_cons wk_is (sub_cons wk_is (sub_cons wk_is (sub_cons wk_nw sub_nil))))))) (fun _ met1 => gs_N) (fun one1 met1 => (rs_last (rs_putM (rk_pure (d := (eB true)) ep_C  (rk_kn (rk_pure (d := (eI one1)) (ep_var (d := (eI one1)) rfl)  (rk_putM (f := eI) (g := eB) (kk := one1) (v := true) (kvs := met1) fun met2 => (rs_nx fun _ he => he.sub (sub_cons wk_is (sub_cons wk_is (sub_cons wk_is (sub_cons wk_is (sub_cons wk_is (sub_cons wk_is (sub_cons wk_vnw sub_nil))))))))))))))) (fun met3 => (rs_nx fun _ he => he.sub (sub_cons wk_is (sub_cons wk_is (sub_cons wk_is (sub_cons wk_is (sub_cons wk_vnw (sub_cons wk_vnw (sub_cons wk_nw sub_nil)))))))))))))))))))))))) (rs_nxs (rs_nx fun _ he => he.sub (sub_cons wk_is (sub_cons wk_is (sub_cons wk_is (sub_cons wk_is (sub_cons wk_vnw (sub_cons wk_nw (sub_cons wk_nw sub_nil))))))))))))))) (fun ⟨found2, met4⟩ => (rs_last (rs_ret (rk_pure (d := ((eTs (eTs eI)) found2)) (ep_tupO (xs := List.map (eTs eI) found2) rfl)  (rk_ret (r := found2) fun _ he => ⟨rfl, outs_of rfl rfl he⟩))))))))))))))
def n__law_once (rows0 : (List (List Int))) (halves0 : (List Int)) : N Bool := Ct.fn (
 (forC (fun row0 => fun told0 =>
 ((extN told0 row0).ct fun told1 =>
 .nx told1 : Ct (List Int) (List Int) _)) rows0 ([] : (List Int))).sq fun told2 =>
 .rt (decide ((sortI told2) = halves0)) : Ct Unit Unit Bool)
theorem rf__law_once (rows0 : (List (List Int))) (halves0 : (List Int)) : RF (n__law_once rows0 halves0) (f__law_once [.v ((eTs (eTs eI)) rows0), .v ((eLs eI) halves0)]) (fun r => (eB r)) (fun r => [.no, .no]) := rf_of (n := 4) (b := b__law_once) (c0 := [.is (.v ((eTs (eTs eI)) rows0)), .is (.v ((eLs eI) halves0)), .nw, .nw])
 (rs_asgL (rk_pure (ep_lst ep_anil) (rk_asgL (rs_forK (rk_seq (rk_pure (d := ((eTs (eTs eI)) rows0)) (ep_var (d := ((eTs (eTs eI)) rows0)) rfl)  (rk_put rfl (rs_for (fe := (eTs eI)) (c0 := fun told0 => [.is (.v ((eTs (eTs eI)) rows0)), .is (.v ((eLs eI) halves0)), .is (.l (List.map eI told0)), .nw]) (c1 := fun row0 => fun told0 => [.is (.v ((eTs (eTs eI)) rows0)), .is (.v ((eLs eI) halves0)), .is (.l (List.map eI told0)), .is (.v ((eTs eI) row0))]) (s0 := ([] : (List Int))) (sub_cons wk_is (sub_cons wk_is (sub_cons wk_is (sub_cons wk_nw sub_nil)))) (fun _ told0 => gs_N) (fun row0 told0 => (rs_last (rs_drop (rk_mo (xs := List.map eI told0) (rk_acons (rk_pure (d := ((eTs eI) row0)) (ep_var (d := ((eTs eI) row0)) rfl)  (rk_anil (rk_extT (fe := eI) (xs := told0) (ys := row0) fun told1 => (rs_nx fun _ he => he.sub (sub_cons wk_is (sub_cons wk_is (sub_cons wk_is (sub_cons wk_vnw sub_nil))))))))))))) (fun told2 => (rs_last (rs_ret (rk_bin (rk_elst (rk_cl (rk_acons (rk_varL (rk_anil (rk_put (sort_L told2) (rk_pure (d := ((eLs eI) halves0)) (ep_var (d := ((eLs eI) halves0)) rfl)  (rk_put (eq_typed (f := (eLs eI)) (sortI told2) halves0) (rk_ret (r := (decide ((sortI told2) = halves0))) fun _ he => ⟨rfl, outs_of rfl rfl he⟩)))))))))))))))))))))
def n__law_begun (row0 : (List Int)) (half0 : Int) : N (List Int) := Ct.fn (
 (indexN row0 half0).ct fun i0 =>
 (catG (cutL row0 (some i0) none) (cutL row0 none (some i0))).ct fun _ =>
 .rt ((cutL row0 (some i0) none) ++ (cutL row0 none (some i0))) : Ct Unit Unit (List Int))
theorem rf__law_begun (row0 : (List Int)) (half0 : Int) : RF (n__law_begun row0 half0) (f__law_begun [.v ((eTs eI) row0), .v (eI half0)]) (fun r => ((eTs eI) r)) (fun r => [.no, .no]) := rf_of (n := 3) (b := b__law_begun) (c0 := [.is (.v ((eTs eI) row0)), .is (.v (eI half0)), .nw])
 (rs_asg (rk_index (rk_pure (d := ((eTs eI) row0)) (ep_var (d := ((eTs eI) row0)) rfl)  (rk_idxT (rk_pure (d := (eI half0)) (ep_var (d := (eI half0)) rfl)  (rk_idxP (xs := row0) (i := half0) fun i0 => (rk_asgN (rs_last (rs_ret (rk_bin (rk_pure (d := ((eTs eI) (cutL row0 (some i0) none))) (ep_sl (ep_var (d := ((eTs eI) row0)) rfl) (ep_ptS (ep_var (d := (eI i0)) rfl)) ep_ptN (sl_T (f := eI) row0 (some i0) none))  (rk_pure (d := ((eTs eI) (cutL row0 none (some i0)))) (ep_sl (ep_var (d := ((eTs eI) row0)) rfl) ep_ptN (ep_ptS (ep_var (d := (eI i0)) rfl)) (sl_T (f := eI) row0 none (some i0)))  (rk_catT (f := eI) (xs := (cutL row0 (some i0) none)) (ys := (cutL row0 none (some i0))) (rk_ret (r := ((cutL row0 (some i0) none) ++ (cutL row0 none (some i0)))) fun _ he => ⟨rfl, outs_of rfl rfl he⟩))))))))))))))
def n_is_at_rim (skin0 : ((List Int) × (List (Option Int)))) (half0 : Int) : N Bool := Ct.fn (
 (n_round_knot skin0 half0).ct fun r0 =>
 (idx r0 (0 : Int)).ct fun a0 =>
 (idx skin0.2 a0).ct fun a1 =>
 .rt (a1.isNone) : Ct Unit Unit Bool)
theorem rf_is_at_rim (skin0 : ((List Int) × (List (Option Int)))) (half0 : Int) : RF (n_is_at_rim skin0 half0) (f_is_at_rim [.v ((eP2 (eTs eI) (eTs (eO eI))) skin0), .v (eI half0)]) (fun r => (eB r)) (fun r => [.no, .no]) := rf_of (n := 2) (b := b_is_at_rim) (c0 := [.is (.v ((eP2 (eTs eI) (eTs (eO eI))) skin0)), .is (.v (eI half0))])
 (rs_last (rs_ret (rk_bin (rk_bin (rk_pure (d := ((eTs (eO eI)) skin0.2)) (ep_ixN (d := ((eP2 (eTs eI) (eTs (eO eI))) skin0)) ep_C rfl rfl)  (rk_bin (rk_callN (rk_rcons (rk_pure (d := ((eP2 (eTs eI) (eTs (eO eI))) skin0)) (ep_var (d := ((eP2 (eTs eI) (eTs (eO eI))) skin0)) rfl)  (rk_rcons (rk_pure (d := (eI half0)) (ep_var (d := (eI half0)) rfl)  (rk_rnil (rk_call (rf_round_knot skin0 half0) (fun r0 => (rk_pure (d := (eI (0 : Int))) ep_C  (rk_ixT (f := eI) (xs := r0) fun a0 => (rk_ixT (f := (eO eI)) (xs := skin0.2) fun a1 => (rk_pure (d := (eU ())) ep_C  (rk_put (is_none (f := eI) a1) (rk_ret (r := (a1.isNone)) fun _ he => ⟨rfl, outs_of rfl rfl he⟩))))))) (fun _ _ _ _ => trivial))))))))))))))
end
end NW
/- part K03N -/
set_option Elab.async false
set_option linter.all false
set_option maxRecDepth 100000
set_option maxHeartbeats 4000000
namespace K03
open PySem L2 DL LW NT NW
noncomputable section
def n__law_asked (way0 : Int) (skin0 : ((List Int) × (List (Option Int)))) (half0 : Int) : N (D × Str) := Ct.fn (
 (Ct.sq (tryC ((if (decide (way0 = (0 : Int))) = true then
 (n_ahead_of skin0 half0).ct fun r0 =>
 .nx (("" : Str), (eI r0)) else
 (if (decide (way0 = (1 : Int))) = true then
 (n_left_of skin0 half0).ct fun r1 =>
 .nx (("" : Str), ((eO eI) r1)) else
 (if (decide (way0 = (2 : Int))) = true then
 (n_right_of skin0 half0).ct fun r2 =>
 .nx (("" : Str), ((eO eI) r2)) else
 (if (decide (way0 = (3 : Int))) = true then
 (n_patch_of skin0 half0).ct fun r3 =>
 .nx (("" : Str), ((eTs eI) r3)) else
 (if (decide (way0 = (4 : Int))) = true then
 (n_round_knot skin0 half0).ct fun r4 =>
 .nx (("" : Str), ((eTs eI) r4)) else
 (n_rim_of skin0 half0).ct fun r5 =>
 .nx (("" : Str), ((eTs eI) r5))))))) : Ct (Str × D) _ _) fun x => (kindT x [("SkinError", none)]).ct fun s0 => .nx (s0, (eU ()))) (P2 fun kind0 found0 =>
 .rt (found0, kind0))) : Ct Unit Unit (D × Str))
theorem rf__law_asked (way0 : Int) (skin0 : ((List Int) × (List (Option Int)))) (half0 : Int) : RF (n__law_asked way0 skin0 half0) (f__law_asked [.v (eI way0), .v ((eP2 (eTs eI) (eTs (eO eI))) skin0), .v (eI half0)]) (fun r => ((eP2 eD eS) r)) (fun r => [.no, .no, .no]) := rf_of (n := 6) (b := b__law_asked) (c0 := [.is (.v (eI way0)), .is (.v ((eP2 (eTs eI) (eTs (eO eI))) skin0)), .is (.v (eI half0)), .nw, .nw, .nw])
 (rs_asg (rk_pure (d := (eS ("" : Str))) ep_C  (rk_asgN (rs_asg (rk_pure (d := (eU ())) ep_C  (rk_asgN (rs_try (hl := [("SkinError", none)]) (c1 := (P2 fun kind0 found0 => [.is (.v (eI way0)), .is (.v ((eP2 (eTs eI) (eTs (eO eI))) skin0)), .is (.v (eI half0)), .is (.v (eS kind0)), .is (.v found0), .nw])) (cx := [.is (.v (eI way0)), .is (.v ((eP2 (eTs eI) (eTs (eO eI))) skin0)), .is (.v (eI half0)), .is (.v (eS ("" : Str))), .is (.v (eU ())), .nw]) (V := fun s0 => (s0, (eU ()))) (rs_last (rs_if (rk_pure (d := (decide (way0 = (0 : Int)))) (ep_tst (ep_bin (ep_var (d := (eI way0)) rfl) ep_C (eq_typed (f := eI) way0 (0 : Int)))) (rk_ifF (rs_asg (rk_callN (rk_rcons (rk_pure (d := ((eP2 (eTs eI) (eTs (eO eI))) skin0)) (ep_var (d := ((eP2 (eTs eI) (eTs (eO eI))) skin0)) rfl)  (rk_rcons (rk_pure (d := (eI half0)) (ep_var (d := (eI half0)) rfl)  (rk_rnil (rk_call (rf_ahead_of skin0 half0) (fun r0 => (rk_asgN (rs_nx fun _ he => he.sub (sub_cons wk_is (sub_cons wk_is (sub_cons wk_is (sub_cons wk_is (sub_cons wk_is (sub_cons wk_nw sub_nil))))))))) (fun _ _ h h2 => by rw [h2 rfl]; exact h.sub (sub_cons wk_is (sub_cons wk_is (sub_cons wk_is (sub_cons wk_is (sub_cons wk_is (sub_cons wk_nw sub_nil))))))))))))))) (rs_if (rk_pure (d := (decide (way0 = (1 : Int)))) (ep_tst (ep_bin (ep_var (d := (eI way0)) rfl) ep_C (eq_typed (f := eI) way0 (1 : Int)))) (rk_ifF (rs_asg (rk_callN (rk_rcons (rk_pure (d := ((eP2 (eTs eI) (eTs (eO eI))) skin0)) (ep_var (d := ((eP2 (eTs eI) (eTs (eO eI))) skin0)) rfl)  (rk_rcons (rk_pure (d := (eI half0)) (ep_var (d := (eI half0)) rfl)  (rk_rnil (rk_call (rf_left_of skin0 half0) (fun r1 => (rk_asgN (rs_nx fun _ he => he.sub (sub_cons wk_is (sub_cons wk_is (sub_cons wk_is (sub_cons wk_is (sub_cons wk_is (sub_cons wk_nw sub_nil))))))))) (fun _ _ h h2 => by rw [h2 rfl]; exact h.sub (sub_cons wk_is (sub_cons wk_is (sub_cons wk_is (sub_cons wk_is (sub_cons wk_is (sub_cons wk_nw sub_nil))))))))))))))) (rs_if (rk_pure (d := (decide (way0 = (2 : Int)))) (ep_tst (ep_bin (ep_var (d := (eI way0)) rfl) ep_C (eq_typed (f := eI) way0 (2 : Int)))) (rk_ifF (rs_asg (rk_callN (rk_rcons (rk_pure (d := ((eP2 (eTs eI) (eTs (eO eI))) skin0)) (ep_var (d := ((eP2 (eTs eI) (eTs (eO eI))) skin0)) rfl)  (rk_rcons (rk_pure (d := (eI half0)) (ep_var (d := (eI half0)) rfl)  (rk_rnil (rk_call (rf_right_of skin0 half0) (fun r2 => (rk_asgN (rs_nx fun _ he => he.sub (sub_cons wk_is (sub_cons wk_is (sub_cons wk_is (sub_cons wk_is (sub_cons wk_is (sub_cons wk_nw sub_nil))))))))) (fun _ _ h h2 => by rw [h2 rfl]; exact h.sub (sub_cons wk_is (sub_cons wk_is (sub_cons wk_is (sub_cons wk_is (sub_cons wk_is (sub_cons wk_nw sub_nil))))))))))))))) (rs_if (rk_pure (d := (decide (way0 = (3 : Int)))) (ep_tst (ep_bin (ep_var (d := (eI way0)) rfl) ep_C (eq_typed (f := eI) way0 (3 : Int)))) (rk_ifF (rs_asg (rk_callN (rk_rcons (rk_pure (d := ((eP2 (eTs eI) (eTs (eO eI))) skin0)) (ep_var (d := ((eP2 (eTs eI) (eTs (eO eI))) skin0)) rfl)  (rk_rcons (rk_pure (d := (eI half0)) (ep_var (d := (eI half0)) rfl)  (rk_rnil (rk_call (rf_patch_of skin0 half0) (fun r3 => (rk_asgN (rs_nx fun _ he => he.sub (sub_cons wk_is (sub_cons wk_is (sub_cons wk_is (sub_cons wk_is (sub_cons wk_is (sub_cons wk_nw sub_nil))))))))) (fun _ _ h h2 => by rw [h2 rfl]; exact h.sub (sub_cons wk_is (sub_cons wk_is (sub_cons wk_is (sub_cons wk_is (sub_cons wk_is (sub_cons wk_nw sub_nil))))))))))))))) (rs_if (rk_pure (d := (decide (way0 = (4 : Int)))) (ep_tst (ep_bin (ep_var (d := (eI way0)) rfl) ep_C (eq_typed (f := eI) way0 (4 : Int)))) (rk_ifF (rs_asg (rk_callN (rk_rcons (rk_pure (d := ((eP2 (eTs eI) (eTs (eO eI))) skin0)) (ep_var (d := ((eP2 (eTs eI) (eTs (eO eI))) skin0)) rfl)  (rk_rcons (rk_pure (d := (eI half0)) (ep_var (d := (eI half0)) rfl)  (rk_rnil (rk_call (rf_round_knot skin0 half0) (fun r4 => (rk_asgN (rs_nx fun _ he => he.sub (sub_cons wk_is (sub_cons wk_is (sub_cons wk_is (sub_cons wk_is (sub_cons wk_is (sub_cons wk_nw sub_nil))))))))) (fun _ _ h h2 => by rw [h2 rfl]; exact h.sub (sub_cons wk_is (sub_cons wk_is (sub_cons wk_is (sub_cons wk_is (sub_cons wk_is (sub_cons wk_nw sub_nil))))))))))))))) (rs_asg (rk_callN (rk_rcons (rk_pure (d := ((eP2 (eTs eI) (eTs (eO eI))) skin0)) (ep_var (d := ((eP2 (eTs eI) (eTs (eO eI))) skin0)) rfl)  (rk_rcons (rk_pure (d := (eI half0)) (ep_var (d := (eI half0)) rfl)  (rk_rnil (rk_call (rf_rim_of skin0 half0) (fun r5 => (rk_asgN (rs_nx fun _ he => he.sub (sub_cons wk_is (sub_cons wk_is (sub_cons wk_is (sub_cons wk_is (sub_cons wk_is (sub_cons wk_nw sub_nil))))))))) (fun _ _ h h2 => by rw [h2 rfl]; exact h.sub (sub_cons wk_is (sub_cons wk_is (sub_cons wk_is (sub_cons wk_is (sub_cons wk_is (sub_cons wk_nw sub_nil))))))))))))))))))))))))))))))) (fun s0 => (sub_cons wk_is (sub_cons wk_is (sub_cons wk_is (sub_cons wk_is (sub_cons wk_is (sub_cons wk_nw sub_nil))))))) (fun ⟨kind0, found0⟩ => (rs_last (rs_ret (rk_pure (d := ((eP2 eD eS) (found0, kind0))) (ep_tup (ep_acons (ep_var (d := found0) rfl) (ep_acons (ep_var (d := (eS kind0)) rfl) ep_anil)))  (rk_ret (r := (found0, kind0)) fun _ he => ⟨rfl, outs_of rfl rfl he⟩))))) (fun _ _ => trivial))))))))
def n__law_none_right (skin0 : ((List Int) × (List (Option Int)))) (half0 : Int) : N Bool := Ct.fn (
 (rngN (6 : Int)).ct fun xs0 =>
 (lcP (fun way0 => ((n__law_asked way0 skin0 half0).ct fun r0 =>
 .rt r0 : Ct Unit Unit (D × Str))) xs0).ct fun ys0 =>
 (repN ((), ("NoHalf+" : Str)) (6 : Int)).ct fun xs1 =>
 (eqN ((eLs (eP2 eD eS)) ys0) ((eLs (eP2 eU eS)) xs1)).ct fun b0 =>
 .rt b0 : Ct Unit Unit Bool)
theorem rf__law_none_right (skin0 : ((List Int) × (List (Option Int)))) (half0 : Int) : RF (n__law_none_right skin0 half0) (f__law_none_right [.v ((eP2 (eTs eI) (eTs (eO eI))) skin0), .v (eI half0)]) (fun r => (eB r)) (fun r => [.no, .no]) := rf_of (n := 3) (b := b__law_none_right) (c0 := [.is (.v ((eP2 (eTs eI) (eTs (eO eI))) skin0)), .is (.v (eI half0)), .nw])
 (rs_last (rs_ret (rk_bin (rk_elst (rk_lc (rk_rng (j := (6 : Int)) (ep_acons ep_C ep_anil) fun xs0 => (rk_lcP (fe := eI) (fb := (eP2 eD eS)) (ca := fun way0 => [.is (.v ((eP2 (eTs eI) (eTs (eO eI))) skin0)), .is (.v (eI half0)), .is (.v (eI way0))]) (fun _ => gs_N) (fun way0 => (rk_ck1 (rk_callN (rk_rcons (rk_pure (d := (eI way0)) (ep_var (d := (eI way0)) rfl)  (rk_rcons (rk_pure (d := ((eP2 (eTs eI) (eTs (eO eI))) skin0)) (ep_var (d := ((eP2 (eTs eI) (eTs (eO eI))) skin0)) rfl)  (rk_rcons (rk_pure (d := (eI half0)) (ep_var (d := (eI half0)) rfl)  (rk_rnil (rk_call (rf__law_asked way0 skin0 half0) (fun r0 => (rk_retC (fb := (eP2 eD eS)) (sub_cons wk_is (sub_cons wk_is (sub_cons wk_is sub_nil))))) (fun _ _ _ _ => trivial)))))))))))) (fun ys0 => (rk_elst (rk_rep (f := (eP2 eU eS)) (a := ((), ("NoHalf+" : Str))) (n := (6 : Int)) (ep_lst (ep_acons (ep_tup (ep_acons ep_C (ep_acons ep_C ep_anil))) ep_anil)) ep_C fun xs1 => (rk_eqD (x := ((eLs (eP2 eD eS)) ys0)) (y := ((eLs (eP2 eU eS)) xs1)) fun b0 => (rk_ret (r := b0) fun _ he => ⟨rfl, outs_of rfl rfl he⟩))))))))))))
def n_law (script0 : (List Int)) : N Bool := Ct.fn (
 (rngN ((1 : Int) + (imin (script0.length : Int) (20 : Int)))).ct fun xs0 =>
 (forC (fun k0 => fun (_ : Unit) =>
 ((n__law_bag script0 k0).ct fun r0 =>
 (n__law_take r0 (8 : Int)).ct (P2 fun r1 bag0 =>
 (idx [(30 : Int), (400 : Int)] (b2i (decide (r1 = (0 : Int))))).ct fun a0 =>
 (n__law_skin bag0 a0).ct (P2 fun r2 bag1 =>
 (rngL (r2.1.length : Int)).ct fun xs1 =>
 (Ct.sq ((if (decide ((30 : Int) < (r2.1.length : Int))) = true then
 (rngN (20 : Int)).ct fun xs2 =>
 (lcS (fun turn0 => fun bag3 => ((n__law_take bag3 (r2.1.length : Int)).ct (P2 fun r3 bag4 =>
 .rt (r3, bag4)) : Ct (List Int) Unit (Int × (List Int)))) xs2 bag1).ct (P2 fun ys0 => fun bag5 =>
 .nx (bag5, ys0)) else
 .nx (bag1, xs1)) : Ct ((List Int) × (List Int)) _ _) (P2 fun bag2 halves0 =>
 (forC (fun half0 => fun (_ : Unit) =>
 ((indexN r2.1 half0).ct fun i0 =>
 (n__law_left r2 half0).ct fun r4 =>
 (n__law_right r2 half0).ct fun r5 =>
 (rngN (3 : Int)).ct fun xs3 =>
 (lcP (fun way0 => ((n__law_asked way0 r2 half0).ct fun r6 =>
 .rt r6 : Ct Unit Unit (D × Str))) xs3).ct fun ys1 =>
 (Ct.fn ((lcP (fun one0 => (.rt (one0, ("" : Str)) : Ct Unit Unit ((Option Int) × Str))) [(some i0), r4, r5]).ct fun ys2 =>
 (eqN ((eLs (eP2 eD eS)) ys1) ((eLs (eP2 (eO eI) eS)) ys2)).ct fun b0 =>
 (if (!b0) = true then
 .rt true else
 (lcP (fun one1 => ((if (isBoolD one1.1) = true then
 .rt one1 else .nx ()) : Ct Unit Unit (D × Str))) ys1).ct fun ys3 =>
 (eqN ((eLs (eP2 eD eS)) ys3) ((eLs (eP2 eD eS)) ([] : (List (D × Str))))).ct fun b1 =>
 .rt (!b1)) : Ct Unit Unit Bool)).ct fun b2 =>
 (if b2 = true then
 .rt false else
 .nx ()) : Ct Unit Unit _)) halves0 ()).sq fun (_ : Unit) =>
 (powN (10 : Int) (8 : Int)).ct fun n0 =>
 (n__law_take bag2 (9 : Int)).ct (P2 fun r7 bag6 =>
 (forC (fun half1 => fun (_ : Unit) =>
 ((n__law_none_right r2 half1).ct fun r8 =>
 (if (!r8) = true then
 .rt false else
 .nx ()) : Ct Unit Unit _)) [(-1 : Int), (r2.1.length : Int), (-(r2.1.length : Int)), n0, ((r2.1.length : Int) + r7)] ()).sq fun (_ : Unit) =>
 .nx ()))))) : Ct Unit Unit _)) xs0 ()).sq fun (_ : Unit) =>
 .rt true : Ct Unit Unit Bool)
theorem rf_law (script0 : (List Int)) : RF (n_law script0) (f_law [.v ((eLs eI) script0)]) (fun r => (eB r)) (fun r => [.no]) := rf_of (n := 12) (b := b_law) (c0 := [.is (.v ((eLs eI) script0)), .nw, .nw, .nw, .nw, .nw, .nw, .nw, .nw, .nw, .nw, .nw])
 (rs_forK (rk_rng (j := ((1 : Int) + (imin (script0.length : Int) (20 : Int)))) (ep_acons (ep_bin ep_C (ep_cb (ep_acons (ep_cb (ep_acons (ep_var (d := ((eLs eI) script0)) rfl) ep_anil) (len_L (f := eI) script0)) (ep_acons ep_C ep_anil)) rfl) rfl) ep_anil) fun xs0 => (rs_for (fe := eI) (c0 := fun (_ : Unit) => [.is (.v ((eLs eI) script0)), .nw, .np, .nw, .nw, .nw, .nw, .nw, .nw, .nw, .nw, .nw]) (c1 := fun k0 => fun (_ : Unit) => [.is (.v ((eLs eI) script0)), .is (.v (eI k0)), .np, .nw, .nw, .nw, .nw, .nw, .nw, .nw, .nw, .nw]) (s0 := ()) (sub_cons wk_is (sub_cons wk_nw (sub_cons wk_nwnp (sub_cons wk_nw (sub_cons wk_nw (sub_cons wk_nw (sub_cons wk_nw (sub_cons wk_nw (sub_cons wk_nw (sub_cons wk_nw (sub_cons wk_nw (sub_cons wk_nw sub_nil)))))))))))) (fun _ _ => gs_N) (fun k0 _ => (rs_asgL (rk_callNL (rk_rcons (rk_pure (d := ((eLs eI) script0)) (ep_var (d := ((eLs eI) script0)) rfl)  (rk_rcons (rk_pure (d := (eI k0)) (ep_var (d := (eI k0)) rfl)  (rk_rnil (rk_callL (rf__law_bag script0 k0) (fun r0 => (rk_asgL (rs_asg (rk_callN (rk_lend (rk_rcons (rk_bin (rk_pure (d := ((eLs eI) [(30 : Int), (400 : Int)])) (ep_elst (ep_lst (ep_acons ep_C (ep_acons ep_C ep_anil))))  (rk_cb (rk_acons (rk_bin (rk_callN (rk_lend (rk_rcons (rk_pure (d := (eI (8 : Int))) ep_C  (rk_rnil (rk_lendK (rk_call (rf__law_take r0 (8 : Int)) (fun ⟨r1, bag0⟩ => (rk_pure (d := (eI (0 : Int))) ep_C  (rk_put (eq_typed (f := eI) r1 (0 : Int)) (rk_anil (rk_put rfl (rk_ixL (f := eI) (xs := [(30 : Int), (400 : Int)]) fun a0 => (rk_rnil (rk_lendK (rk_call (rf__law_skin bag0 a0) (fun ⟨r2, bag1⟩ => (rk_asgN (rs_asg (rk_pure (d := (eI (r2.1.length : Int))) (ep_cb (ep_acons (ep_ixN (d := ((eP2 (eTs eI) (eTs (eO eI))) r2)) ep_C rfl rfl) ep_anil) (len_T (f := eI) r2.1))  (rk_asgN (rs_asg (rk_elst (rk_lrng (j := (r2.1.length : Int)) (ep_var (d := (eI (r2.1.length : Int))) rfl) fun xs1 => (rk_asgN (rs_seq (c1 := (P2 fun bag2 halves0 => [.is (.v ((eLs eI) script0)), .is (.v (eI k0)), .is (.l (List.map eI bag2)), .is (.v ((eP2 (eTs eI) (eTs (eO eI))) r2)), .is (.v (eI (r2.1.length : Int))), .is (.v ((eLs eI) halves0)), .nw, .nw, .nw, .nw, .nw, .nw])) (rs_if0 (rk_pure (d := (decide ((30 : Int) < (r2.1.length : Int)))) (ep_tst (ep_bin (ep_var (d := (eI (r2.1.length : Int))) rfl) ep_C rfl)) (rk_ifF (rs_last (rs_asg (rk_elst (rk_lc (rk_rng (j := (20 : Int)) (ep_acons ep_C ep_anil) fun xs2 => (rk_lcS (fe := eI) (fb := eI) (cs := fun bag3 => [.is (.v ((eLs eI) script0)), .is (.v (eI k0)), .is (.l (List.map eI bag3)), .is (.v ((eP2 (eTs eI) (eTs (eO eI))) r2)), .is (.v (eI (r2.1.length : Int))), .is (.v ((eLs eI) xs1)), .nw, .nw, .nw, .nw, .nw, .nw]) (ca := fun turn0 => fun bag3 => [.is (.v ((eLs eI) script0)), .is (.v (eI k0)), .is (.l (List.map eI bag3)), .is (.v ((eP2 (eTs eI) (eTs (eO eI))) r2)), .is (.v (eI (r2.1.length : Int))), .is (.v ((eLs eI) xs1)), .nw, .nw, .nw, .is (.v (eI turn0)), .nw, .nw]) (s0 := bag1) (sub_cons wk_is (sub_cons wk_is (sub_cons wk_is (sub_cons wk_is (sub_cons wk_is (sub_cons wk_is (sub_cons wk_nw (sub_cons wk_nw (sub_cons wk_nw (sub_cons wk_nw (sub_cons wk_nw (sub_cons wk_nw sub_nil)))))))))))) (fun _ bag3 => gs_N) (fun turn0 bag3 => (rk_ck1 (rk_callN (rk_lend (rk_rcons (rk_pure (d := (eI (r2.1.length : Int))) (ep_var (d := (eI (r2.1.length : Int))) rfl)  (rk_rnil (rk_lendK (rk_call (rf__law_take bag3 (r2.1.length : Int)) (fun ⟨r3, bag4⟩ => (rk_retCS (b := (r3, bag4)) (fb := eI) (sub_cons wk_is (sub_cons wk_is (sub_cons wk_is (sub_cons wk_is (sub_cons wk_is (sub_cons wk_is (sub_cons wk_nw (sub_cons wk_nw (sub_cons wk_nw (sub_cons wk_is (sub_cons wk_nw (sub_cons wk_nw sub_nil)))))))))))))) (fun _ _ _ _ => trivial)))))))))) (fun ⟨ys0, bag5⟩ => (rk_asgN (rs_nx fun _ he => he.sub (sub_cons wk_is (sub_cons wk_is (sub_cons wk_is (sub_cons wk_is (sub_cons wk_is (sub_cons wk_is (sub_cons wk_nw (sub_cons wk_nw (sub_cons wk_nw (sub_cons wk_nw (sub_cons wk_nw (sub_cons wk_nw sub_nil))))))))))))))))))))) (rs_nx fun _ he => he.sub (sub_cons wk_is (sub_cons wk_is (sub_cons wk_is (sub_cons wk_is (sub_cons wk_is (sub_cons wk_is (sub_cons wk_nw (sub_cons wk_nw (sub_cons wk_nw (sub_cons wk_nw (sub_cons wk_nw (sub_cons wk_nw sub_nil)))))))))))))))) (fun ⟨bag2, halves0⟩ => (rs_forK (rk_seq (rk_pure (d := ((eLs eI) halves0)) (ep_var (d := ((eLs eI) halves0)) rfl)  (rk_put rfl (rs_for (fe := eI) (c0 := fun (_ : Unit) => [.is (.v ((eLs eI) script0)), .is (.v (eI k0)), .is (.l (List.map eI bag2)), .is (.v ((eP2 (eTs eI) (eTs (eO eI))) r2)), .is (.v (eI (r2.1.length : Int))), .is (.v ((eLs eI) halves0)), .nw, .nw, .nw, .nw, .nw, .nw]) (c1 := fun half0 => fun (_ : Unit) => [.is (.v ((eLs eI) script0)), .is (.v (eI k0)), .is (.l (List.map eI bag2)), .is (.v ((eP2 (eTs eI) (eTs (eO eI))) r2)), .is (.v (eI (r2.1.length : Int))), .is (.v ((eLs eI) halves0)), .is (.v (eI half0)), .nw, .nw, .nw, .nw, .nw]) (s0 := ()) (sub_cons wk_is (sub_cons wk_is (sub_cons wk_is (sub_cons wk_is (sub_cons wk_is (sub_cons wk_is (sub_cons wk_nw (sub_cons wk_nw (sub_cons wk_nw (sub_cons wk_nw (sub_cons wk_nw (sub_cons wk_nw sub_nil)))))))))))) (fun _ _ => gs_N) (fun half0 _ => (rs_asg (rk_elst (rk_lst (rk_acons (rk_index (rk_pure (d := ((eTs eI) r2.1)) (ep_ixN (d := ((eP2 (eTs eI) (eTs (eO eI))) r2)) ep_C rfl rfl)  (rk_idxT (rk_pure (d := (eI half0)) (ep_var (d := (eI half0)) rfl)  (rk_idxP (xs := r2.1) (i := half0) fun i0 => (rk_acons (rk_callN (rk_rcons (rk_pure (d := ((eP2 (eTs eI) (eTs (eO eI))) r2)) (ep_var (d := ((eP2 (eTs eI) (eTs (eO eI))) r2)) rfl)  (rk_rcons (rk_pure (d := (eI half0)) (ep_var (d := (eI half0)) rfl)  (rk_rnil (rk_call (rf__law_left r2 half0) (fun r4 => (rk_acons (rk_callN (rk_rcons (rk_pure (d := ((eP2 (eTs eI) (eTs (eO eI))) r2)) (ep_var (d := ((eP2 (eTs eI) (eTs (eO eI))) r2)) rfl)  (rk_rcons (rk_pure (d := (eI half0)) (ep_var (d := (eI half0)) rfl)  (rk_rnil (rk_call (rf__law_right r2 half0) (fun r5 => (rk_anil (rk_put (if_pos (Nat.le_of_ble_eq_true rfl)) (rk_asgN (rs_asg (rk_elst (rk_lc (rk_rng (j := (3 : Int)) (ep_acons ep_C ep_anil) fun xs3 => (rk_lcP (fe := eI) (fb := (eP2 eD eS)) (ca := fun way0 => [.is (.v ((eLs eI) script0)), .is (.v (eI k0)), .is (.l (List.map eI bag2)), .is (.v ((eP2 (eTs eI) (eTs (eO eI))) r2)), .is (.v (eI (r2.1.length : Int))), .is (.v ((eLs eI) halves0)), .is (.v (eI half0)), .is (.v ((eLs (eO eI)) [(some i0), r4, r5])), .nw, .nw, .is (.v (eI way0)), .nw]) (fun _ => gs_N) (fun way0 => (rk_ck1 (rk_callN (rk_rcons (rk_pure (d := (eI way0)) (ep_var (d := (eI way0)) rfl)  (rk_rcons (rk_pure (d := ((eP2 (eTs eI) (eTs (eO eI))) r2)) (ep_var (d := ((eP2 (eTs eI) (eTs (eO eI))) r2)) rfl)  (rk_rcons (rk_pure (d := (eI half0)) (ep_var (d := (eI half0)) rfl)  (rk_rnil (rk_call (rf__law_asked way0 r2 half0) (fun r6 => (rk_retC (fb := (eP2 eD eS)) (sub_cons wk_is (sub_cons wk_is (sub_cons wk_is (sub_cons wk_is (sub_cons wk_is (sub_cons wk_is (sub_cons wk_is (sub_cons wk_is (sub_cons wk_nw (sub_cons wk_nw (sub_cons wk_is (sub_cons wk_nw sub_nil)))))))))))))) (fun _ _ _ _ => trivial)))))))))))) (fun ys1 => (rk_asgN (rs_last (rs_if (rk_unitT (v := fun b2 => b2) (c' := fun b2 => [.is (.v ((eLs eI) script0)), .is (.v (eI k0)), .is (.l (List.map eI bag2)), .is (.v ((eP2 (eTs eI) (eTs (eO eI))) r2)), .is (.v (eI (r2.1.length : Int))), .is (.v ((eLs eI) halves0)), .is (.v (eI half0)), .is (.v ((eLs (eO eI)) [(some i0), r4, r5])), .is (.v ((eLs (eP2 eD eS)) ys1)), .nw, .nw, .nw]) (rk_orT (rk_tst (rk_bin (rk_pure (d := ((eLs (eP2 eD eS)) ys1)) (ep_var (d := ((eLs (eP2 eD eS)) ys1)) rfl)  (rk_elst (rk_lc (rk_seq (rk_pure (d := ((eLs (eO eI)) [(some i0), r4, r5])) (ep_var (d := ((eLs (eO eI)) [(some i0), r4, r5])) rfl)  (rk_put rfl (rk_lcP (fe := (eO eI)) (fb := (eP2 (eO eI) eS)) (ca := fun one0 => [.is (.v ((eLs eI) script0)), .is (.v (eI k0)), .is (.l (List.map eI bag2)), .is (.v ((eP2 (eTs eI) (eTs (eO eI))) r2)), .is (.v (eI (r2.1.length : Int))), .is (.v ((eLs eI) halves0)), .is (.v (eI half0)), .is (.v ((eLs (eO eI)) [(some i0), r4, r5])), .is (.v ((eLs (eP2 eD eS)) ys1)), .nw, .nw, .is (.v ((eO eI) one0))]) (fun _ => gs_N) (fun one0 => (rk_ck1 (rk_pure (d := ((eP2 (eO eI) eS) (one0, ("" : Str)))) (ep_tup (ep_acons (ep_var (d := ((eO eI) one0)) rfl) (ep_acons ep_C ep_anil)))  (rk_retC (fb := (eP2 (eO eI) eS)) (sub_cons wk_is (sub_cons wk_is (sub_cons wk_is (sub_cons wk_is (sub_cons wk_is (sub_cons wk_is (sub_cons wk_is (sub_cons wk_is (sub_cons wk_is (sub_cons wk_nw (sub_cons wk_nw (sub_cons wk_is sub_nil)))))))))))))))) (fun ys2 => (rk_neD (x := ((eLs (eP2 eD eS)) ys1)) (y := ((eLs (eP2 (eO eI) eS)) ys2)) fun b0 => (rk_put rfl (rk_ifF (rk_retT fun _ he => ⟨rfl, he.sub (sub_cons wk_is (sub_cons wk_is (sub_cons wk_is (sub_cons wk_is (sub_cons wk_is (sub_cons wk_is (sub_cons wk_is (sub_cons wk_is (sub_cons wk_is (sub_cons wk_nw (sub_cons wk_nw (sub_cons wk_nw sub_nil))))))))))))⟩) (rk_tst (rk_bin (rk_elst (rk_lc (rk_seq (rk_pure (d := ((eLs (eP2 eD eS)) ys1)) (ep_var (d := ((eLs (eP2 eD eS)) ys1)) rfl)  (rk_put rfl (rk_lcP (fe := (eP2 eD eS)) (fb := (eP2 eD eS)) (ca := fun one1 => [.is (.v ((eLs eI) script0)), .is (.v (eI k0)), .is (.l (List.map eI bag2)), .is (.v ((eP2 (eTs eI) (eTs (eO eI))) r2)), .is (.v (eI (r2.1.length : Int))), .is (.v ((eLs eI) halves0)), .is (.v (eI half0)), .is (.v ((eLs (eO eI)) [(some i0), r4, r5])), .is (.v ((eLs (eP2 eD eS)) ys1)), .nw, .nw, .is (.v ((eP2 eD eS) one1))]) (fun _ => gs_N) (fun one1 => (rk_ck (rk_pure (d := (isBoolD one1.1)) (ep_tst (ep_isi (ep_ixN (d := ((eP2 eD eS) one1)) ep_C rfl rfl) (isi_bool one1.1))) (rk_ifF (rk_pure (d := ((eP2 eD eS) one1)) (ep_var (d := ((eP2 eD eS) one1)) rfl)  (rk_retC (fb := (eP2 eD eS)) (sub_cons wk_is (sub_cons wk_is (sub_cons wk_is (sub_cons wk_is (sub_cons wk_is (sub_cons wk_is (sub_cons wk_is (sub_cons wk_is (sub_cons wk_is (sub_cons wk_nw (sub_cons wk_nw (sub_cons wk_is sub_nil)))))))))))))) (rs_nx fun _ he => he.sub (sub_cons wk_is (sub_cons wk_is (sub_cons wk_is (sub_cons wk_is (sub_cons wk_is (sub_cons wk_is (sub_cons wk_is (sub_cons wk_is (sub_cons wk_is (sub_cons wk_nw (sub_cons wk_nw (sub_cons wk_is sub_nil))))))))))))))))) (fun ys3 => (rk_pure (d := ((eLs (eP2 eD eS)) ([] : (List (D × Str))))) (ep_elst (ep_lst ep_anil))  (rk_neD (x := ((eLs (eP2 eD eS)) ys3)) (y := ((eLs (eP2 eD eS)) ([] : (List (D × Str))))) fun b1 => (rk_put rfl (rk_retT fun _ he => ⟨rfl, he.sub (sub_cons wk_is (sub_cons wk_is (sub_cons wk_is (sub_cons wk_is (sub_cons wk_is (sub_cons wk_is (sub_cons wk_is (sub_cons wk_is (sub_cons wk_is (sub_cons wk_nw (sub_cons wk_nw (sub_cons wk_nw sub_nil))))))))))))⟩))))))))))))))))))))))))))) (fun b2 => (rk_ifF (rs_ret (rk_pure (d := (eB false)) ep_C  (rk_ret (r := false) fun _ he => ⟨rfl, outs_of rfl rfl he⟩))) (rs_nxs (rs_nx fun _ he => he.sub (sub_cons wk_is (sub_cons wk_is (sub_cons wk_is (sub_cons wk_is (sub_cons wk_is (sub_cons wk_is (sub_cons wk_vnw (sub_cons wk_vnw (sub_cons wk_vnw (sub_cons wk_nw (sub_cons wk_nw (sub_cons wk_nw sub_nil)))))))))))))))))))))))))))))) (fun _ _ _ _ => trivial)))))))))) (fun _ _ _ _ => trivial))))))))))))))))))) (fun _ => (rs_last (rs_forK (rk_seq (rk_elst (rk_lst (rk_acons (rk_pure (d := (eI (-1 : Int))) ep_C  (rk_acons (rk_pure (d := (eI (r2.1.length : Int))) (ep_var (d := (eI (r2.1.length : Int))) rfl)  (rk_acons (rk_pure (d := (eI (-(r2.1.length : Int)))) (ep_un (ep_var (d := (eI (r2.1.length : Int))) rfl) rfl)  (rk_acons (rk_bin (rk_pure (d := (eI (10 : Int))) ep_C  (rk_pure (d := (eI (8 : Int))) ep_C  (rk_pow fun n0 => (rk_acons (rk_bin (rk_pure (d := (eI (r2.1.length : Int))) (ep_var (d := (eI (r2.1.length : Int))) rfl)  (rk_callN (rk_lend (rk_rcons (rk_pure (d := (eI (9 : Int))) ep_C  (rk_rnil (rk_lendK (rk_call (rf__law_take bag2 (9 : Int)) (fun ⟨r7, bag6⟩ => (rk_put rfl (rk_anil (rk_put (if_pos (Nat.le_of_ble_eq_true rfl)) (rk_put rfl (rs_for (fe := eI) (c0 := fun (_ : Unit) => [.is (.v ((eLs eI) script0)), .is (.v (eI k0)), .is (.l (List.map eI bag6)), .is (.v ((eP2 (eTs eI) (eTs (eO eI))) r2)), .is (.v (eI (r2.1.length : Int))), .is (.v ((eLs eI) halves0)), .nw, .nw, .nw, .nw, .nw, .nw]) (c1 := fun half1 => fun (_ : Unit) => [.is (.v ((eLs eI) script0)), .is (.v (eI k0)), .is (.l (List.map eI bag6)), .is (.v ((eP2 (eTs eI) (eTs (eO eI))) r2)), .is (.v (eI (r2.1.length : Int))), .is (.v ((eLs eI) halves0)), .is (.v (eI half1)), .nw, .nw, .nw, .nw, .nw]) (s0 := ()) (sub_cons wk_is (sub_cons wk_is (sub_cons wk_is (sub_cons wk_is (sub_cons wk_is (sub_cons wk_is (sub_cons wk_nw (sub_cons wk_nw (sub_cons wk_nw (sub_cons wk_nw (sub_cons wk_nw (sub_cons wk_nw sub_nil)))))))))))) (fun _ _ => gs_N) (fun half1 _ => (rs_last (rs_if (rk_notT (rk_tru (rk_callN (rk_rcons (rk_pure (d := ((eP2 (eTs eI) (eTs (eO eI))) r2)) (ep_var (d := ((eP2 (eTs eI) (eTs (eO eI))) r2)) rfl)  (rk_rcons (rk_pure (d := (eI half1)) (ep_var (d := (eI half1)) rfl)  (rk_rnil (rk_call (rf__law_none_right r2 half1) (fun r8 => (rk_put rfl (rk_ifF (rs_ret (rk_pure (d := (eB false)) ep_C  (rk_ret (r := false) fun _ he => ⟨rfl, outs_of rfl rfl he⟩))) (rs_nxs (rs_nx fun _ he => he.sub (sub_cons wk_is (sub_cons wk_is (sub_cons wk_is (sub_cons wk_is (sub_cons wk_is (sub_cons wk_is (sub_cons wk_vnw (sub_cons wk_nw (sub_cons wk_nw (sub_cons wk_nw (sub_cons wk_nw (sub_cons wk_nw sub_nil))))))))))))))))) (fun _ _ _ _ => trivial))))))))))))) (fun _ => (rs_nx fun _ he => he.sub (sub_cons wk_is (sub_cons wk_vnw (sub_cons wk_lnp (sub_cons wk_vnw (sub_cons wk_vnw (sub_cons wk_vnw (sub_cons wk_nw (sub_cons wk_nw (sub_cons wk_nw (sub_cons wk_nw (sub_cons wk_nw (sub_cons wk_nw sub_nil)))))))))))))))))))) (fun _ _ _ _ => trivial)))))))))))))))))))))))))))))))))))))))))))) (fun _ _ _ _ => trivial)))))))))) (fun _ _ _ _ => trivial))))))))))))))))))) (fun _ _ _ _ => trivial)))))))))) (fun _ => (rs_last (rs_ret (rk_pure (d := (eB true)) ep_C  (rk_ret (r := true) fun _ he => ⟨rfl, outs_of rfl rfl he⟩))))))))
end
end K03
/- part NP -/
set_option Elab.async false
set_option linter.all false
set_option maxRecDepth 100000
set_option maxHeartbeats 4000000
/-! NP: draws and drawn skins, typed. -/
namespace NP
open PySem L2 DL LW NT NW
/-! ### rows of whole numbers -/
abbrev nI (L : List Nat) : List Int := L.map fun (k : Nat) => (k : Int)
abbrev oI (L : List (Option Nat)) : List (Option Int) := L.map fun o => o.map fun (k : Nat) => (k : Int)
theorem idx_k {α : Type} {xs : List α} {i : Nat} {a : α} (h : xs[i]? = some a) : idx xs (i : Int) = .ok a := by
  unfold idx
  rw [atI_nat h]
  rfl
theorem idx_at {α : Type} {xs : List α} {i : Nat} (h : i < xs.length) : idx xs (i : Int) = .ok xs[i] := idx_k (List.getElem?_eq_getElem h)
theorem idx_nI {L : List Nat} {i : Nat} (h : i < L.length) : idx (nI L) (i : Int) = .ok (L[i] : Int) := idx_k (by simp [h])
theorem idx_oI {L : List (Option Nat)} {i : Nat} (h : i < L.length) : idx (oI L) (i : Int) = .ok (L[i].map fun (k : Nat) => (k : Int)) := idx_k (by simp [h])
theorem setN_k {α : Type} {xs : List α} {i : Nat} (h : i < xs.length) (a : α) : setN xs (i : Int) a = .ok (xs.set i a) := by
  unfold setN
  rw [ixN_of h]
theorem rngN_k {n : Nat} (h : n ≤ 1000000) : rngN (n : Int) = .ok (nI (List.range n)) := by
  unfold rngN
  rw [if_pos (i62_of (by omega) (by omega))]
  simp [rgI]
theorem rngL_k {n : Nat} (h : n ≤ 10000) : rngL (n : Int) = .ok (nI (List.range n)) := by
  unfold rngL
  rw [if_pos ⟨by omega, by omega⟩]
  simp [rgI]
theorem range_at {n i : Nat} {a : Int} (h : (nI (List.range n))[i]? = some a) : i < n ∧ a = (i : Int) := by
  by_cases c : i < n
  · simp [List.getElem?_map, List.getElem?_range c] at h
    exact ⟨c, h.symm⟩
  · rw [List.getElem?_eq_none (by simp; omega)] at h
    cases h
@[simp] theorem nI_len (L : List Nat) : (nI L).length = L.length := by simp
/-! ### draws -/
abbrev bg (s : Int × Int) : List Int := [s.1, s.2]
theorem idx0 {α : Type} (x : α) (r : List α) : idx (x :: r) 0 = .ok x := idx_k (i := 0) rfl
theorem idx1 {α : Type} (x y : α) (r : List α) : idx (x :: y :: r) 1 = .ok y := idx_k (i := 1) rfl
theorem idx2 {α : Type} (x y z : α) (r : List α) : idx (x :: y :: z :: r) 2 = .ok z := idx_k (i := 2) rfl
theorem set0 {α : Type} (x : α) (r : List α) (a : α) : setN (x :: r) 0 a = .ok (a :: r) := setN_k (i := 0) (by simp) a
theorem set1 {α : Type} (x y : α) (r : List α) (a : α) : setN (x :: y :: r) 1 a = .ok (x :: a :: r) := setN_k (i := 1) (by simp) a
theorem take_n (s : Int × Int) (m : Int) (hm : 0 < m) (hm2 : m < 2 ^ 64) : ∃ r s', 0 ≤ r ∧ r < m ∧ n__law_take (bg s) m = .ok (r, bg s') := by
  have h64 := divOk_of hm hm2
  obtain ⟨x, y⟩ := s
  by_cases hx : 0 < x
  · refine ⟨x % m, (x / m, y), Int.emod_nonneg _ (by omega), Int.emod_lt_of_pos _ hm, ?_⟩
    simp [n__law_take, idx0, hx, modN, hm, divN, h64, set0]
  · have c1 : mulOk y 48271 = true := mulOk_r (by decide) (by decide)
    have b1 : 0 ≤ y * 48271 % 2147483647 := Int.emod_nonneg _ (by decide)
    have b2 : y * 48271 % 2147483647 < 2147483647 := Int.emod_lt_of_pos _ (by decide)
    have c3 : mulOk (y * 48271 % 2147483647) (y * 48271 % 2147483647) = true := mulOk_l (by omega) (by omega)
    have c5 : divOk 64 = true := divOk_of (by decide) (by decide)
    refine ⟨(y * 48271 % 2147483647) * (y * 48271 % 2147483647) % 2147483629 / 64 % m, (x, y * 48271 % 2147483647), Int.emod_nonneg _ (by omega), Int.emod_lt_of_pos _ hm, ?_⟩
    generalize hz : y * 48271 % 2147483647 = z at c3
    simp [n__law_take, idx0, hx, idx1, modN, hm, divN, mulN, c1, hz, set1, c3, c5]
theorem pow60 : powN 10 60 = .ok ((10 : Int) ^ (60 : Int).toNat) := by
  unfold powN
  rw [if_pos powOk60]
theorem pow18 : powN 10 18 = .ok T18 := by
  unfold powN
  rw [if_pos powOk18]
  rfl
theorem mul60 : mulN ((10 : Int) ^ (60 : Int).toNat) ((10 : Int) ^ (60 : Int).toNat) = .ok T120 := by
  unfold mulN
  rw [if_pos mulOk60]
  rfl
theorem bag_n (ns : List Int) (k : Int) (hk : 0 ≤ k) : ∃ s, n__law_bag ns k = .ok (bg s) := by
  have m1 : ∀ c : Int, mulOk c 7919 = true := fun c => mulOk_r (by decide) (by decide)
  have m2 : mulOk 104729 k = true := mulOk_l (by decide) (by decide)
  obtain ⟨cell, hc⟩ : ∃ cell : Int, (if decide (k < (ns.length : Int)) = true then
      (idx ns k).ct fun a0 => (powN 10 60).ct fun n0 => (powN 10 60).ct fun n1 => (mulN n0 n1).ct fun n2 => (modN a0 n2).ct fun n3 => .nx n3 else .nx 0 : Ct Int Unit (List Int)) = .nx cell := by
    by_cases c : k < (ns.length : Int)
    · obtain ⟨n, rfl⟩ := Int.eq_ofNat_of_zero_le hk
      have hl : n < ns.length := by omega
      refine ⟨ns[n] % T120, ?_⟩
      rw [if_pos (by simpa using c), idx_at hl]
      simp only [ct_ok, pow60, mul60, modN, if_pos T120_pos]
    · exact ⟨0, by rw [if_neg (by simpa using c)]⟩
  unfold n__law_bag
  rw [hc]
  simp only [sq_nx, pow18, ct_ok]
  by_cases h : cell < T18
  · exact ⟨(0, 1 + (cell * 7919 + 104729 * k) % 2147483646), by simp [h, mulN, m1, m2, modN]⟩
  · exact ⟨(cell, 1 + (cell + k) % 2147483646), by simp [h, modN]⟩
end NP
/- part NS -/
set_option Elab.async false
set_option linter.all false
set_option maxRecDepth 100000
set_option maxHeartbeats 4000000
/-! NS: the skin that is drawn, typed. -/
namespace NP
open PySem L2 DL LW NT NW
theorem cutL_take {α : Type} (xs : List α) (k : Nat) : cutL xs none (some (k : Int)) = xs.take k := by
  unfold cutL
  rw [HT.sIx_nat, HT.sIx_none]
  simp [List.take_eq_take_min]
theorem cutL_drop {α : Type} (xs : List α) (k : Nat) : cutL xs (some (k : Int)) none = xs.drop k := by
  unfold cutL
  rw [HT.sIx_nat, HT.sIx_none]
  by_cases c : k ≤ xs.length
  · rw [Nat.min_eq_left c]
    apply List.take_of_length_le
    simp
  · rw [Nat.min_eq_right (by omega)]
    simp [List.drop_of_length_le (by omega : xs.length ≤ k)]
theorem repN_k {α : Type} (a : α) {n : Nat} (h : n ≤ 100000) : repN a (n : Int) = .ok (List.replicate n a) := by
  unfold repN
  rw [if_pos ⟨i63_of (by omega) (by omega), by simpa using h⟩]
  simp
theorem popAt_n {α : Type} {xs : List α} {k : Nat} (h : k < xs.length) (hl : xs.length ≤ 1000000) : popAtN xs (k : Int) = .ok (xs[k], xs.eraseIdx k) := by
  unfold popAtN
  rw [if_pos (i63_of (by omega) (by omega)), seqIx_of h]
  simp only [List.getElem?_eq_getElem h]
theorem nI_erase (L : List Nat) (k : Nat) : (nI L).eraseIdx k = nI (L.eraseIdx k) := map_eraseIdx _ _ _
theorem nI_take (L : List Nat) (k : Nat) : (nI L).take k = nI (L.take k) := by simp [List.map_take]
theorem nI_drop (L : List Nat) (k : Nat) : (nI L).drop k = nI (L.drop k) := by simp [List.map_drop]
theorem nI_set (L : List Nat) (k v : Nat) : (nI L).set k (v : Int) = nI (L.set k v) := by simp [List.map_set]
theorem oI_set (L : List (Option Nat)) (k : Nat) (v : Option Nat) : (oI L).set k (v.map fun (k : Nat) => (k : Int)) = oI (L.set k v) := by simp [List.map_set]
theorem oI_sets (L : List (Option Nat)) (k v : Nat) : (oI L).set k (some (v : Int)) = oI (L.set k (some v)) := oI_set L k (some v)
theorem idx_prev {p : List Nat} {i : Nat} (h : i < p.length) : idx (nI p) ((i : Int) - 1) = .ok (prevOf p i : Int) := by
  unfold idx
  have h1 := atI_prev h
  have h2 : atI ((nI p).map eI) ((i : Int) - 1) = some (eI (prevOf p i : Int)) := by
    have : (nI p).map eI = nsD p := by simp [nsD, nD]
    rw [this, h1]
    rfl
  rw [atI_map] at h2
  cases q : atI (nI p) ((i : Int) - 1) with
  | none => rw [q] at h2; cases h2
  | some a =>
    rw [q] at h2
    have h3 : eI a = eI (prevOf p i : Int) := by simpa using h2
    injection h3 with h3
    rw [h3]
    rfl
theorem idx_g {p : List Nat} {i : Nat} (h : i < p.length) : idx (nI p) (i : Int) = .ok (p.getD i 0 : Int) := by
  rw [idx_nI h]
  simp [List.getD, List.getElem?_eq_getElem h]
/-- a turn of a patch: what comes behind is put -/
theorem patch_for {ρ l : Type} {p on : List Nat} {n : Nat} (hon : on.length = n) (hpn : p.Nodup) (hlt : ∀ x, x ∈ p → x < n) (body : Int → List Int → Ct (List Int) (List Int) ρ)
    (hb : ∀ (i : Nat) (o : List Nat), i < p.length → o.length = n → body (i : Int) (nI o) = .nx (nI (o.set (prevOf p i) (p.getD i 0)))) : ∃ on' : List Nat, (forC body (nI (List.range p.length)) (nI on) : Ct (List Int) l ρ) = .nx (nI on') ∧ on'.length = n ∧ (∀ x, x ∉ p → on'[x]? = on[x]?) ∧ (∀ j, j < p.length → on'[prevOf p j]? = some (p.getD j 0)) := by
  obtain ⟨st, e, on', rfl, h1, h3, h4⟩ := for_ok (l := l) (body := body) (fun i st => ∃ on' : List Nat, st = nI on' ∧ on'.length = n ∧ (∀ x, x ∉ p → on'[x]? = on[x]?) ∧ (∀ j, j < i → on'[prevOf p j]? = some (p.getD j 0))) (nI (List.range p.length)) (nI on) ⟨on, rfl, hon, fun _ _ => rfl, fun _ h => absurd h (Nat.not_lt_zero _)⟩ (by
    rintro i a _ hi ⟨o, rfl, h1, h3, h4⟩
    obtain ⟨hi2, rfl⟩ := range_at hi
    refine ⟨_, .inl (hb i o hi2 h1), _, rfl, by simp [h1], fun x hx => ?_, fun j hj => ?_⟩
    · rw [List.getElem?_set_ne (fun h => hx (by rw [← h]; exact prev_mem hi2))]
      exact h3 x hx
    · have e3 : prevOf p i < o.length := by rw [h1]; exact hlt _ (prev_mem hi2)
      by_cases c : j = i
      · subst c
        rw [List.getElem?_set_self e3]
      · rw [List.getElem?_set_ne (fun h => c (prev_inj hpn (by omega) hi2 h.symm))]
        exact h4 j (by omega))
  exact ⟨on', e, h1, h3, fun j hj => h4 j (by simpa using hj)⟩
theorem skin_n (s : Int × Int) (m : Nat) (hm : 1 ≤ m) (hm2 : m ≤ 1000) : ∃ r, n__law_skin (bg s) m = .ok r ∧ ∃ n on ms s', 1 ≤ n ∧ n ≤ m ∧ SkinP n on ms ∧ r = ((nI on, oI ms), bg s') := by
  unfold n__law_skin
  refine W_fn ?_
  obtain ⟨r, s1, r0, r1, t1⟩ := take_n s m (by omega) (by omega)
  obtain ⟨n, hn⟩ : ∃ n : Nat, 1 + r = (n : Int) := ⟨(1 + r).toNat, by omega⟩
  have hn1 : 1 ≤ n := by omega
  have hn2 : n ≤ m := by omega
  simp only [t1, ct_ok, P2, hn, rngN_k (show n ≤ 1000000 by omega)]
  refine W_cut (fun st => ∃ s L, st = (bg s, nI L) ∧ L.Perm (List.range n)) ?_ ?_
  · refine W_for (fun i st => ∃ s L, st = (bg s, nI L) ∧ L.Perm (List.range i)) ⟨s1, [], rfl, List.Perm.refl _⟩ ?_ (fun st h => by simpa using h)
    rintro i a _ hi ⟨s, L, rfl, hp⟩
    obtain ⟨hi1, rfl⟩ := range_at hi
    obtain ⟨r, s2, r0, r1, t2⟩ := take_n s (i + 1 : Int) (by omega) (by omega)
    obtain ⟨k, rfl⟩ := Int.eq_ofNat_of_zero_le r0
    have hl : L.length = i := by rw [hp.length_eq]; simp
    have hins : insN (nI L) (k : Int) (i : Int) = .ok (nI (L.take k ++ [i] ++ L.drop k)) := by
      unfold insN
      rw [if_pos ⟨by simp; omega, by omega, i63_of (by omega) (by omega)⟩]
      simp [List.map_take, List.map_drop]
    simp only [P2, t2, ct_ok, hins, W_nx]
    refine ⟨s2, _, rfl, ?_⟩
    rw [List.range_succ]
    refine List.Perm.trans ?_ (List.Perm.append_right [i] hp)
    have h3 := List.perm_append_comm (l₁ := L.take k ++ [i]) (l₂ := L.drop k)
    refine h3.trans ?_
    rw [← List.append_assoc]
    refine List.Perm.append_right [i] ?_
    have h4 := List.perm_append_comm (l₁ := L.drop k) (l₂ := L.take k)
    rw [List.take_append_drop] at h4
    exact h4
  rintro _ ⟨s, L, rfl, hp⟩
  have hL : L.length = n := by rw [hp.length_eq]; simp
  have hLn : L.Nodup := hp.nodup_iff.2 List.nodup_range
  obtain ⟨q1, s1, a0, a1, t1⟩ := take_n s 6 (by decide) (by decide)
  obtain ⟨q2, s2, b0, b1, t2⟩ := take_n s1 3 (by decide) (by decide)
  obtain ⟨w, hw, w0, w1⟩ : ∃ w : Nat, idx [1 + q1, 3, (n : Int)] q2 = .ok (w : Int) ∧ 1 ≤ w ∧ w ≤ 1000 := by
    have : q2 = 0 ∨ q2 = 1 ∨ q2 = 2 := by omega
    rcases this with rfl | rfl | rfl
    · exact ⟨(1 + q1).toNat, by rw [idx0]; congr 1; omega, by omega, by omega⟩
    · exact ⟨3, by rw [idx1]; rfl, by omega, by omega⟩
    · exact ⟨n, by rw [idx2], by omega, by omega⟩
  simp only [P2, t1, t2, ct_ok, hw, repN_k (0 : Int) (show n ≤ 100000 by omega)]
  refine W_cut (fun st => ∃ s on lf, st = (bg s, nI on, lf) ∧ on.Perm (List.range n)) ?_ ?_
  · refine W_while (fun k st => ∃ s dn lf on, st = (bg s, nI on, nI lf) ∧ L = dn ++ lf ∧ on.length = n ∧ (dn.map fun x => on.getD x 0).Perm dn ∧ k = lf.length) FUEL n _ (by have := fuel_le; omega) ⟨s2, [], L, List.replicate n 0, by simp, rfl, by simp, List.Perm.refl _, hL.symm⟩ ?_
    rintro k _ ⟨s, dn, lf, on, rfl, hd, hon, hpm, rfl⟩
    simp only [P3, fn_rt]
    cases lf with
    | nil =>
      left
      refine ⟨by simp, s, on, [], rfl, ?_⟩
      rw [List.append_nil] at hd
      subst hd
      have h1 := map_range_getD on
      rw [hon] at h1
      rw [← h1]
      exact ((hp.symm.map _).trans hpm).trans hp
    | cons x0 lf0 =>
      right
      refine ⟨by simp, ?_⟩
      generalize hlf : x0 :: lf0 = lf at *
      have hlf1 : 0 < lf.length := by rw [← hlf]; simp
      have hdl : dn.length + lf.length = n := by rw [← hL, hd, List.length_append]
      obtain ⟨q3, s3, d0, d1, t3⟩ := take_n s w (by omega) (by omega)
      obtain ⟨q4, s4, f0, f1, t4⟩ := take_n s3 2 (by decide) (by decide)
      obtain ⟨y, hy, y0⟩ : ∃ y : Nat, idx [(w : Int), 1 + q3] q4 = .ok (y : Int) ∧ 1 ≤ y := by
        have : q4 = 0 ∨ q4 = 1 := by omega
        rcases this with rfl | rfl
        · exact ⟨w, by rw [idx0], by omega⟩
        · exact ⟨(1 + q3).toNat, by rw [idx1]; congr 1; omega, by omega⟩
      obtain ⟨z, hz, z0, z1⟩ : ∃ z : Nat, imin (lf.length : Int) (y : Int) = (z : Int) ∧ 1 ≤ z ∧ z ≤ lf.length := by
        unfold imin
        by_cases c : (y : Int) < (lf.length : Int)
        · exact ⟨y, by rw [if_pos c], y0, by omega⟩
        · exact ⟨lf.length, by rw [if_neg c], by omega, by omega⟩
      have hpl : (lf.take z).length = z := by rw [List.length_take]; omega
      have hpn : (lf.take z).Nodup := by
        rw [hd] at hLn
        exact ((List.nodup_append.1 hLn).2.1).sublist (List.take_sublist _ _)
      have hlt : ∀ x, x ∈ lf.take z → x < n := fun x hx => by
        have : x ∈ L := by rw [hd]; exact List.mem_append_right _ (List.mem_of_mem_take hx)
        exact List.mem_range.1 (hp.mem_iff.1 this)
      have hz' : imin ((nI lf).length : Int) (y : Int) = (z : Int) := by rw [nI_len]; exact hz
      have e1 : cutL (nI lf) none (some (z : Int)) = nI (lf.take z) := by rw [cutL_take, nI_take]
      have e2 : cutL (nI lf) (some (z : Int)) none = nI (lf.drop z) := by rw [cutL_drop, nI_drop]
      simp only [P2, P3, t3, t4, ct_ok, hy, hz', rngN_k (show z ≤ 1000000 by omega), e1, e2]
      obtain ⟨on', e, h1, h3, h4⟩ := patch_for (l := (List Int × List Int × List Int)) (ρ := ((List Int × List (Option Int)) × List Int)) hon hpn hlt (fun k0 onward1 => (idx (nI (lf.take z)) k0).ct fun a2 => (idx (nI (lf.take z)) (k0 - 1)).ct fun a3 => (setN onward1 a3 a2).ct fun onward2 => .nx onward2) (fun i o hi ho => by
        rw [idx_g hi, ct_ok, idx_prev hi, ct_ok, setN_k (by simp [ho]; exact hlt _ (prev_mem hi)), ct_ok, nI_set])
      rw [hpl] at e
      refine W_sq ?_
      rw [e]
      simp only [W_nx]
      have hrd := round_perm hpn (on := on') h4
      refine ⟨(lf.drop z).length, by rw [List.length_drop]; omega, s4, dn ++ lf.take z, lf.drop z, on', rfl, ?_, h1, ?_, rfl⟩
      · rw [List.append_assoc, List.take_append_drop]
        exact hd
      · rw [List.map_append]
        refine List.Perm.append ?_ hrd
        have : (dn.map fun x => on'.getD x 0) = dn.map fun x => on.getD x 0 := by
          apply List.map_congr_left
          intro x hx
          simp only [List.getD]
          rw [h3 x (fun hx2 => ?_)]
          rw [hd] at hLn
          exact (List.nodup_append.1 hLn).2.2 x hx x (List.mem_of_mem_take hx2) rfl
        rw [this]
        exact hpm
  rintro _ ⟨s, on, lf, rfl, hon⟩
  obtain ⟨q5, s5, a0, a1, t5⟩ := take_n s 3 (by decide) (by decide)
  obtain ⟨q, hq, q0, q1⟩ : ∃ q : Nat, idx [(2 : Int), 5, 99] q5 = .ok (q : Int) ∧ 1 ≤ q ∧ q ≤ 99 := by
    have : q5 = 0 ∨ q5 = 1 ∨ q5 = 2 := by omega
    rcases this with rfl | rfl | rfl
    · exact ⟨2, by rw [idx0]; rfl, by omega, by omega⟩
    · exact ⟨5, by rw [idx1]; rfl, by omega, by omega⟩
    · exact ⟨99, by rw [idx2]; rfl, by omega, by omega⟩
  simp only [P2, P3, t5, ct_ok, hq, repN_k (none : Option Int) (show n ≤ 100000 by omega), rngL_k (show n ≤ 10000 by omega)]
  refine W_cut (fun st => ∃ s ms wt, st = (bg s, oI ms, wt) ∧ ms.length = n ∧ ∀ i j : Nat, ms[i]? = some (some j) → j < n ∧ j ≠ i ∧ ms[j]? = some (some i)) ?_ ?_
  · refine W_while (fun k st => ∃ s ms wt, st = (bg s, oI ms, nI wt) ∧ SkM n ms wt ∧ k = wt.length) FUEL n _ (by have := fuel_le; omega) ⟨s5, List.replicate n none, List.range n, by simp, ⟨by simp, List.nodup_range, by simp, fun x hx => ⟨List.mem_range.1 hx, ?_⟩, fun i j h => ?_⟩, by simp⟩ ?_
    · rw [List.getElem?_replicate, if_pos (List.mem_range.1 hx)]
    · rw [List.getElem?_replicate] at h
      split at h <;> cases h
    rintro k _ ⟨s, ms, wt, rfl, hM, rfl⟩
    simp only [P3, fn_rt]
    by_cases c : 1 < wt.length
    case neg =>
      left
      exact ⟨by simp; omega, s, ms, nI wt, rfl, hM.len, hM.mate⟩
    right
    refine ⟨by simp; omega, ?_⟩
    have hwl : wt.length ≤ n := hM.lew
    obtain ⟨q6, s6, b0, b1, t6⟩ := take_n s wt.length (by omega) (by omega)
    obtain ⟨x, rfl⟩ := Int.eq_ofNat_of_zero_le b0
    have hx : x < wt.length := by omega
    have hl2 : (wt.eraseIdx x).length = wt.length - 1 := by rw [List.length_eraseIdx]; simp [hx]
    obtain ⟨q7, s7, c0, c1, t7⟩ := take_n s6 ((wt.eraseIdx x).length) (by omega) (by omega)
    obtain ⟨y, rfl⟩ := Int.eq_ofNat_of_zero_le c0
    have hy : y < (wt.eraseIdx x).length := by omega
    obtain ⟨q8, s8, d0, d1, t8⟩ := take_n s7 q (by omega) (by omega)
    have p1 : popAtN (nI wt) (x : Int) = .ok ((wt[x] : Int), nI (wt.eraseIdx x)) := by
      rw [popAt_n (by simpa using hx) (by simp; omega), nI_erase]
      simp
    have p2 : popAtN (nI (wt.eraseIdx x)) (y : Int) = .ok (((wt.eraseIdx x)[y] : Nat), nI ((wt.eraseIdx x).eraseIdx y)) := by
      rw [popAt_n (by simpa using hy) (by simp; omega), nI_erase]
      simp
    have oa := erase_out hM.nod hx
    have ob := erase_out (hM.drop x).nod hy
    have ma := hM.lone _ (List.getElem_mem hx)
    have mb := (hM.drop x).lone _ (List.getElem_mem hy)
    have oab : wt[x] ≠ (wt.eraseIdx x)[y] := fun h => oa (by rw [h]; exact List.getElem_mem hy)
    have oa2 : wt[x] ∉ (wt.eraseIdx x).eraseIdx y := fun h => oa ((List.eraseIdx_sublist _ _).subset h)
    have hM2 := (hM.drop x).drop y
    have hl3 : ((wt.eraseIdx x).eraseIdx y).length < wt.length := by rw [List.length_eraseIdx, if_pos hy]; omega
    generalize wt[x] = a at *
    generalize (wt.eraseIdx x)[y] = b at *
    have t6' : n__law_take (bg s) ((nI wt).length : Int) = .ok ((x : Int), bg s6) := by rw [nI_len]; exact t6
    have t7' : n__law_take (bg s6) ((nI (wt.eraseIdx x)).length : Int) = .ok ((y : Int), bg s7) := by rw [nI_len]; exact t7
    simp only [P2, P3, t6', p1, t7', p2, t8, ct_ok]
    refine W_if (fun c => ?_) (fun c => ?_)
    · have e1 : setN (oI ms) (a : Int) (some (b : Int)) = .ok (oI (ms.set a (some b))) := by
        rw [setN_k (by simp [hM.len]; exact ma.1), oI_sets]
      have e2 : setN (oI (ms.set a (some b))) (b : Int) (some (a : Int)) = .ok (oI ((ms.set a (some b)).set b (some a))) := by
        rw [setN_k (by simp [hM.len]; exact mb.1), oI_sets]
      simp only [e1, e2, ct_ok, W_nx]
      exact ⟨_, hl3, s8, _, _, rfl, hM2.put oa2 ob oab ma.1 mb.1 ma.2 mb.2, rfl⟩
    · simp only [W_nx]
      exact ⟨_, hl3, s8, ms, _, rfl, hM2, rfl⟩
  rintro _ ⟨s, ms, wt, rfl, hl, hmt⟩
  simp only [P3, W_rt]
  exact ⟨n, on, ms, s, hn1, hn2, ⟨hon, hl, hmt⟩, rfl⟩
end NP
/- part NK -/
set_option Elab.async false
set_option linter.all false
set_option maxRecDepth 100000
set_option maxHeartbeats 4000000
/-! NK: walks, plain. -/
namespace NP
/-- one behind the other -/
def Lk (f : Nat → Option Nat) (l : List Nat) : Prop := ∀ i a b, l[i]? = some a → l[i + 1]? = some b → f a = some b
structure Fw (f : Nat → Option Nat) (x : Nat) (l : List Nat) : Prop where
  hd : l[0]? = some x
  lk : Lk f l
  ne : ∀ i : Nat, l[i + 1]? ≠ some x
/-- a walk from x that is at its end -/
structure FwC (f : Nat → Option Nat) (x : Nat) (l : List Nat) : Prop extends Fw f x l where
  fin : ∀ z, l.getLast? = some z → f z = none ∨ f z = some x
def Inj (f : Nat → Option Nat) : Prop := ∀ a b c, f a = some c → f b = some c → a = b
theorem Fw.one (f : Nat → Option Nat) (x : Nat) : Fw f x [x] := ⟨rfl, fun i a b _ h => by simp at h, fun i h => by simp at h⟩
theorem Fw.ne_nil {f : Nat → Option Nat} {x : Nat} {l : List Nat} (h : Fw f x l) : l ≠ [] := fun e => by have := h.hd; rw [e] at this; cases this
theorem Lk.snoc {f : Nat → Option Nat} {l : List Nat} (h : Lk f l) {z y : Nat} (hz : l.getLast? = some z) (hy : f z = some y) : Lk f (l ++ [y]) := fun i a b ha hb => by
  have hl : l ≠ [] := fun e => by rw [e] at hz; cases hz
  have lb := (List.getElem?_eq_some_iff.mp hb).1
  rw [List.length_append] at lb
  simp at lb
  by_cases c : i + 1 < l.length
  · rw [List.getElem?_append_left (by omega)] at ha
    rw [List.getElem?_append_left c] at hb
    exact h i a b ha hb
  · have e : i + 1 = l.length := by omega
    rw [List.getElem?_append_left (by omega)] at ha
    rw [List.getElem?_append_right (by omega), e] at hb
    simp at hb
    rw [List.getLast?_eq_getElem?] at hz
    rw [show l.length - 1 = i by omega, ha] at hz
    cases hz
    rw [← hb]
    exact hy
theorem Fw.snoc {f : Nat → Option Nat} {x : Nat} {l : List Nat} (h : Fw f x l) {z y : Nat} (hz : l.getLast? = some z) (hy : f z = some y) (hx : y ≠ x) : Fw f x (l ++ [y]) := by
  have hl : 0 < l.length := List.length_pos_iff.2 h.ne_nil
  refine ⟨by rw [List.getElem?_append_left hl]; exact h.hd, h.lk.snoc hz hy, fun i hi => ?_⟩
  by_cases c : i + 1 < l.length
  · rw [List.getElem?_append_left c] at hi
    exact h.ne i hi
  · rw [List.getElem?_append_right (by omega)] at hi
    have : i + 1 - l.length = 0 := by
      have := (List.getElem?_eq_some_iff.mp hi).1
      simp at this
      omega
    rw [this] at hi
    simp at hi
    exact hx hi
theorem Fw.nodup {f : Nat → Option Nat} (inj : Inj f) {x : Nat} {l : List Nat} (h : Fw f x l) : l.Nodup := by
  have key : ∀ (i d : Nat) (a : Nat), l[i]? = some a → l[i + (d + 1)]? = some a → False := by
    intro i
    induction i with
    | zero =>
      intro d a h1 h2
      rw [h.hd] at h1
      cases h1
      rw [Nat.zero_add] at h2
      exact h.ne d h2
    | succ i ih =>
      intro d a h1 h2
      have l1 := (List.getElem?_eq_some_iff.mp h1).1
      have l2 := (List.getElem?_eq_some_iff.mp h2).1
      have e1 : l[i]? = some l[i] := List.getElem?_eq_getElem (by omega)
      have e2 : l[i + (d + 1)]? = some l[i + (d + 1)] := List.getElem?_eq_getElem (by omega)
      have f1 := h.lk i _ _ e1 h1
      have f2 := h.lk (i + (d + 1)) _ a e2 (by rw [show i + (d + 1) + 1 = i + 1 + (d + 1) by omega]; exact h2)
      have := inj _ _ _ f1 f2
      exact ih d l[i] e1 (by rw [e2, this])
  rw [List.nodup_iff_pairwise_ne, List.pairwise_iff_getElem]
  intro i j hi hj hij e
  refine key i (j - i - 1) l[i] (List.getElem?_eq_getElem hi) ?_
  rw [show i + (j - i - 1 + 1) = j by omega, List.getElem?_eq_getElem hj, e]
theorem nodup_len : ∀ (n : Nat) (l : List Nat), l.Nodup → (∀ a, a ∈ l → a < n) → l.length ≤ n
  | 0, l, _, h => by
    cases l with
    | nil => exact Nat.le_refl _
    | cons a l => exact absurd (h a (List.mem_cons_self ..)) (Nat.not_lt_zero _)
  | n + 1, l, hn, h => by
    have h1 := nodup_len n (l.erase n) (hn.sublist List.erase_sublist) (fun a ha => by
      have := (hn.mem_erase_iff.1 ha)
      have h2 := h a this.2
      have := this.1
      omega)
    have : l.length ≤ (l.erase n).length + 1 := by
      rw [List.length_erase]
      split <;> omega
    omega
theorem FwC.uniq {f : Nat → Option Nat} {x : Nat} {l l' : List Nat} (h : FwC f x l) (h' : FwC f x l') : l = l' := by
  have pre : ∀ (i a b : Nat), l[i]? = some a → l'[i]? = some b → a = b := by
    intro i
    induction i with
    | zero =>
      intro a b h1 h2
      rw [h.hd] at h1
      rw [h'.hd] at h2
      cases h1; cases h2; rfl
    | succ i ih =>
      intro a b h1 h2
      have l1 := (List.getElem?_eq_some_iff.mp h1).1
      have l2 := (List.getElem?_eq_some_iff.mp h2).1
      have e1 : l[i]? = some l[i] := List.getElem?_eq_getElem (by omega)
      have e2 : l'[i]? = some l'[i] := List.getElem?_eq_getElem (by omega)
      have e := ih _ _ e1 e2
      have f1 := h.lk i _ _ e1 h1
      have f2 := h'.lk i _ _ e2 h2
      rw [e, f2] at f1
      cases f1
      rfl
  have len : ∀ {l l' : List Nat}, FwC f x l → FwC f x l' → (∀ (i a b : Nat), l[i]? = some a → l'[i]? = some b → a = b) → l'.length ≤ l.length := by
    intro l l' h h' pre
    apply Classical.byContradiction
    intro c
    have hl : 0 < l.length := List.length_pos_iff.2 h.ne_nil
    have e1 : l[l.length - 1]? = some l[l.length - 1] := List.getElem?_eq_getElem (by omega)
    have e2 : l'[l.length - 1]? = some l'[l.length - 1] := List.getElem?_eq_getElem (by omega)
    have e3 : l'[l.length - 1 + 1]? = some l'[l.length - 1 + 1] := List.getElem?_eq_getElem (by omega)
    have e := pre _ _ _ e1 e2
    have g := h'.lk _ _ _ e2 e3
    rw [← e] at g
    rcases h.fin _ (by rw [List.getLast?_eq_getElem?]; exact e1) with q | q
    · rw [g] at q; cases q
    · rw [g] at q
      cases q
      exact h'.ne _ e3
  have le : l.length = l'.length := Nat.le_antisymm (len h' h fun i a b h1 h2 => (pre i b a h2 h1).symm) (len h h' pre)
  apply List.ext_getElem le
  intro i h1 h2
  exact pre i _ _ (List.getElem?_eq_getElem h1) (List.getElem?_eq_getElem h2)
/-- all lie within, if the first does -/
theorem Fw.lt {f : Nat → Option Nat} {x n : Nat} (hf : ∀ a b, f a = some b → b < n) (hx : x < n) {l : List Nat} (h : Fw f x l) : ∀ a, a ∈ l → a < n := fun a ha => by
  obtain ⟨i, hi, e⟩ := List.mem_iff_getElem.1 ha
  cases i with
  | zero =>
    have := h.hd
    rw [List.getElem?_eq_getElem hi] at this
    cases this
    rw [← e]
    exact hx
  | succ i =>
    have := h.lk i _ _ (List.getElem?_eq_getElem (by omega)) (List.getElem?_eq_getElem hi)
    rw [← e]
    exact hf _ _ this
theorem Fw.len {f : Nat → Option Nat} {x n : Nat} (inj : Inj f) (hf : ∀ a b, f a = some b → b < n) (hx : x < n) {l : List Nat} (h : Fw f x l) : l.length ≤ n := nodup_len n l (h.nodup inj) (h.lt hf hx)
/-! ### a skin's own steps -/
section
variable {n : Nat} {on : List Nat} {ms : List (Option Nat)}
def nx (on : List Nat) (h : Nat) : Nat := on.getD h 0
def ah (on : List Nat) (h : Nat) : Nat := on.idxOf h
def mt (ms : List (Option Nat)) (h : Nat) : Option Nat := (ms[h]?).join
def lf (on : List Nat) (ms : List (Option Nat)) (h : Nat) : Option Nat := mt ms (ah on h)
def rt (on : List Nat) (ms : List (Option Nat)) (h : Nat) : Option Nat := (mt ms h).map (nx on)
open LW
theorem SkinP.lenO (S : SkinP n on ms) : on.length = n := by rw [S.perm.length_eq]; simp
theorem nx_at (S : SkinP n on ms) {h : Nat} (hh : h < n) : on[h]? = some (nx on h) := by
  have : h < on.length := by rw [SkinP.lenO S]; exact hh
  simp [nx, List.getD, List.getElem?_eq_getElem this]
theorem nx_lt (S : SkinP n on ms) {h : Nat} (hh : h < n) : nx on h < n := by
  have := List.mem_of_getElem? (nx_at S hh)
  exact List.mem_range.1 (S.perm.mem_iff.1 this)
theorem on_nodup (S : SkinP n on ms) : on.Nodup := S.perm.nodup_iff.2 List.nodup_range
theorem ah_lt (S : SkinP n on ms) {h : Nat} (hh : h < n) : ah on h < n := by
  have : h ∈ on := S.perm.mem_iff.2 (List.mem_range.2 hh)
  have := List.idxOf_lt_length_iff.2 this
  rw [SkinP.lenO S] at this
  exact this
theorem nx_ah (S : SkinP n on ms) {h : Nat} (hh : h < n) : nx on (ah on h) = h := by
  have h1 : on.idxOf h < on.length := by rw [SkinP.lenO S]; exact ah_lt S hh
  have := List.getElem_idxOf h1
  simp only [nx, ah, List.getD, List.getElem?_eq_getElem h1, Option.getD_some]
  exact this
theorem nx_inj (S : SkinP n on ms) {a b : Nat} (ha : a < n) (hb : b < n) (e : nx on a = nx on b) : a = b := by
  exact getD_inj (on_nodup S) (by rw [SkinP.lenO S]; exact ha) (by rw [SkinP.lenO S]; exact hb) e
theorem ah_nx (S : SkinP n on ms) {h : Nat} (hh : h < n) : ah on (nx on h) = h := nx_inj S (ah_lt S (nx_lt S hh)) hh (nx_ah S (nx_lt S hh))
theorem mt_at (S : SkinP n on ms) {h : Nat} (hh : h < n) : ms[h]? = some (mt ms h) := by
  have : h < ms.length := by rw [S.len]; exact hh
  simp [mt, List.getElem?_eq_getElem this]
theorem mt_some (S : SkinP n on ms) {a b : Nat} (h : mt ms a = some b) : a < n ∧ b < n ∧ b ≠ a ∧ mt ms b = some a := by
  unfold mt at h
  cases q : ms[a]? with
  | none => rw [q] at h; cases h
  | some o =>
    rw [q] at h
    have h' : o = some b := h
    subst h'
    obtain ⟨h1, h2, h3⟩ := S.mate a b q
    have := (List.getElem?_eq_some_iff.mp q).1
    exact ⟨by rw [← S.len]; exact this, h1, h2, by unfold mt; rw [h3]; rfl⟩
theorem lf_rt (S : SkinP n on ms) {a b : Nat} (ha : a < n) (h : lf on ms a = some b) : b < n ∧ rt on ms b = some a := by
  obtain ⟨h1, h2, h3, h4⟩ := mt_some S h
  refine ⟨h2, ?_⟩
  unfold rt
  rw [h4]
  exact congrArg some (nx_ah S ha)
theorem rt_lf (S : SkinP n on ms) {a b : Nat} (h : rt on ms b = some a) : a < n ∧ b < n ∧ lf on ms a = some b := by
  unfold rt at h
  cases q : mt ms b with
  | none => rw [q] at h; cases h
  | some m =>
    rw [q] at h
    have e : nx on m = a := by simpa using h
    obtain ⟨h1, h2, h3, h4⟩ := mt_some S q
    refine ⟨by rw [← e]; exact nx_lt S h2, h1, ?_⟩
    unfold lf
    rw [← e, ah_nx S h2]
    exact h4
theorem rt_none (S : SkinP n on ms) {a : Nat} : rt on ms a = none ↔ mt ms a = none := by
  unfold rt
  cases mt ms a <;> simp
theorem lf_lt (S : SkinP n on ms) {a b : Nat} (h : lf on ms a = some b) : a < n := by
  obtain ⟨h1, _⟩ := mt_some S h
  have h2 : on.idxOf a < on.length := by rw [SkinP.lenO S]; exact h1
  have := List.idxOf_lt_length_iff.1 h2
  exact List.mem_range.1 (S.perm.mem_iff.1 this)
theorem lf_inj (S : SkinP n on ms) : Inj (lf on ms) := fun a b c h1 h2 => by
  have e1 := (lf_rt S (lf_lt S h1) h1).2
  have e2 := (lf_rt S (lf_lt S h2) h2).2
  rw [e1] at e2
  cases e2
  rfl
theorem rt_inj (S : SkinP n on ms) : Inj (rt on ms) := fun a b c h1 h2 => by
  have e1 := (rt_lf S h1).2.2
  have e2 := (rt_lf S h2).2.2
  rw [e1] at e2
  cases e2
  rfl
theorem lf_ub (S : SkinP n on ms) (a b : Nat) (h : lf on ms a = some b) : b < n := (lf_rt S (lf_lt S h) h).1
theorem rt_ub (S : SkinP n on ms) (a b : Nat) (h : rt on ms a = some b) : b < n := (rt_lf S h).1
end
/-! ### round a knot -/
/-- the walk round a knot: it comes round, or goes from end to end -/
structure Kn (L R : Nat → Option Nat) (h : Nat) (l : List Nat) : Prop where
  ex : (FwC L h l ∧ ∀ z, l.getLast? = some z → L z = some h) ∨ (∃ x, FwC L x l ∧ R x = none ∧ h ∈ l ∧ ∀ z, l.getLast? = some z → L z = none)
theorem Lk.drop {f : Nat → Option Nat} {l : List Nat} (h : Lk f l) (k : Nat) : Lk f (l.drop k) := fun i a b ha hb => by
  rw [List.getElem?_drop] at ha hb
  exact h (k + i) a b ha (by rw [show k + i + 1 = k + (i + 1) by omega]; exact hb)
/-- from a place on to the end: by how far it is -/
theorem ends {f : Nat → Option Nat} {l l' : List Nat} (h : Lk f l) (h' : Lk f l') (e : ∀ z, l.getLast? = some z → f z = none) (e' : ∀ z, l'.getLast? = some z → f z = none) {i j a : Nat} (hi : l[i]? = some a) (hj : l'[j]? = some a) : l.drop i = l'.drop j := by
  have key : ∀ (k : Nat) (l l' : List Nat) (i j a : Nat), Lk f l → Lk f l' → (∀ z, l.getLast? = some z → f z = none) → (∀ z, l'.getLast? = some z → f z = none) → l[i]? = some a → l'[j]? = some a → l.length - i ≤ k → l.drop i = l'.drop j := by
    intro k
    induction k with
    | zero =>
      intro l l' i j a _ _ _ _ hi _ hk
      have := (List.getElem?_eq_some_iff.mp hi).1
      omega
    | succ k ih =>
      intro l l' i j a h h' e e' hi hj hk
      have li := (List.getElem?_eq_some_iff.mp hi).1
      have lj := (List.getElem?_eq_some_iff.mp hj).1
      rw [List.drop_eq_getElem_cons li, List.drop_eq_getElem_cons lj]
      have ea : l[i] = l'[j] := by
        rw [List.getElem?_eq_getElem li] at hi
        rw [List.getElem?_eq_getElem lj] at hj
        cases hi
        injection hj with hj
        exact hj.symm
      rw [ea]
      congr 1
      by_cases ci : i + 1 < l.length
      · have n1 := h i a _ hi (List.getElem?_eq_getElem ci)
        by_cases cj : j + 1 < l'.length
        · have n2 := h' j a _ hj (List.getElem?_eq_getElem cj)
          rw [n1] at n2
          exact ih l l' (i + 1) (j + 1) _ h h' e e' (List.getElem?_eq_getElem ci) (by rw [List.getElem?_eq_getElem cj]; exact n2.symm) (by omega)
        · have : f a = none := e' a (by rw [List.getLast?_eq_getElem?, show l'.length - 1 = j by omega]; exact hj)
          rw [this] at n1
          cases n1
      · have n1 : f a = none := e a (by rw [List.getLast?_eq_getElem?, show l.length - 1 = i by omega]; exact hi)
        by_cases cj : j + 1 < l'.length
        · have n2 := h' j a _ hj (List.getElem?_eq_getElem cj)
          rw [n1] at n2
          cases n2
        · rw [List.drop_of_length_le (by omega), List.drop_of_length_le (by omega)]
  exact key _ l l' i j a h h' e e' hi hj (Nat.le_refl _)
theorem Kn.uniq {L R : Nat → Option Nat} (inv : ∀ a b, L a = some b → R b = some a) {h : Nat} {l l' : List Nat} (k : Kn L R h l) (k' : Kn L R h l') : l = l' := by
  have mix : ∀ {l l' : List Nat}, (FwC L h l ∧ ∀ z, l.getLast? = some z → L z = some h) → (∃ x, FwC L x l' ∧ R x = none ∧ h ∈ l' ∧ ∀ z, l'.getLast? = some z → L z = none) → False := by
    intro l l' ⟨c, cl⟩ ⟨x, c', hx, hm, cl'⟩
    -- each of l has one behind it, so the chain could not end
    have step : ∀ a, a ∈ l → ∃ b, b ∈ l ∧ L a = some b := fun a ha => by
      obtain ⟨i, hi, e⟩ := List.mem_iff_getElem.1 ha
      by_cases q : i + 1 < l.length
      · exact ⟨l[i + 1], List.getElem_mem q, by rw [← e]; exact c.lk i _ _ (List.getElem?_eq_getElem hi) (List.getElem?_eq_getElem q)⟩
      · refine ⟨h, List.mem_of_getElem? c.hd, ?_⟩
        rw [← e]
        exact cl _ (by rw [List.getLast?_eq_getElem?, show l.length - 1 = i by omega]; exact List.getElem?_eq_getElem hi)
    obtain ⟨j, hj, e⟩ := List.mem_iff_getElem.1 hm
    have all : ∀ (d z : Nat), l'[j + d]? = some z → z ∈ l := by
      intro d
      induction d with
      | zero =>
        intro z hz
        rw [Nat.add_zero, List.getElem?_eq_getElem hj, e] at hz
        cases hz
        exact List.mem_of_getElem? c.hd
      | succ d ih =>
        intro z hz
        have ld := (List.getElem?_eq_some_iff.mp hz).1
        have e4 : l'[j + d]? = some l'[j + d] := List.getElem?_eq_getElem (by omega)
        obtain ⟨b, hb, hL⟩ := step _ (ih _ e4)
        have := c'.lk (j + d) _ _ e4 hz
        rw [hL] at this
        cases this
        exact hb
    have hz2 : l'[l'.length - 1]? = some l'[l'.length - 1] := List.getElem?_eq_getElem (by omega)
    have hlast := all (l'.length - 1 - j) _ (by rw [show j + (l'.length - 1 - j) = l'.length - 1 by omega]; exact hz2)
    obtain ⟨b, _, hL⟩ := step _ hlast
    have := cl' _ (by rw [List.getLast?_eq_getElem?]; exact hz2)
    rw [hL] at this
    cases this
  rcases k.ex with a | a <;> rcases k'.ex with b | b
  · exact a.1.uniq b.1
  · exact (mix a b).elim
  · exact (mix b a).elim
  · obtain ⟨x, c, hx, hm, cl⟩ := a
    obtain ⟨x', c', hx', hm', cl'⟩ := b
    obtain ⟨i, hi, e⟩ := List.mem_iff_getElem.1 hm
    obtain ⟨j, hj, e'⟩ := List.mem_iff_getElem.1 hm'
    have d := ends c.lk c'.lk cl cl' (i := i) (j := j) (a := h) (by rw [List.getElem?_eq_getElem hi, e]) (by rw [List.getElem?_eq_getElem hj, e'])
    -- backwards
    have back : ∀ (k : Nat) (l l' : List Nat) (i j a x x' : Nat), Fw L x l → Fw L x' l' → R x = none → R x' = none → l[i]? = some a → l'[j]? = some a → i ≤ k → i = j ∧ l.take i = l'.take j := by
      intro k
      induction k with
      | zero =>
        intro l l' i j a x x' f f' hx hx' hi hj hk
        have : i = 0 := by omega
        subst this
        rw [f.hd] at hi
        cases hi
        cases j with
        | zero => exact ⟨rfl, rfl⟩
        | succ j =>
          have lj := (List.getElem?_eq_some_iff.mp hj).1
          have := inv _ _ (f'.lk j _ _ (List.getElem?_eq_getElem (by omega)) hj)
          rw [hx] at this
          cases this
      | succ k ih =>
        intro l l' i j a x x' f f' hx hx' hi hj hk
        cases i with
        | zero =>
          rw [f.hd] at hi
          cases hi
          cases j with
          | zero => exact ⟨rfl, rfl⟩
          | succ j =>
            have lj := (List.getElem?_eq_some_iff.mp hj).1
            have := inv _ _ (f'.lk j _ _ (List.getElem?_eq_getElem (by omega)) hj)
            rw [hx] at this
            cases this
        | succ i =>
          have li := (List.getElem?_eq_some_iff.mp hi).1
          have g1 := inv _ _ (f.lk i _ _ (List.getElem?_eq_getElem (by omega)) hi)
          cases j with
          | zero =>
            rw [f'.hd] at hj
            cases hj
            rw [hx'] at g1
            cases g1
          | succ j =>
            have lj := (List.getElem?_eq_some_iff.mp hj).1
            have g2 := inv _ _ (f'.lk j _ _ (List.getElem?_eq_getElem (by omega)) hj)
            rw [g1] at g2
            injection g2 with g2
            obtain ⟨e1, e2⟩ := ih l l' i j l[i] x x' f f' hx hx' (List.getElem?_eq_getElem (by omega)) (by rw [List.getElem?_eq_getElem (by omega), g2]) (by omega)
            subst e1
            refine ⟨rfl, ?_⟩
            rw [List.take_succ, List.take_succ, e2, List.getElem?_eq_getElem (by omega : i < l.length), List.getElem?_eq_getElem (by omega : i < l'.length), g2]
    obtain ⟨e1, e2⟩ := back i l l' i j h x x' c.toFw c'.toFw hx hx' (by rw [List.getElem?_eq_getElem hi, e]) (by rw [List.getElem?_eq_getElem hj, e']) (Nat.le_refl _)
    subst e1
    rw [← List.take_append_drop i l, ← List.take_append_drop i l', e2, d]
end NP
/- part NKN -/
set_option Elab.async false
set_option linter.all false
set_option maxRecDepth 100000
set_option maxHeartbeats 4000000
/-! NKN: the walks of program and law, typed. -/
namespace NP
open PySem L2 DL LW NT NW
abbrev sk (on : List Nat) (ms : List (Option Nat)) : List Int × List (Option Int) := (nI on, oI ms)
abbrev oc (o : Option Nat) : Option Int := o.map fun (k : Nat) => (k : Int)
theorem appN_n {L : List Nat} {y : Nat} (h : L.length < 100000) : appN (nI L) (y : Int) = .ok (nI (L ++ [y])) := by
  unfold appN
  rw [if_pos (by simpa using h)]
  simp
theorem idx_last {L : List Nat} {z : Nat} (h : L.getLast? = some z) : idx (nI L) (-1) = .ok (z : Int) := by
  have hl : L ≠ [] := fun e => by rw [e] at h; cases h
  have hp : 0 < L.length := List.length_pos_iff.2 hl
  unfold idx atI ixN
  rw [if_neg (by omega), if_pos (by rw [nI_len]; omega)]
  have e : ((-1 : Int) + ((nI L).length : Int)).toNat = L.length - 1 := by rw [nI_len]; omega
  rw [e]
  rw [List.getLast?_eq_getElem?] at h
  simp [h]
theorem idx_head {L : List Nat} {z : Nat} (h : L[0]? = some z) : idx (nI L) 0 = .ok (z : Int) := idx_k (i := 0) (by simp [h])
theorem index_n {on : List Nat} {h : Nat} (hh : h ∈ on) : indexN (nI on) (h : Int) = .ok (ah on h : Int) := by
  unfold indexN ah
  have : (nI on).findIdx? (fun y => decide (y = (h : Int))) = some (on.idxOf h) := by
    rw [List.findIdx?_eq_some_iff_getElem]
    have l := List.idxOf_lt_length_iff.2 hh
    refine ⟨by simpa using l, by simp, fun j hj => ?_⟩
    have lj : j < on.length := by omega
    simp only [List.getElem_map, decide_eq_true_eq]
    intro e
    have e' : on[j] = h := by omega
    have := List.not_of_lt_findIdx (p := (· == h)) (xs := on) (i := j) hj
    simp [e'] at this
  rw [this]
  rfl
section
variable {n : Nat} {on : List Nat} {ms : List (Option Nat)} (S : SkinP n on ms)
include S
theorem look_n {h : Nat} (hh : h < n) : n_look_at_half (sk on ms) (h : Int) = .ok () := by
  unfold n_look_at_half
  have a : ¬ ((h : Int) < 0) := by omega
  have b : ¬ (((nI on).length : Int) ≤ (h : Int)) := by rw [nI_len, SkinP.lenO S]; omega
  simp only [a, b, decide_false, Bool.or_self, Bool.false_eq_true, if_false, fp_nx]
theorem at_on {h : Nat} (hh : h < n) : idx (nI on) (h : Int) = .ok (nx on h : Int) := idx_k (by simp [nx_at S hh])
theorem at_ms {h : Nat} (hh : h < n) : idx (oI ms) (h : Int) = .ok (oc (mt ms h)) := idx_k (by simp [mt_at S hh])
theorem mem_on {h : Nat} (hh : h < n) : h ∈ on := S.perm.mem_iff.2 (List.mem_range.2 hh)
theorem ahead_n {h : Nat} (hh : h < n) : n_ahead_of (sk on ms) (h : Int) = .ok (ah on h : Int) := by
  unfold n_ahead_of
  simp [look_n S hh, index_n (mem_on S hh)]
theorem left_n {h : Nat} (hh : h < n) : n_left_of (sk on ms) (h : Int) = .ok (oc (lf on ms h)) := by
  unfold n_left_of
  simp only [ahead_n S hh, at_ms S (ah_lt S hh), ct_ok, fn_rt]
  rfl
theorem right_n {h : Nat} (hh : h < n) : n_right_of (sk on ms) (h : Int) = .ok (oc (rt on ms h)) := by
  unfold n_right_of
  simp only [look_n S hh, at_ms S hh, ct_ok]
  cases q : mt ms h with
  | none => simp [rt, q]
  | some m => simp [rt, q, at_on S (mt_some S q).2.1]
theorem lleft_n {h : Nat} (hh : h < n) : n__law_left (sk on ms) (h : Int) = .ok (oc (lf on ms h)) := by
  unfold n__law_left
  simp only [index_n (mem_on S hh), at_ms S (ah_lt S hh), ct_ok, fn_rt]
  rfl
theorem lright_n {h : Nat} (hh : h < n) : n__law_right (sk on ms) (h : Int) = .ok (oc (rt on ms h)) := by
  unfold n__law_right
  simp only [at_ms S hh, ct_ok]
  cases q : mt ms h with
  | none => simp [rt, q]
  | some m => simp [rt, q, unw, at_on S (mt_some S q).2.1]
end
/-! ### walks by a total step -/
def tot (D : Nat → Bool) (g : Nat → Nat) : Nat → Option Nat := fun a => if D a = true then some (g a) else none
structure TotOk (n : Nat) (D : Nat → Bool) (g : Nat → Nat) : Prop where
  lt : ∀ a, D a = true → a < n
  st : ∀ a, D a = true → D (g a) = true
  inj : ∀ a b, D a = true → D b = true → g a = g b → a = b
theorem TotOk.inj' {n : Nat} {D : Nat → Bool} {g : Nat → Nat} (T : TotOk n D g) : Inj (tot D g) := fun a b c h1 h2 => by
  unfold tot at h1 h2
  by_cases p : D a = true
  · by_cases q : D b = true
    · rw [if_pos p] at h1
      rw [if_pos q] at h2
      injection h1 with h1
      injection h2 with h2
      exact T.inj a b p q (h1.trans h2.symm)
    · rw [if_neg q] at h2; cases h2
  · rw [if_neg p] at h1; cases h1
theorem TotOk.ub {n : Nat} {D : Nat → Bool} {g : Nat → Nat} (T : TotOk n D g) (a b : Nat) (h : tot D g a = some b) : b < n := by
  unfold tot at h
  split at h <;> cases h
  rename_i p
  exact T.lt _ (T.st _ p)
theorem tot_on {D : Nat → Bool} {g : Nat → Nat} {a : Nat} (h : D a = true) : tot D g a = some (g a) := by unfold tot; rw [if_pos h]
theorem loopA {ρ l : Type} {n : Nat} {D : Nat → Bool} {g : Nat → Nat} (T : TotOk n D g) (hn : n ≤ 1000) {x : Nat} (hx : D x = true) (step : Int → N Int) (hs : ∀ a, D a = true → step (a : Int) = .ok (g a : Int)) :
    ∃ lst, FwC (tot D g) x lst ∧ (∀ a, a ∈ lst → D a = true) ∧ (whileC (P2 fun (found0 : List Int) (at0 : Int) => Ct.fn (.rt (!(decide (at0 = (x : Int)))) : Ct Unit Unit Bool)) (P2 fun found0 at0 => ((appN found0 at0).ct fun found1 => (step at0).ct fun a1 => .nx (found1, a1) : Ct (List Int × Int) (List Int × Int) ρ)) FUEL ([(x : Int)], (g x : Int)) : Ct (List Int × Int) l ρ) = .nx (nI lst, (x : Int)) := by
  obtain ⟨st, e, lst, z, f, hz, rfl, hD, hxz⟩ := while_ok (l := l) (ρ := ρ) (t := P2 fun (found0 : List Int) (at0 : Int) => Ct.fn (.rt (!(decide (at0 = (x : Int)))) : Ct Unit Unit Bool)) (body := P2 fun found0 at0 => ((appN found0 at0).ct fun found1 => (step at0).ct fun a1 => .nx (found1, a1) : Ct (List Int × Int) (List Int × Int) ρ))
    (fun k st => ∃ lst z, Fw (tot D g) x lst ∧ lst.getLast? = some z ∧ st = (nI lst, (g z : Int)) ∧ (∀ a, a ∈ lst → D a = true) ∧ k = n - lst.length)
    (fun st => ∃ lst z, Fw (tot D g) x lst ∧ lst.getLast? = some z ∧ st = (nI lst, (x : Int)) ∧ (∀ a, a ∈ lst → D a = true) ∧ g z = x)
    FUEL (n - 1) ([(x : Int)], (g x : Int)) (by have := fuel_le; omega) ⟨[x], x, Fw.one _ _, rfl, rfl, fun a ha => by rw [List.mem_singleton.1 ha]; exact hx, by simp⟩ (by
      rintro k _ ⟨lst, z, f, hz, rfl, hD, rfl⟩
      have hDz : D z = true := hD z (List.mem_of_getLast? hz)
      by_cases c : g z = x
      · left
        exact ⟨by simp [c], lst, z, f, hz, by rw [c], hD, c⟩
      · right
        have c' : ¬ ((g z : Int) = (x : Int)) := by omega
        have f2 := f.snoc hz (tot_on hDz) c
        have l1 := f.len T.inj' T.ub (T.lt x hx)
        have l2 := f2.len T.inj' T.ub (T.lt x hx)
        rw [List.length_append] at l2
        simp only [List.length_singleton] at l2
        refine ⟨by simp [c'], (nI (lst ++ [g z]), (g (g z) : Int)), n - (lst ++ [g z]).length, .inl ?_, ?_, lst ++ [g z], g z, f2, by simp, rfl, ?_, rfl⟩
        · simp only [P2, appN_n (show lst.length < 100000 by omega), ct_ok, hs _ (T.st _ hDz)]
        · rw [List.length_append]; simp only [List.length_singleton]; omega
        · intro a ha
          rcases List.mem_append.1 ha with ha | ha
          · exact hD a ha
          · rw [List.mem_singleton.1 ha]; exact T.st _ hDz)
  refine ⟨lst, ⟨f, fun w hw => ?_⟩, hD, e⟩
  rw [hz] at hw
  cases hw
  exact .inr (by rw [tot_on (hD z (List.mem_of_getLast? hz)), hxz])
section
variable {n : Nat} {on : List Nat} {ms : List (Option Nat)} (S : SkinP n on ms)
include S
def inB (n : Nat) (a : Nat) : Bool := decide (a < n)
theorem patch_tot : TotOk n (inB n) (nx on) where
  lt := fun a h => by simpa [inB] using h
  st := fun a h => by simp [inB] at *; exact nx_lt S h
  inj := fun a b h1 h2 e => by simp [inB] at *; exact nx_inj S h1 h2 e
/-- what is a patch -/
def PatchW (n : Nat) (on : List Nat) (h : Nat) (l : List Nat) : Prop := FwC (tot (inB n) (nx on)) h l
theorem patch_n (hn : n ≤ 1000) {h : Nat} (hh : h < n) : ∃ l, PatchW n on h l ∧ (∀ a, a ∈ l → a < n) ∧ n_patch_of (sk on ms) (h : Int) = .ok (nI l) := by
  obtain ⟨lst, f, hD, e⟩ := loopA (l := Unit) (ρ := List Int) (patch_tot S) hn (x := h) (by simpa [inB] using hh) (fun a => idx (nI on) a) (fun a ha => at_on S (by simpa [inB] using ha))
  refine ⟨lst, f, fun a ha => by simpa [inB] using hD a ha, ?_⟩
  unfold n_patch_of
  simp only [look_n S hh, at_on S hh, ct_ok]
  rw [e]
  rfl
theorem lpatch_n (hn : n ≤ 1000) {h : Nat} (hh : h < n) : ∃ l, PatchW n on h l ∧ n__law_patch (sk on ms) (h : Int) = .ok (nI l) := by
  have T := patch_tot S
  have H : ∃ r, n__law_patch (sk on ms) (h : Int) = .ok r ∧ ∃ l, PatchW n on h l ∧ r = nI l := by
    unfold n__law_patch
    refine W_fn ?_
    refine W_cut (fun st => ∃ l, PatchW n on h l ∧ st = nI l) ?_ (fun st h => h)
    refine W_while (fun k st => ∃ lst z, Fw (tot (inB n) (nx on)) h lst ∧ lst.getLast? = some z ∧ st = nI lst ∧ (∀ a, a ∈ lst → a < n) ∧ k = n - lst.length) FUEL (n - 1) _ (by have := fuel_le; omega) ⟨[h], h, Fw.one _ _, rfl, rfl, fun a ha => by rw [List.mem_singleton.1 ha]; exact hh, by simp⟩ ?_
    rintro k _ ⟨lst, z, f, hz, rfl, hD, rfl⟩
    have hDz : z < n := hD z (List.mem_of_getLast? hz)
    have hfz : tot (inB n) (nx on) z = some (nx on z) := tot_on (by simpa [inB] using hDz)
    simp only [idx_last hz, ct_ok, at_on S hDz, fn_rt]
    by_cases c : nx on z = h
    · left
      refine ⟨by simp [c], lst, ⟨f, fun w hw => ?_⟩, rfl⟩
      rw [hz] at hw
      cases hw
      exact .inr (by rw [hfz, c])
    · right
      have c' : ¬ ((nx on z : Int) = (h : Int)) := by omega
      have f2 := f.snoc hz hfz c
      have hx : inB n h = true := by simpa [inB] using hh
      have l2 := f2.len T.inj' T.ub (T.lt h hx)
      rw [List.length_append] at l2
      simp only [List.length_singleton] at l2
      refine ⟨by simp [c'], ?_⟩
      simp only [appN_n (show lst.length < 100000 by omega), ct_ok, W_nx]
      refine ⟨n - (lst ++ [nx on z]).length, by rw [List.length_append]; simp only [List.length_singleton]; omega, lst ++ [nx on z], nx on z, f2, by simp, rfl, fun a ha => ?_, rfl⟩
      rcases List.mem_append.1 ha with ha | ha
      · exact hD a ha
      · rw [List.mem_singleton.1 ha]; exact nx_lt S hDz
  obtain ⟨r, e, l, f, rfl⟩ := H
  exact ⟨l, f, e⟩
end
end NP
/- part NK2 -/
set_option Elab.async false
set_option linter.all false
set_option maxRecDepth 100000
set_option maxHeartbeats 4000000
/-! NK2: round a knot, along a rim: program and law. -/
namespace NP
open PySem L2 DL LW NT NW
/-! ### chains -/
theorem chain_nodup {f : Nat → Option Nat} {l : List Nat} (h : Lk f l) (e : ∀ z, l.getLast? = some z → f z = none) : l.Nodup := by
  rw [List.nodup_iff_pairwise_ne, List.pairwise_iff_getElem]
  intro i j hi hj hij q
  have := ends h h e e (i := i) (j := j) (a := l[i]) (List.getElem?_eq_getElem hi) (by rw [List.getElem?_eq_getElem hj, q])
  have := congrArg List.length this
  simp at this
  omega
theorem chain_fw {f : Nat → Option Nat} {l : List Nat} {x : Nat} (h : Lk f l) (e : ∀ z, l.getLast? = some z → f z = none) (hx : l[0]? = some x) : FwC f x l where
  hd := hx
  lk := h
  ne := fun i hi => by
    have nd := chain_nodup h e
    have l0 := (List.getElem?_eq_some_iff.mp hx).1
    have l1 := (List.getElem?_eq_some_iff.mp hi).1
    rw [List.getElem?_eq_getElem l0] at hx
    rw [List.getElem?_eq_getElem l1] at hi
    injection hx with hx
    injection hi with hi
    rw [List.nodup_iff_pairwise_ne, List.pairwise_iff_getElem] at nd
    exact nd 0 (i + 1) l0 l1 (by omega) (hx.trans hi.symm)
  fin := fun z hz => .inl (e z hz)
theorem Lk.cons {f : Nat → Option Nat} {l : List Nat} (h : Lk f l) {x y : Nat} (hx : l[0]? = some x) (hy : f y = some x) : Lk f (y :: l) := fun i a b ha hb => by
  cases i with
  | zero =>
    simp at ha hb
    subst ha
    rw [hx] at hb
    cases hb
    exact hy
  | succ i => exact h i a b (by simpa using ha) (by simpa using hb)
theorem Lk.rev {f g : Nat → Option Nat} (inv : ∀ a b, f a = some b → g b = some a) {l : List Nat} (h : Lk f l) : Lk g l.reverse := fun i a b ha hb => by
  have l1 := (List.getElem?_eq_some_iff.mp hb).1
  rw [List.length_reverse] at l1
  rw [List.getElem?_reverse (by omega)] at ha hb
  refine inv b a (h (l.length - 1 - (i + 1)) b a hb ?_)
  rw [show l.length - 1 - (i + 1) + 1 = l.length - 1 - i by omega]
  exact ha
theorem rev_last {l : List Nat} {x : Nat} (h : l[0]? = some x) : l.reverse.getLast? = some x := by
  rw [List.getLast?_reverse]
  cases l with
  | nil => cases h
  | cons a l => simpa using h
theorem rev_head {l : List Nat} {x : Nat} (h : l.getLast? = some x) : l.reverse[0]? = some x := by
  rw [← List.head?_eq_getElem?, List.head?_reverse]
  exact h
/-- a chain to the right, read back -/
theorem kn_of_chain {L R : Nat → Option Nat} (inv : ∀ a b, L a = some b → R b = some a) (inv' : ∀ a b, R a = some b → L b = some a) {h e : Nat} {r l : List Nat} (hr : FwC R h r) (he : r.getLast? = some e) (hn : R e = none) (hl : FwC L e l) : Kn L R h l := by
  refine ⟨.inr ⟨e, hl, hn, ?_, ?_⟩⟩
  · have all : ∀ (k : Nat) (a : Nat), r.reverse[k]? = some a → a ∈ l := by
      intro k
      induction k with
      | zero =>
        intro a ha
        rw [rev_head he] at ha
        cases ha
        exact List.mem_of_getElem? hl.hd
      | succ k ih =>
        intro a ha
        have l1 := (List.getElem?_eq_some_iff.mp ha).1
        have e4 : r.reverse[k]? = some r.reverse[k] := List.getElem?_eq_getElem (by omega)
        have st := Lk.rev inv' hr.lk k _ _ e4 ha
        obtain ⟨j, hj, ej⟩ := List.mem_iff_getElem.1 (ih _ e4)
        by_cases c : j + 1 < l.length
        · have := hl.lk j _ _ (List.getElem?_eq_getElem hj) (List.getElem?_eq_getElem c)
          rw [ej, st] at this
          cases this
          exact List.getElem_mem c
        · have := hl.fin l[j] (by rw [List.getLast?_eq_getElem?, show l.length - 1 = j by omega]; exact List.getElem?_eq_getElem hj)
          rw [ej, st] at this
          rcases this with q | q
          · cases q
          · cases q
            exact List.mem_of_getElem? hl.hd
    have := rev_last hr.hd
    rw [List.getLast?_eq_getElem?] at this
    exact all _ _ this
  · intro z hz
    rcases hl.fin z hz with q | q
    · exact q
    · have := inv _ _ q
      rw [hn] at this
      cases this
/-- a round to the right is one to the left -/
theorem kn_of_round {L R : Nat → Option Nat} (inv' : ∀ a b, R a = some b → L b = some a) {h z : Nat} {r l : List Nat} (hr : FwC R h r) (hz : r.getLast? = some z) (hc : R z = some h) (hl : FwC L h l) : Kn L R h l := by
  refine ⟨.inl ⟨hl, ?_⟩⟩
  have step : ∀ a, a ∈ r → ∃ b, b ∈ r ∧ L a = some b := fun a ha => by
    obtain ⟨i, hi, e⟩ := List.mem_iff_getElem.1 ha
    cases i with
    | zero =>
      have := hr.hd
      rw [List.getElem?_eq_getElem hi, e] at this
      cases this
      exact ⟨z, List.mem_of_getLast? hz, inv' _ _ hc⟩
    | succ i =>
      refine ⟨r[i], List.getElem_mem _, ?_⟩
      have := hr.lk i _ _ (List.getElem?_eq_getElem (by omega)) (List.getElem?_eq_getElem hi)
      rw [e] at this
      exact inv' _ _ this
  have all : ∀ (k a : Nat), l[k]? = some a → a ∈ r := by
    intro k
    induction k with
    | zero =>
      intro a ha
      rw [hl.hd] at ha
      cases ha
      exact List.mem_of_getElem? hr.hd
    | succ k ih =>
      intro a ha
      have l1 := (List.getElem?_eq_some_iff.mp ha).1
      have e4 : l[k]? = some l[k] := List.getElem?_eq_getElem (by omega)
      have st := hl.lk k _ _ e4 ha
      obtain ⟨b, hb, hL⟩ := step _ (ih _ e4)
      rw [st] at hL
      cases hL
      exact hb
  intro w hw
  rcases hl.fin w hw with q | q
  · rw [List.getLast?_eq_getElem?] at hw
    obtain ⟨b, _, hL⟩ := step _ (all _ _ hw)
    rw [hL] at q
    cases q
  · exact q
section
variable {n : Nat} {on : List Nat} {ms : List (Option Nat)} (S : SkinP n on ms)
include S
abbrev KnW (on : List Nat) (ms : List (Option Nat)) (h : Nat) (l : List Nat) : Prop := Kn (lf on ms) (rt on ms) h l
theorem inv1 (a b : Nat) (h : lf on ms a = some b) : rt on ms b = some a := (lf_rt S (lf_lt S h) h).2
theorem inv2 (a b : Nat) (h : rt on ms a = some b) : lf on ms b = some a := (rt_lf S h).2.2
theorem knw_uniq {h : Nat} {l l' : List Nat} (k : KnW on ms h l) (k' : KnW on ms h l') : l = l' := Kn.uniq (inv1 S) k k'
/-- the loop to the right -/
theorem loopR {ρ : Type} (hn : n ≤ 1000) {h : Nat} (hh : h < n) {p : Po (Int × Option Int) Unit ρ}
    (k : ∀ r z, FwC (rt on ms) h r → r.getLast? = some z → z < n → p.nx ((z : Int), oc (rt on ms z))) :
    W (whileC (P2 fun (first0 : Int) (at0 : Option Int) => Ct.fn (.rt (optC at0 false (fun at1 => !(decide (at1 = (h : Int))))) : Ct Unit Unit Bool)) (P2 fun first0 at0 => ((unw at0).ct fun at00 => (n_right_of (sk on ms) at00).ct fun r1 => .nx (at00, r1) : Ct (Int × (Option Int)) (Int × (Option Int)) ρ)) FUEL ((h : Int), oc (rt on ms h))) p := by
  refine W_while (fun k st => ∃ r z, Fw (rt on ms) h r ∧ r.getLast? = some z ∧ st = ((z : Int), oc (rt on ms z)) ∧ z < n ∧ k = n - r.length) FUEL (n - 1) _ (by have := fuel_le; omega) ⟨[h], h, Fw.one _ _, rfl, rfl, hh, by simp⟩ ?_
  rintro m _ ⟨r, z, f, hz, rfl, hzn, rfl⟩
  cases q : rt on ms z with
  | none =>
    left
    refine ⟨rfl, ?_⟩
    have := k r z ⟨f, fun w hw => by rw [hz] at hw; cases hw; exact .inl q⟩ hz hzn
    rw [q] at this
    exact this
  | some y =>
    by_cases c : y = h
    · subst c
      left
      refine ⟨by simp [oc], ?_⟩
      have := k r z ⟨f, fun w hw => by rw [hz] at hw; cases hw; exact .inr q⟩ hz hzn
      rw [q] at this
      exact this
    · right
      have c' : ¬ ((y : Int) = (h : Int)) := by omega
      have f2 := f.snoc hz q c
      have hy : y < n := rt_ub S _ _ q
      have l2 := f2.len (rt_inj S) (rt_ub S) hh
      rw [List.length_append] at l2
      simp only [List.length_singleton] at l2
      refine ⟨by simp [oc, c'], ?_⟩
      simp only [P2, oc, Option.map_some, unw, ofO_some, ct_ok, right_n S hy, W_nx]
      exact ⟨n - (r ++ [y]).length, by rw [List.length_append]; simp only [List.length_singleton]; omega, r ++ [y], y, f2, by simp, rfl, hy, rfl⟩
/-- the loop to the left -/
theorem loopL {ρ : Type} (hn : n ≤ 1000) {h : Nat} (hh : h < n) {p : Po (Option Int × List Int) Unit ρ}
    (k : ∀ o l, FwC (lf on ms) h l → (∀ a, a ∈ l → a < n) → p.nx (o, nI l)) :
    W (whileC (P2 fun (at3 : Option Int) (found0 : List Int) => Ct.fn (.rt (optC at3 false (fun at4 => !(decide (at4 = (h : Int))))) : Ct Unit Unit Bool)) (P2 fun at3 found0 => ((unw at3).ct fun at30 => (appN found0 at30).ct fun found1 => (n_left_of (sk on ms) at30).ct fun r3 => .nx (r3, found1) : Ct ((Option Int) × (List Int)) ((Option Int) × (List Int)) ρ)) FUEL (oc (lf on ms h), [(h : Int)])) p := by
  refine W_while (fun k st => ∃ r z, Fw (lf on ms) h r ∧ r.getLast? = some z ∧ st = (oc (lf on ms z), nI r) ∧ z < n ∧ k = n - r.length) FUEL (n - 1) _ (by have := fuel_le; omega) ⟨[h], h, Fw.one _ _, rfl, rfl, hh, by simp⟩ ?_
  rintro m _ ⟨r, z, f, hz, rfl, hzn, rfl⟩
  cases q : lf on ms z with
  | none =>
    left
    exact ⟨rfl, k _ r ⟨f, fun w hw => by rw [hz] at hw; cases hw; exact .inl q⟩ (f.lt (lf_ub S) hh)⟩
  | some y =>
    by_cases c : y = h
    · subst c
      left
      exact ⟨by simp [oc], k _ r ⟨f, fun w hw => by rw [hz] at hw; cases hw; exact .inr q⟩ (f.lt (lf_ub S) hh)⟩
    · right
      have c' : ¬ ((y : Int) = (h : Int)) := by omega
      have f2 := f.snoc hz q c
      have hy : y < n := lf_ub S _ _ q
      have l2 := f2.len (lf_inj S) (lf_ub S) hh
      rw [List.length_append] at l2
      simp only [List.length_singleton] at l2
      refine ⟨by simp [oc, c'], ?_⟩
      simp only [P2, oc, Option.map_some, unw, ofO_some, ct_ok, appN_n (show r.length < 100000 by omega), left_n S hy, W_nx]
      exact ⟨n - (r ++ [y]).length, by rw [List.length_append]; simp only [List.length_singleton]; omega, r ++ [y], y, f2, by simp, rfl, hy, rfl⟩
theorem knot_n (hn : n ≤ 1000) {h : Nat} (hh : h < n) : ∃ l, KnW on ms h l ∧ (∀ a, a ∈ l → a < n) ∧ n_round_knot (sk on ms) (h : Int) = .ok (nI l) := by
  have H : ∃ r, n_round_knot (sk on ms) (h : Int) = .ok r ∧ ∃ l, KnW on ms h l ∧ (∀ a, a ∈ l → a < n) ∧ r = nI l := by
    unfold n_round_knot
    refine W_fn ?_
    simp only [right_n S hh, ct_ok]
    refine W_cut (fun st => ∃ r z, FwC (rt on ms) h r ∧ r.getLast? = some z ∧ z < n ∧ st = ((z : Int), oc (rt on ms z))) (loopR S hn hh fun r z a b c => ⟨r, z, a, b, c, rfl⟩) ?_
    rintro _ ⟨r, z, hr, hz, hzn, rfl⟩
    simp only [P2]
    rcases hr.fin z hz with q | q
    · rw [q]
      simp only [oc, Option.map_none, reduceCtorEq, decide_false, Bool.false_eq_true, if_false, sq_nx, left_n S hzn, ct_ok]
      refine W_cut (fun st => ∃ l, KnW on ms h l ∧ (∀ a, a ∈ l → a < n) ∧ st.2 = nI l) (loopL S hn hzn fun o l a b => ?_) ?_
      · exact ⟨l, kn_of_chain (inv1 S) (inv2 S) hr hz q a, b, rfl⟩
      · rintro ⟨o, w⟩ ⟨l, a, b, rfl⟩
        exact ⟨l, a, b, rfl⟩
    · rw [q]
      simp only [oc, Option.map_some, decide_true, if_true, sq_nx, left_n S hh, ct_ok]
      refine W_cut (fun st => ∃ l, KnW on ms h l ∧ (∀ a, a ∈ l → a < n) ∧ st.2 = nI l) (loopL S hn hh fun o l a b => ?_) ?_
      · exact ⟨l, kn_of_round (inv2 S) hr hz q a, b, rfl⟩
      · rintro ⟨o, w⟩ ⟨l, a, b, rfl⟩
        exact ⟨l, a, b, rfl⟩
  obtain ⟨r, e, l, a, b, rfl⟩ := H
  exact ⟨l, a, b, e⟩
theorem lknot_n (hn : n ≤ 1000) {h : Nat} (hh : h < n) : ∃ l, KnW on ms h l ∧ n__law_knot (sk on ms) (h : Int) = .ok (nI l) := by
  have H : ∃ r, n__law_knot (sk on ms) (h : Int) = .ok r ∧ ∃ l, KnW on ms h l ∧ r = nI l := by
    unfold n__law_knot
    refine W_fn ?_
    refine W_cut (fun st => ∃ l, FwC (lf on ms) h l ∧ (∀ a, a ∈ l → a < n) ∧ st = nI l) ?_ ?_
    · refine W_while (fun k st => ∃ r z, Fw (lf on ms) h r ∧ r.getLast? = some z ∧ st = nI r ∧ z < n ∧ k = n - r.length) FUEL (n - 1) _ (by have := fuel_le; omega) ⟨[h], h, Fw.one _ _, rfl, rfl, hh, by simp⟩ ?_
      rintro m _ ⟨r, z, f, hz, rfl, hzn, rfl⟩
      simp only [idx_last hz, ct_ok, lleft_n S hzn, fn_rt]
      cases q : lf on ms z with
      | none =>
        left
        exact ⟨by simp [oc], r, ⟨f, fun w hw => by rw [hz] at hw; cases hw; exact .inl q⟩, f.lt (lf_ub S) hh, rfl⟩
      | some y =>
        by_cases c : y = h
        · subst c
          left
          exact ⟨by simp [oc], r, ⟨f, fun w hw => by rw [hz] at hw; cases hw; exact .inr q⟩, f.lt (lf_ub S) hh, rfl⟩
        · right
          have c' : ¬ ((y : Int) = (h : Int)) := by omega
          have f2 := f.snoc hz q c
          have hy : y < n := lf_ub S _ _ q
          have l2 := f2.len (lf_inj S) (lf_ub S) hh
          rw [List.length_append] at l2
          simp only [List.length_singleton] at l2
          refine ⟨by simp [oc, c'], ?_⟩
          simp only [oc, Option.map_some, unw, ofO_some, ct_ok, appN_n (show r.length < 100000 by omega), W_nx]
          exact ⟨n - (r ++ [y]).length, by rw [List.length_append]; simp only [List.length_singleton]; omega, r ++ [y], y, f2, by simp, rfl, hy, rfl⟩
    rintro _ ⟨l, hl, hlt, rfl⟩
    obtain ⟨z, hz⟩ : ∃ z, l.getLast? = some z := by
      cases e : l.getLast? with
      | none => exact absurd (List.getLast?_eq_none_iff.1 e) hl.ne_nil
      | some z => exact ⟨z, rfl⟩
    have hzn : z < n := hlt z (List.mem_of_getLast? hz)
    simp only [idx_last hz, ct_ok, lleft_n S hzn]
    rcases hl.fin z hz with q | q
    · rw [q]
      simp only [oc, Option.map_none, Option.isNone_none, if_true]
      refine W_sq ?_
      simp only [W_rt]
      refine W_cut (fun st => ∃ l, KnW on ms h l ∧ st = nI l) ?_ (fun s a => a)
      refine W_while (fun k st => ∃ r x, Lk (lf on ms) r ∧ (∀ z, r.getLast? = some z → lf on ms z = none) ∧ r[0]? = some x ∧ h ∈ r ∧ (∀ a, a ∈ r → a < n) ∧ st = nI r ∧ k = n - r.length) FUEL (n - l.length) _ (by have := fuel_le; omega) ⟨l, h, hl.lk, fun w hw => by rw [hz] at hw; cases hw; exact q, hl.hd, List.mem_of_getElem? hl.hd, hlt, rfl, rfl⟩ ?_
      rintro m _ ⟨r, x, lk, el, hx, hm, hr, rfl, rfl⟩
      have hxn : x < n := hr x (List.mem_of_getElem? hx)
      simp only [idx_head hx, ct_ok, lright_n S hxn, fn_rt]
      cases q2 : rt on ms x with
      | none =>
        left
        exact ⟨by simp [oc], r, ⟨.inr ⟨x, chain_fw lk el hx, q2, hm, el⟩⟩, rfl⟩
      | some y =>
        right
        have hy : y < n := rt_ub S _ _ q2
        have lk2 := lk.cons hx (inv2 S _ _ q2)
        have el2 : ∀ z, (y :: r).getLast? = some z → lf on ms z = none := fun z hz => el z (by
          have hne : r ≠ [] := fun e => by rw [e] at hx; cases hx
          rw [List.getLast?_cons] at hz
          cases e : r.getLast? with
          | none => exact absurd (List.getLast?_eq_none_iff.1 e) hne
          | some w => rw [e] at hz; exact hz)
        have hr2 : ∀ a, a ∈ y :: r → a < n := fun a ha => by
          rcases List.mem_cons.1 ha with rfl | ha
          · exact hy
          · exact hr a ha
        have l2 := nodup_len n _ (chain_nodup lk2 el2) hr2
        simp only [List.length_cons] at l2
        refine ⟨by simp [oc], ?_⟩
        have ei : insN (nI r) 0 (y : Int) = .ok (nI (y :: r)) := by
          unfold insN
          rw [if_pos ⟨by rw [nI_len]; omega, by omega, i63_of (by omega) (by omega)⟩]
          simp
        simp only [oc, Option.map_some, unw, ofO_some, ct_ok, ei, W_nx]
        exact ⟨n - (y :: r).length, by simp only [List.length_cons]; omega, y :: r, y, lk2, el2, rfl, List.mem_cons_of_mem _ hm, hr2, rfl, rfl⟩
    · rw [q]
      simp only [oc, Option.map_some, Option.isNone_some, Bool.false_eq_true, if_false, sq_nx, W_rt]
      exact ⟨l, ⟨.inl ⟨hl, fun w hw => by rw [hz] at hw; cases hw; exact q⟩⟩, rfl⟩
  obtain ⟨r, e, l, a, rfl⟩ := H
  exact ⟨l, a, e⟩
end
end NP
/- part NB -/
set_option Elab.async false
set_option linter.all false
set_option maxRecDepth 100000
set_option maxHeartbeats 4000000
/-! NB: broken, typed. -/
namespace NP
open PySem L2 DL LW NT NW
def badM (ms : List (Option Int)) (n i : Nat) (m : Option Int) : Bool := optC m false fun m => decide (m < 0) || (decide ((n : Int) ≤ m) || (decide (m = (i : Int)) || !decide (ms[m.toNat]? = some (some (i : Int)))))
def bad (os : List Int) (ms : List (Option Int)) (i : Nat) : Bool := optC os[i]? false fun b => optC ms[i]? false fun m => (decide (b < 0) || (decide ((os.length : Int) ≤ b) || decide (b ∈ os.take i))) || badM ms os.length i m
def brkO (os : List Int) (ms : List (Option Int)) : Option Int := ((List.range os.length).find? (bad os ms)).map fun (k : Nat) => (k : Int)
/-- a search -/
theorem search {σ l : Type} {body : Int → σ → Ct σ σ (Option Int)} (I : Nat → σ → Prop) (p : Nat → Bool) (n : Nat) (s : σ) (h0 : I 0 s) (h : ∀ i s, i < n → I i s → (p i = true ∧ body (i : Int) s = .rt (some (i : Int))) ∨ (p i = false ∧ ∃ s', body (i : Int) s = .nx s' ∧ I (i + 1) s')) : (((forC body (nI (List.range n)) s).sq fun _ => .rt none) : Ct Unit l (Option Int)).fn = .ok (((List.range n).find? p).map fun (k : Nat) => (k : Int)) := by
  rcases for_ret (l := l) (body := body) (fun i s => I i s ∧ ∀ j, j < i → p j = false) (fun r => ∃ i, i < n ∧ p i = true ∧ (∀ j, j < i → p j = false) ∧ r = some (i : Int)) (nI (List.range n)) s ⟨h0, fun _ z => absurd z (Nat.not_lt_zero _)⟩ (by
    rintro i a s hi ⟨hI, hb⟩
    obtain ⟨hi1, rfl⟩ := range_at hi
    rcases h i s hi1 hI with ⟨h1, h2⟩ | ⟨h1, s', h2, h3⟩
    · exact .inr ⟨_, h2, i, hi1, h1, hb, rfl⟩
    · refine .inl ⟨s', .inl h2, h3, fun j hj => ?_⟩
      by_cases c : j = i
      · rw [c]; exact h1
      · exact hb j (by omega)) with ⟨s', e, hI, hb⟩ | ⟨r, e, i, hi, h1, h2, rfl⟩
  · rw [e]
    have : (List.range n).find? p = none := by
      rw [List.find?_eq_none]
      intro x hx
      simp [hb x (by simpa using hx)]
    rw [this]
    rfl
  · rw [e]
    have : (List.range n).find? p = some i := by
      rw [List.find?_eq_some_iff_getElem]
      exact ⟨h1, i, by simpa using hi, by simp, fun j hj => by simp [h2 j hj]⟩
    rw [this]
    rfl
theorem dhas_put {κ β : Type} [DecidableEq κ] (kvs : List (κ × β)) (k : κ) (v : β) (c : κ) : dhas (dput kvs k v) c = (decide (k = c) || dhas kvs c) := by
  unfold dput
  by_cases h : dhas kvs k = true
  · rw [if_pos h]
    have e : dhas (kvs.map fun p => if p.1 = k then (p.1, v) else p) c = dhas kvs c := by
      unfold dhas
      rw [List.any_map]
      congr 1
      funext p
      simp only [Function.comp]
      split <;> rfl
    rw [e]
    by_cases q : k = c
    · rw [← q, h]; simp
    · simp [q]
  · rw [if_neg h]
    unfold dhas
    rw [List.any_append]
    simp [Bool.or_comm]
theorem len_put {κ β : Type} [DecidableEq κ] (kvs : List (κ × β)) (k : κ) (v : β) : (dput kvs k v).length ≤ kvs.length + 1 := by
  unfold dput
  split <;> simp
theorem putN_ok {κ β : Type} [DecidableEq κ] {kvs : List (κ × β)} (h : kvs.length < 100000) (k : κ) (v : β) : putN kvs k v = .ok (dput kvs k v) := by
  unfold putN
  rw [if_pos h]
theorem mate_test {ms : List (Option Int)} {i : Nat} {n : Nat} (hl : ms.length = n) (m : Int) : (if decide (m < 0) = true then .rt true else if decide ((n : Int) ≤ m) = true then .rt true else if decide (m = (i : Int)) = true then .rt true else (idx ms m).ct fun a => .rt (!decide (a = some (i : Int))) : Ct Unit Unit Bool) = .rt (badM ms n i (some m)) := by
  simp only [badM, optC_some]
  by_cases c1 : m < 0
  · simp [c1]
  by_cases c2 : (n : Int) ≤ m
  · simp [c2]
  by_cases c3 : m = (i : Int)
  · simp [c3]
  obtain ⟨k, rfl⟩ := Int.eq_ofNat_of_zero_le (show 0 ≤ m by omega)
  have hk : k < ms.length := by omega
  have e : ms[k]? = some ms[k] := List.getElem?_eq_getElem hk
  simp [c1, c2, c3, idx_at hk, e]
theorem mate_test2 {ms : List (Option Int)} {i : Nat} {n : Nat} (hl : ms.length = n) (m : Int) : (if (!(decide (0 ≤ m) && decide (m < (n : Int)))) = true then .rt true else if decide (m = (i : Int)) = true then .rt true else (idx ms m).ct fun a => .rt (!decide (a = some (i : Int))) : Ct Unit Unit Bool) = .rt (badM ms n i (some m)) := by
  rw [← mate_test hl]
  by_cases c1 : m < 0
  · simp [c1]
  by_cases c2 : (n : Int) ≤ m
  · simp [c2]
  have a : 0 ≤ m := by omega
  have b : m < (n : Int) := by omega
  simp [c1, c2, a, b]
theorem bad_at {os : List Int} {ms : List (Option Int)} {i : Nat} (h1 : i < os.length) (h2 : i < ms.length) : bad os ms i = ((decide (os[i] < 0) || (decide ((os.length : Int) ≤ os[i]) || decide (os[i] ∈ os.take i))) || badM ms os.length i ms[i]) := by
  simp [bad, h1, h2]
theorem broken_n (os : List Int) (ms : List (Option Int)) (hl : ms.length = os.length) (hn : os.length ≤ 1000) : n_broken os ms = .ok (brkO os ms) := by
  unfold n_broken brkO
  rw [rngN_k (by omega), ct_ok]
  refine search (fun i (met : List (Int × Bool)) => (∀ b, dhas met b = decide (b ∈ os.take i)) ∧ met.length ≤ i) (bad os ms) os.length _ ⟨fun b => by simp [dhas], Nat.le_refl _⟩ ?_
  rintro i met hi ⟨hm, hlen⟩
  have hi2 : i < ms.length := by omega
  rw [bad_at hi hi2, idx_at hi, ct_ok, hm]
  generalize hb : (decide (os[i] < 0) || (decide ((os.length : Int) ≤ os[i]) || decide (os[i] ∈ os.take i))) = x
  cases x with
  | true => exact .inl ⟨by simp, by simp⟩
  | false =>
    have e1 := putN_ok (show met.length < 100000 by omega) os[i] true
    have hm2 : (∀ b, dhas (dput met os[i] true) b = decide (b ∈ os.take (i + 1))) ∧ (dput met os[i] true).length ≤ i + 1 := by
      refine ⟨fun b => ?_, Nat.le_trans (len_put _ _ _) (by omega)⟩
      rw [dhas_put, hm, List.take_succ, List.getElem?_eq_getElem hi]
      by_cases q : os[i] = b
      · simp [q]
      · have : ¬ b = os[i] := fun z => q z.symm
        have h2 : (b ∈ os.take i ++ (some os[i]).toList) ↔ b ∈ os.take i := by simp only [Option.toList, List.mem_append, List.mem_singleton, this, or_false]
        simp only [h2, q, decide_false, Bool.false_or]
    simp only [if_false, Bool.false_or, e1, ct_ok, idx_at hi2, Bool.false_eq_true]
    cases hmi : ms[i] with
    | none => exact .inr ⟨rfl, _, by simp, hm2⟩
    | some m =>
      simp only [optC_some, mate_test hl, fn_rt, ct_ok]
      cases badM ms os.length i (some m) with
      | true => exact .inl ⟨rfl, by simp⟩
      | false => exact .inr ⟨rfl, _, by simp, hm2⟩
theorem lawbroken_n (os : List Int) (ms : List (Option Int)) (hl : ms.length = os.length) (hn : os.length ≤ 1000) : n__law_broken_L os ms = .ok (brkO os ms) := by
  unfold n__law_broken_L brkO
  rw [rngN_k (by omega), ct_ok]
  refine search (fun i _ => True) (bad os ms) os.length _ trivial ?_
  rintro i _ hi _
  have hi2 : i < ms.length := by omega
  have hc : cutL os none (some (i : Int)) = os.take i := cutL_take _ _
  have e0 : ((if (!(decide (0 ≤ os[i]) && decide (os[i] < (os.length : Int)))) = true then .rt true else .rt (decide (os[i] ∈ os.take i)) : Ct Unit Unit Bool)) = .rt (decide (os[i] < 0) || (decide ((os.length : Int) ≤ os[i]) || decide (os[i] ∈ os.take i))) := by
    by_cases c1 : os[i] < 0
    · have : ¬ 0 ≤ os[i] := by omega
      simp [c1, this]
    by_cases c2 : (os.length : Int) ≤ os[i]
    · have : ¬ os[i] < (os.length : Int) := by omega
      simp [c2, this]
    have a : 0 ≤ os[i] := by omega
    have b : os[i] < (os.length : Int) := by omega
    simp [c1, c2, a, b]
  rw [bad_at hi hi2]
  simp only [idx_at hi, ct_ok, hc, memB_eq, e0, fn_rt]
  generalize (decide (os[i] < 0) || (decide ((os.length : Int) ≤ os[i]) || decide (os[i] ∈ os.take i))) = x
  cases x with
  | true => exact .inl ⟨by simp, by simp⟩
  | false =>
    simp only [if_false, Bool.false_or, idx_at hi2, ct_ok, Bool.false_eq_true]
    cases hmi : ms[i] with
    | none => exact .inr ⟨rfl, (), by simp, trivial⟩
    | some m =>
      simp only [optC_some, mate_test2 hl, fn_rt, ct_ok]
      cases badM ms os.length i (some m) with
      | true => exact .inl ⟨rfl, by simp⟩
      | false => exact .inr ⟨rfl, (), by simp, trivial⟩
theorem lawbroken_t (os : List Int) (ms : List (Option Int)) (hl : ms.length = os.length) (hn : os.length ≤ 1000) : n__law_broken_T os ms = .ok (brkO os ms) := lawbroken_n os ms hl hn
theorem whole_I (i : Int) : n_is_whole (eI i) = .ok true := rfl
theorem is_skin_n (os : List Int) (ms : List (Option Int)) (hl : ms.length = os.length) (h0 : 1 ≤ os.length) (hn : os.length ≤ 400) : n_is_skin_S (os, ms) = .ok (brkO os ms).isNone := by
  unfold n_is_skin_S
  have c1 : lcP (fun behind0 => ((n_is_whole (eI behind0)).ct fun r0 => .rt r0 : Ct Unit Unit Bool)) os = .ok (os.map fun _ => true) := lcP_map os (by omega) (fun a _ => rfl)
  have c2 : lcP (fun mate0 => ((Ct.fn ((if (mate0.isNone) = true then .rt true else (n_is_whole ((eO eI) mate0)).ct fun r1 => .rt r1) : Ct Unit Unit Bool)).ct fun b0 => .rt b0 : Ct Unit Unit Bool)) ms = .ok (ms.map fun _ => true) := lcP_map ms (by omega) (fun a _ => by cases a <;> rfl)
  have a1 : ¬ ((os.length : Int) < 1) := by omega
  have a2 : ¬ ((400 : Int) < (os.length : Int)) := by omega
  simp only [c1, c2, ct_ok, broken_n os ms hl (by omega)]
  simp [isTupD, hl, a1, a2]
end NP
/- part NK3 -/
set_option Elab.async false
set_option linter.all false
set_option maxRecDepth 100000
set_option maxHeartbeats 4000000
/-! NK3: along a rim; what lies at a seam; walks gathered. -/
namespace NP
open PySem L2 DL LW NT NW
/-- the end of the way to the right -/
def Rch (on : List Nat) (ms : List (Option Nat)) (h e : Nat) : Prop := ∃ r, FwC (rt on ms) h r ∧ r.getLast? = some e ∧ rt on ms e = none
open Classical in
noncomputable def nr (on : List Nat) (ms : List (Option Nat)) (x : Nat) : Nat := if h : ∃ e, Rch on ms (nx on x) e then Classical.choose h else 0
theorem rch_uniq {on : List Nat} {ms : List (Option Nat)} {h e e' : Nat} (a : Rch on ms h e) (b : Rch on ms h e') : e = e' := by
  obtain ⟨r, f, hl, _⟩ := a
  obtain ⟨r', f', hl', _⟩ := b
  have := f.uniq f'
  subst this
  rw [hl] at hl'
  cases hl'
  rfl
theorem nr_of {on : List Nat} {ms : List (Option Nat)} {x e : Nat} (a : Rch on ms (nx on x) e) : nr on ms x = e := by
  unfold nr
  rw [dif_pos ⟨e, a⟩]
  exact rch_uniq (Classical.choose_spec (⟨e, a⟩ : ∃ e, Rch on ms (nx on x) e)) a
section
variable {n : Nat} {on : List Nat} {ms : List (Option Nat)} (S : SkinP n on ms)
include S
def rimB (n : Nat) (ms : List (Option Nat)) (a : Nat) : Bool := decide (a < n) && (mt ms a).isNone
theorem rimB_iff {a : Nat} : rimB n ms a = true ↔ a < n ∧ mt ms a = none := by
  simp [rimB]
theorem lf_nx {x : Nat} (hx : x < n) (hm : mt ms x = none) : lf on ms (nx on x) = none := by
  unfold lf
  rw [ah_nx S hx]
  exact hm
theorem next_n (hn : n ≤ 1000) {x : Nat} (hx : x < n) (hm : mt ms x = none) : ∃ e, Rch on ms (nx on x) e ∧ e < n ∧ n_next_at_rim (sk on ms) (x : Int) = .ok (e : Int) := by
  have H : ∃ r, n_next_at_rim (sk on ms) (x : Int) = .ok r ∧ ∃ e : Nat, Rch on ms (nx on x) e ∧ e < n ∧ r = (e : Int) := by
    unfold n_next_at_rim
    refine W_fn ?_
    simp only [at_on S hx, ct_ok]
    refine W_cut (fun st => ∃ e : Nat, Rch on ms (nx on x) e ∧ e < n ∧ st = (e : Int)) ?_ (fun s a => a)
    have hh := nx_lt S hx
    refine W_while (fun k st => ∃ r z, Fw (rt on ms) (nx on x) r ∧ r.getLast? = some z ∧ st = (z : Int) ∧ z < n ∧ k = n - r.length) FUEL (n - 1) _ (by have := fuel_le; omega) ⟨[nx on x], nx on x, Fw.one _ _, rfl, rfl, hh, by simp⟩ ?_
    rintro m _ ⟨r, z, f, hz, rfl, hzn, rfl⟩
    simp only [at_ms S hzn, ct_ok, fn_rt]
    cases q : mt ms z with
    | none =>
      left
      have q' := (rt_none S).2 q
      exact ⟨by simp [oc], z, ⟨r, ⟨f, fun w hw => by rw [hz] at hw; cases hw; exact .inl q'⟩, hz, q'⟩, hzn, rfl⟩
    | some y =>
      right
      have hy : y < n := (mt_some S q).2.1
      have q' : rt on ms z = some (nx on y) := by unfold rt; rw [q]; rfl
      have c : nx on y ≠ nx on x := fun c => by
        have := inv2 S _ _ q'
        rw [c, lf_nx S hx hm] at this
        cases this
      have f2 := f.snoc hz q' c
      have l2 := f2.len (rt_inj S) (rt_ub S) hh
      rw [List.length_append] at l2
      simp only [List.length_singleton] at l2
      refine ⟨by simp [oc], ?_⟩
      simp only [oc, Option.map_some, unw, ofO_some, ct_ok, at_on S hy, W_nx]
      exact ⟨n - (r ++ [nx on y]).length, by rw [List.length_append]; simp only [List.length_singleton]; omega, r ++ [nx on y], nx on y, f2, by simp, rfl, nx_lt S hy, rfl⟩
  obtain ⟨r, e, z, a, b, rfl⟩ := H
  exact ⟨z, a, b, e⟩
theorem next_nr (hn : n ≤ 1000) {x : Nat} (hx : rimB n ms x = true) : n_next_at_rim (sk on ms) (x : Int) = .ok (nr on ms x : Int) ∧ Rch on ms (nx on x) (nr on ms x) ∧ nr on ms x < n := by
  obtain ⟨h1, h2⟩ := (rimB_iff S).1 hx
  obtain ⟨e, a, b, c⟩ := next_n S hn h1 h2
  rw [nr_of a]
  exact ⟨c, a, b⟩
/-- the way to the right, read back, is the walk round the knot -/
theorem rch_kn {h e : Nat} (a : Rch on ms h e) (hl : lf on ms h = none) : ∃ l, KnW on ms h l ∧ l[0]? = some e ∧ FwC (lf on ms) e l ∧ l.getLast? = some h := by
  obtain ⟨r, f, hz, hn⟩ := a
  have lk := Lk.rev (inv2 S) f.lk
  have el : ∀ z, r.reverse.getLast? = some z → lf on ms z = none := fun z hz => by
    rw [rev_last f.hd] at hz
    cases hz
    exact hl
  have c := chain_fw lk el (rev_head hz)
  exact ⟨r.reverse, kn_of_chain (inv1 S) (inv2 S) f hz hn c, rev_head hz, c, rev_last f.hd⟩
theorem rim_tot (hn : n ≤ 1000) : TotOk n (rimB n ms) (nr on ms) where
  lt := fun a h => ((rimB_iff S).1 h).1
  st := fun a h => by
    obtain ⟨h1, h2, h3⟩ := next_nr S hn h
    obtain ⟨r, _, _, q⟩ := h2
    exact (rimB_iff S).2 ⟨h3, (rt_none S).1 q⟩
  inj := fun a b ha hb e => by
    obtain ⟨_, h2, _⟩ := next_nr S hn ha
    obtain ⟨_, k2, _⟩ := next_nr S hn hb
    obtain ⟨a1, a2⟩ := (rimB_iff S).1 ha
    obtain ⟨b1, b2⟩ := (rimB_iff S).1 hb
    obtain ⟨l, _, _, c, d⟩ := rch_kn S h2 (lf_nx S a1 a2)
    obtain ⟨l', _, _, c', d'⟩ := rch_kn S k2 (lf_nx S b1 b2)
    rw [e] at c
    have := c.uniq c'
    subst this
    rw [d] at d'
    injection d' with d'
    exact nx_inj S a1 b1 d'
def RimW (n : Nat) (on : List Nat) (ms : List (Option Nat)) (h : Nat) (l : List Nat) : Prop := FwC (tot (rimB n ms) (nr on ms)) h l
theorem rim_n (hn : n ≤ 1000) {h : Nat} (hh : rimB n ms h = true) : ∃ l, RimW n on ms h l ∧ (∀ a, a ∈ l → a < n) ∧ n_rim_of (sk on ms) (h : Int) = .ok (nI l) := by
  obtain ⟨lst, f, hD, e⟩ := loopA (l := Unit) (ρ := List Int) (rim_tot S hn) hn (x := h) hh (fun a => n_next_at_rim (sk on ms) a) (fun a ha => (next_nr S hn ha).1)
  obtain ⟨a1, a2⟩ := (rimB_iff S).1 hh
  refine ⟨lst, f, fun a ha => ((rimB_iff S).1 (hD a ha)).1, ?_⟩
  unfold n_rim_of
  simp only [look_n S a1, at_ms S a1, a2, ct_ok, oc, Option.map_none, Option.isNone_none, Bool.not_true, Bool.false_eq_true, if_false, (next_nr S hn hh).1]
  rw [e]
  rfl
theorem lrim_n (hn : n ≤ 1000) {h : Nat} (hh : rimB n ms h = true) : ∃ l, RimW n on ms h l ∧ n__law_rim (sk on ms) (h : Int) = .ok (nI l) := by
  have T := rim_tot S hn
  have H : ∃ r, n__law_rim (sk on ms) (h : Int) = .ok r ∧ ∃ l, RimW n on ms h l ∧ r = nI l := by
    unfold n__law_rim
    refine W_fn ?_
    refine W_cut (fun st => False) ?_ (fun s a => a.elim)
    refine W_while (fun k st => ∃ r z, Fw (tot (rimB n ms) (nr on ms)) h r ∧ r.getLast? = some z ∧ st = nI r ∧ rimB n ms z = true ∧ k = n - r.length) FUEL (n - 1) _ (by have := fuel_le; omega) ⟨[h], h, Fw.one _ _, rfl, rfl, hh, by simp⟩ ?_
    rintro m _ ⟨r, z, f, hz, rfl, hzn, rfl⟩
    right
    refine ⟨rfl, ?_⟩
    obtain ⟨z1, z2⟩ := (rimB_iff S).1 hzn
    obtain ⟨_, k2, k3⟩ := next_nr S hn hzn
    obtain ⟨l, c1, c2, _, _⟩ := rch_kn S k2 (lf_nx S z1 z2)
    obtain ⟨l', d1, d2⟩ := lknot_n S hn (nx_lt S z1)
    have := knw_uniq S c1 d1
    subst this
    simp only [idx_last hz, ct_ok, at_on S z1, d2, idx_head c2]
    by_cases c : nr on ms z = h
    · simp only [c, decide_true, if_true, W_rt]
      exact ⟨r, ⟨f, fun w hw => by rw [hz] at hw; cases hw; exact .inr (by rw [tot_on hzn, c])⟩, rfl⟩
    · have c' : ¬ ((nr on ms z : Int) = (h : Int)) := by omega
      have f2 := f.snoc hz (tot_on hzn) c
      have l2 := f2.len T.inj' T.ub (T.lt h hh)
      rw [List.length_append] at l2
      simp only [List.length_singleton] at l2
      simp only [c', decide_false, Bool.false_eq_true, if_false, appN_n (show r.length < 100000 by omega), ct_ok, W_nx]
      exact ⟨n - (r ++ [nr on ms z]).length, by rw [List.length_append]; simp only [List.length_singleton]; omega, r ++ [nr on ms z], nr on ms z, f2, by simp, rfl, T.st _ hzn, rfl⟩
  obtain ⟨r, e, l, a, rfl⟩ := H
  exact ⟨l, a, e⟩
/-! ### seams -/
def sm (ms : List (Option Nat)) (h : Nat) : List Nat := match mt ms h with
  | none => [h]
  | some m => [min h m, max h m]
theorem sm_lt {h : Nat} (hh : h < n) : ∀ a, a ∈ sm ms h → a < n := fun a ha => by
  unfold sm at ha
  cases q : mt ms h with
  | none => rw [q] at ha; simp at ha; omega
  | some m =>
    rw [q] at ha
    have := (mt_some S q).2.1
    simp at ha
    omega
theorem seam_n {h : Nat} (hh : h < n) : n_seam_of (sk on ms) (h : Int) = .ok (nI (sm ms h)) := by
  unfold n_seam_of sm
  simp only [at_ms S hh, ct_ok]
  cases q : mt ms h with
  | none => simp [oc]
  | some m =>
    simp only [oc, Option.map_some, optC_some, fn_rt, imin, imax, List.map_cons, List.map_nil]
    congr 2
    · split <;> omega
    · congr 1; split <;> omega
end
/-! ### walks gathered -/
def kv (ks : List Nat) : List (Int × Bool) := ks.map fun (k : Nat) => ((k : Int), true)
def adk (ks : List Nat) (k : Nat) : List Nat := if k ∈ ks then ks else ks ++ [k]
theorem has_kv (ks : List Nat) (k : Nat) : dhas (kv ks) (k : Int) = decide (k ∈ ks) := by
  unfold dhas kv
  rw [List.any_map]
  induction ks with
  | nil => simp
  | cons a ks ih =>
    rw [List.any_cons, ih]
    simp only [Function.comp, List.mem_cons]
    by_cases c : a = k
    · simp [c]
    · have c1 : ¬ ((a : Int) = (k : Int)) := by omega
      have c2 : ¬ (k = a) := fun e => c e.symm
      simp [c1, c2]
theorem put_kv {ks : List Nat} (h : ks.length < 100000) (k : Nat) : putN (kv ks) (k : Int) true = .ok (kv (adk ks k)) := by
  rw [putN_ok (by simpa [kv] using h)]
  unfold dput adk
  rw [has_kv]
  by_cases c : k ∈ ks
  · rw [if_pos (by simpa using c), if_pos c]
    congr 1
    unfold kv
    rw [List.map_map]
    apply List.map_congr_left
    intro a _
    simp only [Function.comp]
    split <;> rfl
  · rw [if_neg (by simpa using c), if_neg c]
    simp [kv]
structure Kb (n : Nat) (ks : List Nat) : Prop where
  nd : ks.Nodup
  lt : ∀ k, k ∈ ks → k < n
theorem Kb.len {n : Nat} {ks : List Nat} (h : Kb n ks) : ks.length ≤ n := nodup_len n ks h.nd h.lt
theorem Kb.adk {n : Nat} {ks : List Nat} (h : Kb n ks) {k : Nat} (hk : k < n) : Kb n (NP.adk ks k) := by
  unfold NP.adk
  by_cases c : k ∈ ks
  · rw [if_pos c]; exact h
  · rw [if_neg c]
    refine ⟨?_, fun a ha => ?_⟩
    · rw [List.nodup_append]
      refine ⟨h.nd, by simp, fun a ha b hb => ?_⟩
      simp at hb
      subst hb
      exact fun e => c (e ▸ ha)
    · rcases List.mem_append.1 ha with ha | ha
      · exact h.lt a ha
      · rw [List.mem_singleton.1 ha]; exact hk
theorem Kb.all {n : Nat} : ∀ (row : List Nat) {ks : List Nat}, Kb n ks → (∀ a, a ∈ row → a < n) → Kb n (row.foldl NP.adk ks)
  | [], _, h, _ => h
  | a :: row, _, h, hr => Kb.all row (h.adk (hr a (List.mem_cons_self ..))) fun b hb => hr b (List.mem_cons_of_mem _ hb)
theorem marks_n {l ρ : Type} {n : Nat} (hn : n ≤ 1000) : ∀ (row : List Nat) {ks : List Nat}, Kb n ks → (∀ a, a ∈ row → a < n) → (forC (fun one0 => fun met1 => ((putN met1 one0 true).ct fun met2 => .nx met2 : Ct (List (Int × Bool)) (List (Int × Bool)) ρ)) (nI row) (kv ks) : Ct (List (Int × Bool)) l ρ) = .nx (kv (row.foldl adk ks))
  | [], _, _, _ => rfl
  | a :: row, ks, h, hr => by
    rw [show nI (a :: row) = (a : Int) :: nI row from rfl, forC_cons, put_kv (by have := h.len; omega)]
    exact marks_n hn row (h.adk (hr a (List.mem_cons_self ..))) fun b hb => hr b (List.mem_cons_of_mem _ hb)
abbrev lI (F : List (List Nat)) : List (List Int) := F.map fun r => nI r
def gst (w : Nat → List Nat) (s : List Nat × List (List Nat)) (h : Nat) : List Nat × List (List Nat) := if h ∈ s.1 then s else ((w h).foldl adk s.1, s.2 ++ [w h])
structure GI (n : Nat) (i : Nat) (s : List Nat × List (List Nat)) : Prop where
  kb : Kb n s.1
  le : s.2.length ≤ i
theorem GI.step {n i : Nat} {w : Nat → List Nat} {s : List Nat × List (List Nat)} (g : GI n i s) {h : Nat} (hw : ∀ a, a ∈ w h → a < n) : GI n (i + 1) (gst w s h) := by
  unfold gst
  split
  · exact ⟨g.kb, by have := g.le; omega⟩
  · exact ⟨Kb.all _ g.kb hw, by have := g.le; simp; omega⟩
theorem appL_n {F : List (List Nat)} {y : List Nat} (h : F.length < 100000) : appN (lI F) (nI y) = .ok (lI (F ++ [y])) := by
  unfold appN
  rw [if_pos (by simpa using h)]
  simp
/-- the program's gathering -/
noncomputable def awk (walk : Int → N (List Int)) (halves0 : List Int) : N (List (List Int)) := Ct.fn (
 (forC (fun half0 => (P2 fun met0 found0 =>
 ((if (!(dhas met0 half0)) = true then
 (walk half0).ct fun r0 =>
 (forC (fun one0 => fun met1 =>
 ((putN met1 one0 true).ct fun met2 =>
 .nx met2 : Ct (List (Int × Bool)) (List (Int × Bool)) _)) r0 met0).sq fun met3 =>
 (appN found0 r0).ct fun found1 =>
 .nx (met3, found1) else
 .nx (met0, found0)) : Ct ((List (Int × Bool)) × (List (List Int))) ((List (Int × Bool)) × (List (List Int))) _))) halves0 (([] : (List (Int × Bool))), ([] : (List (List Int))))).sq (P2 fun met4 found2 =>
 .rt found2) : Ct Unit Unit (List (List Int)))
theorem awk_n {n : Nat} (hn : n ≤ 1000) {walk : Int → N (List Int)} {w : Nat → List Nat} {hs : List Nat} (hl : hs.length ≤ 1000) (hw : ∀ h, h ∈ hs → walk (h : Int) = .ok (nI (w h)) ∧ ∀ a, a ∈ w h → a < n) : awk walk (nI hs) = .ok (lI (hs.foldl (gst w) ([], [])).2) := by
  unfold awk
  obtain ⟨st, e, g, rfl⟩ := for_ok (l := Unit) (ρ := List (List Int)) (body := fun half0 => (P2 fun met0 found0 =>
 ((if (!(dhas met0 half0)) = true then
 (walk half0).ct fun r0 =>
 (forC (fun one0 => fun met1 =>
 ((putN met1 one0 true).ct fun met2 =>
 .nx met2 : Ct (List (Int × Bool)) (List (Int × Bool)) _)) r0 met0).sq fun met3 =>
 (appN found0 r0).ct fun found1 =>
 .nx (met3, found1) else
 .nx (met0, found0)) : Ct ((List (Int × Bool)) × (List (List Int))) ((List (Int × Bool)) × (List (List Int))) _)))
    (fun i st => GI n i ((hs.take i).foldl (gst w) ([], [])) ∧ st = (kv ((hs.take i).foldl (gst w) ([], [])).1, lI ((hs.take i).foldl (gst w) ([], [])).2)) (nI hs) ([], []) ⟨⟨⟨List.nodup_nil, fun _ h => absurd h List.not_mem_nil⟩, Nat.le_refl _⟩, rfl⟩ (by
      rintro i a _ hi ⟨g, rfl⟩
      rw [List.getElem?_map] at hi
      cases q : hs[i]? with
      | none => rw [q] at hi; cases hi
      | some h =>
        rw [q] at hi
        have hi' : ((h : Nat) : Int) = a := by simpa using hi
        subst hi'
        have li := (List.getElem?_eq_some_iff.mp q).1
        obtain ⟨e1, e2⟩ := hw h (List.mem_of_getElem? q)
        rw [List.take_succ, q]
        simp only [Option.toList_some, List.foldl_append, List.foldl_cons, List.foldl_nil]
        have g2 := g.step (w := w) e2
        generalize (hs.take i).foldl (gst w) ([], []) = s at g g2 ⊢
        refine ⟨_, .inl ?_, g2, rfl⟩
        simp only [P2, has_kv, gst]
        by_cases c : h ∈ s.1
        · simp [c]
        · simp only [c, decide_false, Bool.not_false, if_true, e1, ct_ok, marks_n hn _ g.kb e2, sq_nx, appL_n (show s.2.length < 100000 by have := g.le; omega), if_false])
  rw [nI_len, List.take_length] at e
  rw [e]
  simp only [sq_nx, P2, fn_rt]
end NP
/- part NK4 -/
set_option Elab.async false
set_option linter.all false
set_option maxRecDepth 100000
set_option maxHeartbeats 4000000
/-! NK4: all walks of a skin: program and law alike. -/
namespace NP
open PySem L2 DL LW NT NW
theorem fold_filter (w : Nat → List Nat) (P : Nat → Bool) (hs : List Nat) (s : List Nat × List (List Nat)) : (hs.filter P).foldl (gst w) s = hs.foldl (fun s h => if P h = true then gst w s h else s) s := by
  induction hs generalizing s with
  | nil => rfl
  | cons a hs ih =>
    by_cases c : P a = true
    · simp [c, ih]
    · simp [c, ih]
theorem lwk_n {n : Nat} (hn : n ≤ 1000) {w : Nat → List Nat} {P : Nat → Bool} (B : Int → List (List Int) × List (Int × Bool) → Ct (List (List Int) × List (Int × Bool)) (List (List Int) × List (Int × Bool)) (List (List Int)))
    (hB : ∀ (h : Nat) s, h < n → Kb n s.1 → s.2.length ≤ 1000 → B (h : Int) (lI s.2, kv s.1) = .nx (lI (if P h = true then gst w s h else s).2, kv (if P h = true then gst w s h else s).1))
    (hw : ∀ h, h < n → P h = true → ∀ a, a ∈ w h → a < n) :
    (Ct.fn ((forC B (nI (List.range n)) ([], [])).sq (P2 fun found2 met4 => .rt found2) : Ct Unit Unit (List (List Int)))) = .ok (lI (((List.range n).filter P).foldl (gst w) ([], [])).2) := by
  rw [fold_filter]
  obtain ⟨st, e, g, rfl⟩ := for_ok (l := Unit) (ρ := List (List Int)) (body := B)
    (fun i st => GI n i (((List.range n).take i).foldl (fun s h => if P h = true then gst w s h else s) ([], [])) ∧ st = (lI (((List.range n).take i).foldl (fun s h => if P h = true then gst w s h else s) ([], [])).2, kv (((List.range n).take i).foldl (fun s h => if P h = true then gst w s h else s) ([], [])).1)) (nI (List.range n)) ([], []) ⟨⟨⟨List.nodup_nil, fun _ h => absurd h List.not_mem_nil⟩, Nat.le_refl _⟩, rfl⟩ (by
      rintro i a _ hi ⟨g, rfl⟩
      obtain ⟨hi1, rfl⟩ := range_at hi
      rw [List.take_succ, List.getElem?_range hi1]
      simp only [Option.toList_some, List.foldl_append, List.foldl_cons, List.foldl_nil]
      generalize ((List.range n).take i).foldl (fun s h => if P h = true then gst w s h else s) ([], []) = s at g ⊢
      refine ⟨_, .inl (hB i s hi1 g.kb (by have := g.le; omega)), ?_, rfl⟩
      by_cases c : P i = true
      · rw [if_pos c]; exact g.step (hw i hi1 c)
      · rw [if_neg c]; exact ⟨g.kb, by have := g.le; omega⟩)
  rw [nI_len, show (List.range n).length = n by simp] at e
  rw [show (List.range n).take n = List.range n from by rw [List.take_of_length_le]; simp] at e
  rw [e]
  simp only [sq_nx, P2, fn_rt]
theorem lwk_all {n : Nat} (hn : n ≤ 1000) {w : Nat → List Nat} (B : Int → List (List Int) × List (Int × Bool) → Ct (List (List Int) × List (Int × Bool)) (List (List Int) × List (Int × Bool)) (List (List Int)))
    (hB : ∀ (h : Nat) s, h < n → Kb n s.1 → s.2.length ≤ 1000 → B (h : Int) (lI s.2, kv s.1) = .nx (lI (gst w s h).2, kv (gst w s h).1))
    (hw : ∀ h, h < n → ∀ a, a ∈ w h → a < n) :
    (Ct.fn ((forC B (nI (List.range n)) ([], [])).sq (P2 fun found2 met4 => .rt found2) : Ct Unit Unit (List (List Int)))) = .ok (lI ((List.range n).foldl (gst w) ([], [])).2) := by
  have := lwk_n hn (w := w) (P := fun _ => true) B (fun h s a b c => by simpa using hB h s a b c) (fun h a _ => hw h a)
  rw [List.filter_eq_self.2 (fun _ _ => rfl)] at this
  exact this
theorem eqS (a b : Str) (h : SeqAt.shaped (eS a) = true ∧ SeqAt.shaped (eS b) = true) (c : Bool) (e : PyData.eqv (eS a) (eS b) = c) : eqN (eS a) (eS b) = .ok c := by
  unfold eqN
  rw [if_pos h, e]
theorem w_kr : eqN (eS ("knot" : Str)) (eS ("rim" : Str)) = .ok false := eqS _ _ ⟨by decide +kernel, by decide +kernel⟩ _ (by decide +kernel)
theorem w_kk : eqN (eS ("knot" : Str)) (eS ("knot" : Str)) = .ok true := eqS _ _ ⟨by decide +kernel, by decide +kernel⟩ _ (by decide +kernel)
theorem w_pr : eqN (eS ("patch" : Str)) (eS ("rim" : Str)) = .ok false := eqS _ _ ⟨by decide +kernel, by decide +kernel⟩ _ (by decide +kernel)
theorem w_pk : eqN (eS ("patch" : Str)) (eS ("knot" : Str)) = .ok false := eqS _ _ ⟨by decide +kernel, by decide +kernel⟩ _ (by decide +kernel)
theorem w_pp : eqN (eS ("patch" : Str)) (eS ("patch" : Str)) = .ok true := eqS _ _ ⟨by decide +kernel, by decide +kernel⟩ _ (by decide +kernel)
theorem w_rr : eqN (eS ("rim" : Str)) (eS ("rim" : Str)) = .ok true := eqS _ _ ⟨by decide +kernel, by decide +kernel⟩ _ (by decide +kernel)
theorem w_rk : eqN (eS ("rim" : Str)) (eS ("knot" : Str)) = .ok false := eqS _ _ ⟨by decide +kernel, by decide +kernel⟩ _ (by decide +kernel)
theorem w_rp : eqN (eS ("rim" : Str)) (eS ("patch" : Str)) = .ok false := eqS _ _ ⟨by decide +kernel, by decide +kernel⟩ _ (by decide +kernel)
theorem w_sr : eqN (eS ("seam" : Str)) (eS ("rim" : Str)) = .ok false := eqS _ _ ⟨by decide +kernel, by decide +kernel⟩ _ (by decide +kernel)
theorem w_sk : eqN (eS ("seam" : Str)) (eS ("knot" : Str)) = .ok false := eqS _ _ ⟨by decide +kernel, by decide +kernel⟩ _ (by decide +kernel)
theorem w_sp : eqN (eS ("seam" : Str)) (eS ("patch" : Str)) = .ok false := eqS _ _ ⟨by decide +kernel, by decide +kernel⟩ _ (by decide +kernel)
theorem skolem {n : Nat} {D : Nat → Prop} {Q : Nat → List Nat → Prop} (h : ∀ x, D x → ∃ l, Q x l) : ∃ w : Nat → List Nat, ∀ x, D x → Q x (w x) := by
  have : ∀ x, ∃ l, D x → Q x l := fun x => by
    by_cases c : D x
    · obtain ⟨l, hl⟩ := h x c
      exact ⟨l, fun _ => hl⟩
    · exact ⟨[], fun d => absurd d c⟩
  exact ⟨fun x => Classical.choose (this x), fun x => Classical.choose_spec (this x)⟩
section
variable {n : Nat} {on : List Nat} {ms : List (Option Nat)} (S : SkinP n on ms)
include S
theorem knots_n (hn : n ≤ 1000) : ∃ R, n_knots (sk on ms) = .ok R ∧ n__law_walks (sk on ms) "knot" = .ok R := by
  obtain ⟨w, hw⟩ := skolem (n := n) (D := fun h => h < n) fun x hx => knot_n S hn hx
  refine ⟨lI ((List.range n).foldl (gst w) ([], [])).2, ?_, ?_⟩
  · unfold n_knots
    have e : ((nI on).length : Int) = (n : Int) := by rw [nI_len, SkinP.lenO S]
    have := awk_n hn (walk := n_round_knot (sk on ms)) (w := w) (hs := List.range n) (by simpa using hn) fun h hh => ⟨(hw h (List.mem_range.1 hh)).2.2, (hw h (List.mem_range.1 hh)).2.1⟩
    have e2 : n_all_walks_round_knot (nI (List.range n)) (sk on ms) = awk (n_round_knot (sk on ms)) (nI (List.range n)) := rfl
    simp only [e, rngL_k (show n ≤ 10000 by omega), ct_ok, e2, this, fn_rt]
  · unfold n__law_walks
    have e : ((nI on).length : Int) = (n : Int) := by rw [nI_len, SkinP.lenO S]
    simp only [e, rngN_k (show n ≤ 1000000 by omega), ct_ok]
    refine lwk_all hn (w := w) _ ?_ (fun h hh => (hw h hh).2.1)
    · intro h s hh kb hl
      obtain ⟨l', d1, d2⟩ := lknot_n S hn hh
      have := knw_uniq S d1 (hw h hh).1
      subst this
      simp only [P2, has_kv, gst, w_kr, w_kk, ct_ok, Bool.not_false, if_true, fn_rt, d2]
      by_cases c : h ∈ s.1
      · simp [c]
      · simp only [c, decide_false, Bool.not_false, if_true, ct_ok, fn_rt, sq_nx, appL_n (show s.2.length < 100000 by omega), marks_n hn _ kb (hw h hh).2.1, if_false]
theorem patches_n (hn : n ≤ 1000) : ∃ R, n_patches (sk on ms) = .ok R ∧ n__law_walks (sk on ms) "patch" = .ok R := by
  obtain ⟨w, hw⟩ := skolem (n := n) (D := fun h => h < n) fun x hx => patch_n S hn hx
  refine ⟨lI ((List.range n).foldl (gst w) ([], [])).2, ?_, ?_⟩
  · unfold n_patches
    have e : ((nI on).length : Int) = (n : Int) := by rw [nI_len, SkinP.lenO S]
    have := awk_n hn (walk := n_patch_of (sk on ms)) (w := w) (hs := List.range n) (by simpa using hn) fun h hh => ⟨(hw h (List.mem_range.1 hh)).2.2, (hw h (List.mem_range.1 hh)).2.1⟩
    have e2 : n_all_walks_patch_of (nI (List.range n)) (sk on ms) = awk (n_patch_of (sk on ms)) (nI (List.range n)) := rfl
    simp only [e, rngL_k (show n ≤ 10000 by omega), ct_ok, e2, this, fn_rt]
  · unfold n__law_walks
    have e : ((nI on).length : Int) = (n : Int) := by rw [nI_len, SkinP.lenO S]
    simp only [e, rngN_k (show n ≤ 1000000 by omega), ct_ok]
    refine lwk_all hn (w := w) _ ?_ (fun h hh => (hw h hh).2.1)
    · intro h s hh kb hl
      obtain ⟨l', d1, d2⟩ := lpatch_n S hn hh
      have : l' = w h := FwC.uniq d1 (hw h hh).1
      subst this
      simp only [P2, has_kv, gst, w_pr, w_pk, w_pp, ct_ok, Bool.not_false, if_true, fn_rt, d2, Bool.false_eq_true, if_false]
      by_cases c : h ∈ s.1
      · simp [c]
      · simp only [c, decide_false, Bool.not_false, if_true, ct_ok, fn_rt, sq_nx, appL_n (show s.2.length < 100000 by omega), marks_n hn _ kb (hw h hh).2.1, if_false]
theorem seams_n (hn : n ≤ 1000) : ∃ R, n_seams (sk on ms) = .ok R ∧ n__law_walks (sk on ms) "seam" = .ok R := by
  refine ⟨lI ((List.range n).foldl (gst (sm ms)) ([], [])).2, ?_, ?_⟩
  · unfold n_seams
    have e : ((nI on).length : Int) = (n : Int) := by rw [nI_len, SkinP.lenO S]
    have := awk_n hn (walk := n_seam_of (sk on ms)) (w := sm ms) (hs := List.range n) (by simpa using hn) fun h hh => ⟨seam_n S (List.mem_range.1 hh), sm_lt S (List.mem_range.1 hh)⟩
    have e2 : n_all_walks_seam_of (nI (List.range n)) (sk on ms) = awk (n_seam_of (sk on ms)) (nI (List.range n)) := rfl
    simp only [e, rngL_k (show n ≤ 10000 by omega), ct_ok, e2, this, fn_rt]
  · unfold n__law_walks
    have e : ((nI on).length : Int) = (n : Int) := by rw [nI_len, SkinP.lenO S]
    simp only [e, rngN_k (show n ≤ 1000000 by omega), ct_ok]
    refine lwk_all hn (w := sm ms) _ ?_ (fun h hh => sm_lt S hh)
    · intro h s hh kb hl
      have d2 : ∃ ys, (lcP (fun one0 => ((if (!one0.isNone) = true then (unw one0).ct fun one00 => .rt one00 else .nx ()) : Ct Unit Unit Int)) [(some (h : Int)), oc (mt ms h)]) = .ok ys ∧ sortI ys = nI (sm ms h) := by
        unfold sm
        cases q : mt ms h with
        | none =>
          refine ⟨[(h : Int)], by simp [oc, lcP, compP, unw], ?_⟩
          exact (sortI_uniq (ns := [(h : Int)]) (ns' := [(h : Int)]) (List.Perm.refl _) (by simp)).symm
        | some m =>
          refine ⟨[(h : Int), (m : Int)], by simp [oc, lcP, compP, unw], ?_⟩
          symm
          show nI [min h m, max h m] = _
          apply sortI_uniq
          · by_cases c : h ≤ m
            · rw [Nat.min_eq_left c, Nat.max_eq_right c]
              exact List.Perm.refl _
            · rw [Nat.min_eq_right (by omega), Nat.max_eq_left (by omega)]
              exact List.Perm.swap _ _ _
          · simp only [List.map_cons, List.map_nil, List.pairwise_cons, List.mem_singleton, forall_eq, List.not_mem_nil, false_implies, implies_true, List.Pairwise.nil, and_true]
            omega
      obtain ⟨ys, d2, d3⟩ := d2
      simp only [P2, has_kv, gst, w_sr, w_sk, w_sp, ct_ok, Bool.not_false, if_true, fn_rt, Bool.false_eq_true, if_false, at_ms S hh, d2, d3]
      by_cases c : h ∈ s.1
      · simp [c]
      · simp only [c, decide_false, Bool.not_false, if_true, ct_ok, fn_rt, sq_nx, appL_n (show s.2.length < 100000 by omega), marks_n hn _ kb (sm_lt S hh), if_false]
theorem rims_n (hn : n ≤ 1000) : ∃ R, n_rims (sk on ms) = .ok R ∧ n__law_walks (sk on ms) "rim" = .ok R := by
  obtain ⟨w, hw⟩ := skolem (n := n) (D := fun h => rimB n ms h = true) fun x hx => rim_n S hn hx
  refine ⟨lI (((List.range n).filter (rimB n ms)).foldl (gst w) ([], [])).2, ?_, ?_⟩
  · unfold n_rims
    have e1 : lcP (fun p0 => ((if (p0.2.isNone) = true then .rt p0.1 else .nx ()) : Ct Unit Unit Int)) (enumI (oI ms)) = .ok (nI ((List.range n).filter (rimB n ms))) := by
      rw [lcP_fm (p := fun p0 : Int × Option Int => p0.2.isNone) (g := fun p0 : Int × Option Int => p0.1) _ (by simp [enumI, S.len]; omega) (fun a _ => rfl)]
      congr 1
      have : enumI (oI ms) = (List.range n).map fun (i : Nat) => ((i : Int), oc (mt ms i)) := by
        apply List.ext_getElem?
        intro i
        unfold enumI
        rw [List.getElem?_mapIdx, List.getElem?_map, List.getElem?_map]
        by_cases c : i < n
        · rw [mt_at S c, List.getElem?_range c]
          rfl
        · rw [List.getElem?_eq_none (by rw [S.len]; omega), List.getElem?_eq_none (by simp; omega)]
          rfl
      rw [this, List.filter_map, List.map_map]
      have hf : (List.range n).filter ((fun (p0 : Int × Option Int) => p0.2.isNone) ∘ fun (i : Nat) => ((i : Int), oc (mt ms i))) = (List.range n).filter (rimB n ms) := by
        apply List.filter_congr
        intro i hi
        have := List.mem_range.1 hi
        simp [rimB, this, oc]
      rw [hf]
      rfl
    have := awk_n hn (walk := n_rim_of (sk on ms)) (w := w) (hs := (List.range n).filter (rimB n ms)) (by have := List.length_filter_le (rimB n ms) (List.range n); simp at this; omega) fun h hh => ⟨(hw h (List.mem_filter.1 hh).2).2.2, (hw h (List.mem_filter.1 hh).2).2.1⟩
    have e2 : ∀ hs, n_all_walks_rim_of hs (sk on ms) = awk (n_rim_of (sk on ms)) hs := fun _ => rfl
    simp only [e1, ct_ok, e2, this, fn_rt]
  · unfold n__law_walks
    have e : ((nI on).length : Int) = (n : Int) := by rw [nI_len, SkinP.lenO S]
    simp only [e, rngN_k (show n ≤ 1000000 by omega), ct_ok]
    refine lwk_n hn (w := w) (P := rimB n ms) _ ?_ (fun h hh hp => (hw h hp).2.1)
    intro h s hh kb hl
    simp only [P2, has_kv, gst, w_rr, w_rk, w_rp, ct_ok, Bool.not_true, if_true, fn_rt, Bool.false_eq_true, if_false, at_ms S hh]
    by_cases c : h ∈ s.1
    · simp [c]
    · by_cases d : rimB n ms h = true
      · obtain ⟨l', d1, d2⟩ := lrim_n S hn d
        have : l' = w h := FwC.uniq d1 (hw h d).1
        subst this
        have d3 := ((rimB_iff S).1 d).2
        simp only [c, d, d3, oc, Option.map_none, Option.isNone_none, decide_false, Bool.not_false, if_true, ct_ok, fn_rt, sq_nx, d2, appL_n (show s.2.length < 100000 by omega), marks_n hn _ kb (hw h d).2.1, if_false]
      · have d3 : mt ms h ≠ none := fun q => d ((rimB_iff S).2 ⟨hh, q⟩)
        cases q : mt ms h with
        | none => exact absurd q d3
        | some m => simp [c, d, oc]
end
end NP
/- part NT11 -/
set_option Elab.async false
set_option linter.all false
set_option autoImplicit false
/-! NT11: == where texts are among the parts. -/
namespace NT
open PySem L2 DL LW
section
variable {α β : Type}
theorem shD_str {s : Str} (h : PyData.strOk s = true) (k : Nat) : shD k (eS s) := ⟨by simpa [PyData.canLay0] using h, by simp [PyData.depth]⟩
theorem eqN_typed [DecidableEq α] {f : α → D} [h : EqE f] {a b : α} {k : Nat} (ha : shD k (f a)) (hb : shD k (f b)) (hk : k ≤ 64 := by decide) : eqN (f a) (f b) = .ok (decide (a = b)) := by
  unfold eqN SeqAt.shaped
  rw [ha.1, hb.1, decide_eq_true (Nat.le_trans ha.2 hk), decide_eq_true (Nat.le_trans hb.2 hk)]
  simp only [Bool.and_self, and_self, if_true]
  congr 1
  rw [Bool.eq_iff_iff, h.eq, decide_eq_true_eq]
theorem eqN_st [DecidableEq α] {f : α → D} {k : Nat} [h : EqE f] [s : ShE f k] {a b : α} (hk : k ≤ 64 := by decide) : eqN (f a) (f b) = .ok (decide (a = b)) := eqN_typed (s.sh a) (s.sh b) hk
theorem sh_P2 {f : α → D} {g : β → D} {k : Nat} {p : α × β} (h1 : shD k (f p.1)) (h2 : shD k (g p.2)) : shD (k + 1) (eP2 f g p) := shD_tup (shA_cons h1 (shA_cons h2 shA_nil))
theorem sh_of {f : α → D} {k m : Nat} [s : ShE f k] (a : α) (h : k ≤ m := by decide) : shD m (f a) := shD_up h (s.sh a)
end
end NT
/- part NK5 -/
set_option Elab.async false
set_option linter.all false
set_option maxRecDepth 100000
set_option maxHeartbeats 4000000
/-! NK5: drawn rows of half seams; the program's refusal of numbers that are none. -/
namespace NP
open PySem L2 DL LW NT NW
theorem takes_n (k n : Nat) (hk : k ≤ 1000) (hn : 0 < n) (hn2 : n ≤ 1000) (s : Int × Int) : ∃ (hs : List Nat) (s' : Int × Int), lcS (fun (turn0 : Int) => fun bag2 => ((n__law_take bag2 (n : Int)).ct (P2 fun r3 bag3 =>
 .rt (r3, bag3)) : Ct (List Int) Unit (Int × (List Int)))) (nI (List.range k)) (bg s) = .ok (nI hs, bg s') ∧ ∀ h, h ∈ hs → h < n := by
  obtain ⟨bs, s', e, hl, hR, s2, rfl⟩ := lcS_inv (f := fun (turn0 : Int) => fun bag2 => ((n__law_take bag2 (n : Int)).ct (P2 fun r3 bag3 => .rt (r3, bag3)) : Ct (List Int) Unit (Int × (List Int)))) (fun b => ∃ s, b = bg s) (fun b => 0 ≤ b ∧ b < (n : Int)) (nI (List.range k)) (by simp [nI]; omega) (bg s) ⟨s, rfl⟩ (by
    rintro a _ _ ⟨s1, rfl⟩
    obtain ⟨r, s2, a1, b1, t1⟩ := take_n s1 (n : Int) (by omega) (by omega)
    exact ⟨r, bg s2, by simp [t1, P2], ⟨a1, b1⟩, s2, rfl⟩)
  refine ⟨bs.map Int.toNat, s2, ?_, fun h hh => ?_⟩
  · rw [e]
    congr 2
    unfold nI
    rw [List.map_map]
    have e2 : ∀ b ∈ bs, ((Nat.cast : Nat → Int) ∘ Int.toNat) b = id b := fun b hb => by
      have := (hR b hb).1
      show ((b.toNat : Nat) : Int) = b
      omega
    rw [List.map_congr_left e2, List.map_id]
  · obtain ⟨b, hb, rfl⟩ := List.mem_map.1 hh
    have := hR b hb
    omega
theorem nI_at {hs : List Nat} {j : Nat} {a : Int} (hj : (nI hs)[j]? = some a) : ∃ h, hs[j]? = some h ∧ a = ((h : Nat) : Int) := by
  unfold nI at hj
  rw [List.getElem?_map] at hj
  cases q : hs[j]? with
  | none => rw [q] at hj; cases hj
  | some h => rw [q] at hj; exact ⟨h, rfl, by cases hj; rfl⟩
theorem loops_n {c : Int} {m : Nat} {ns : List Int} (hc : c = (m : Int)) (hm : m ≤ 1000) (h : ns.length ≤ 63) : ∃ N : Nat, 1 + imin (ns.length : Int) c = (N : Int) ∧ N ≤ 1 + m ∧ N ≤ 64 := by
  subst hc
  unfold imin
  split
  · exact ⟨1 + m, by omega, by omega, by omega⟩
  · exact ⟨1 + ns.length, by omega, by omega, by omega⟩
theorem pick_n (a b : Nat) (r : Int) : ∃ m : Nat, idx [(a : Int), (b : Int)] (b2i (decide (r = 0))) = .ok (m : Int) ∧ (m = a ∨ m = b) := by
  unfold b2i
  by_cases c : r = 0
  · exact ⟨b, by simp [c, idx1], .inr rfl⟩
  · exact ⟨a, by simp [c, idx0], .inl rfl⟩
def xNo (c : Str) : Xc := ⟨c, none⟩
theorem kind_1 {c : Str} (h : c ∈ kNames) : kindT ⟨c, none⟩ [("SkinError", none)] = .ok (c ++ ("+" : Str)) := by
  unfold kindT
  rw [if_pos h]
  rfl
section
variable {n : Nat} {on : List Nat} {ms : List (Option Nat)} (S : SkinP n on ms)
include S
theorem on_len : on.length = n := by have := S.perm.length_eq; simpa using this
theorem sk_len : ((sk on ms).1.length : Int) = (n : Int) := by
  show (((nI on).length : Nat) : Int) = _
  rw [show (nI on).length = on.length by simp [nI], on_len S]
theorem look_no {x : Int} (h : x < 0 ∨ (n : Int) ≤ x) : n_look_at_half (sk on ms) x = .ex ⟨"NoHalf", none⟩ := by
  unfold n_look_at_half
  have e : (decide (x < 0) || decide (((sk on ms).1.length : Int) ≤ x)) = true := by
    rw [sk_len S]
    rcases h with h | h <;> simp [h]
  rw [e]
  rfl
theorem ahead_no {x : Int} (h : x < 0 ∨ (n : Int) ≤ x) : n_ahead_of (sk on ms) x = .ex ⟨"NoHalf", none⟩ := by
  unfold n_ahead_of
  rw [look_no S h]
  rfl
theorem left_no {x : Int} (h : x < 0 ∨ (n : Int) ≤ x) : n_left_of (sk on ms) x = .ex ⟨"NoHalf", none⟩ := by
  unfold n_left_of
  rw [ahead_no S h]
  rfl
theorem right_no {x : Int} (h : x < 0 ∨ (n : Int) ≤ x) : n_right_of (sk on ms) x = .ex ⟨"NoHalf", none⟩ := by
  unfold n_right_of
  rw [look_no S h]
  rfl
theorem patch_no {x : Int} (h : x < 0 ∨ (n : Int) ≤ x) : n_patch_of (sk on ms) x = .ex ⟨"NoHalf", none⟩ := by
  unfold n_patch_of
  rw [look_no S h]
  rfl
theorem knot_no {x : Int} (h : x < 0 ∨ (n : Int) ≤ x) : n_round_knot (sk on ms) x = .ex ⟨"NoHalf", none⟩ := by
  unfold n_round_knot
  rw [right_no S h]
  rfl
theorem rim_no {x : Int} (h : x < 0 ∨ (n : Int) ≤ x) : n_rim_of (sk on ms) x = .ex ⟨"NoHalf", none⟩ := by
  unfold n_rim_of
  rw [look_no S h]
  rfl
end
end NP
/- part K03L -/
set_option Elab.async false
set_option linter.all false
set_option maxRecDepth 100000
set_option maxHeartbeats 4000000
namespace K03
open PySem L2 DL LW NT NW NP
section
variable {n : Nat} {on : List Nat} {ms : List (Option Nat)} (S : SkinP n on ms)
include S
theorem asked0 {h : Nat} (hh : h < n) : n__law_asked 0 (sk on ms) (h : Int) = .ok (eI (ah on h : Int), ("" : Str)) := by
  unfold n__law_asked
  rw [if_pos (by decide), ahead_n S hh]
  rfl
theorem asked1 {h : Nat} (hh : h < n) : n__law_asked 1 (sk on ms) (h : Int) = .ok (eO eI (oc (lf on ms h)), ("" : Str)) := by
  unfold n__law_asked
  rw [if_neg (by decide), if_pos (by decide), left_n S hh]
  rfl
theorem asked2 {h : Nat} (hh : h < n) : n__law_asked 2 (sk on ms) (h : Int) = .ok (eO eI (oc (rt on ms h)), ("" : Str)) := by
  unfold n__law_asked
  rw [if_neg (by decide), if_neg (by decide), if_pos (by decide), right_n S hh]
  rfl
theorem asked_no {x : Int} (h : x < 0 ∨ (n : Int) ≤ x) (w : Int) : n__law_asked w (sk on ms) x = .ok (eU (), ("NoHalf+" : Str)) := by
  unfold n__law_asked
  rw [ahead_no S h, left_no S h, right_no S h, patch_no S h, knot_no S h, rim_no S h]
  simp only [ct_ex, ite_self, tryC_ex, kind_1 (c := "NoHalf") (by decide), ct_ok, sq_nx, P2, fn_rt]
  rfl
theorem none_right {x : Int} (h : x < 0 ∨ (n : Int) ≤ x) : n__law_none_right (sk on ms) x = .ok true := by
  unfold n__law_none_right
  rw [show rngN (6 : Int) = .ok (nI (List.range 6)) from rngN_k (n := 6) (by omega), ct_ok]
  have e : lcP (fun way0 => ((n__law_asked way0 (sk on ms) x).ct fun r0 => .rt r0 : Ct Unit Unit (D × Str))) (nI (List.range 6)) = .ok (List.replicate 6 (eU (), ("NoHalf+" : Str))) := by
    simp only [asked_no S h, ct_ok]
    rfl
  rw [e, ct_ok]
  have e2 : repN ((), ("NoHalf+" : Str)) (6 : Int) = .ok (List.replicate 6 ((), ("NoHalf+" : Str))) := by
    simp [repN]
    exact i63_of (by decide) (by decide)
  rw [e2, ct_ok]
  have e3 : eqN (eLs (eP2 eD eS) (List.replicate 6 (eU (), ("NoHalf+" : Str)))) (eLs (eP2 eU eS) (List.replicate 6 ((), ("NoHalf+" : Str)))) = .ok true := by
    unfold eqN
    rw [if_pos (by decide +kernel)]
    congr 1
  rw [e3]
  rfl
theorem isB (o : Option Int) : isBoolD (eO eI o) = false := by cases o <;> rfl
end
theorem law_n (ns : List Int) (h : ns.length ≤ 63) : n_law ns = .ok true := by
  suffices H : ∃ r, n_law ns = .ok r ∧ r = true by
    obtain ⟨r, a, b⟩ := H
    rw [a, b]
  unfold n_law
  refine W_fn ?_
  obtain ⟨N, hN, hN2, _⟩ := loops_n (c := 20) (m := 20) rfl (by omega) h
  simp only [hN, rngN_k (show N ≤ 1000000 by omega), ct_ok]
  refine W_cut (fun _ => True) ?_ (fun _ _ => by simp)
  refine W_for (fun _ _ => True) trivial ?_ (fun _ _ => trivial)
  rintro i a _ hi _
  obtain ⟨hi1, rfl⟩ := range_at hi
  obtain ⟨s, hb⟩ := bag_n ns i (by omega)
  obtain ⟨r1, s1, a1, b1, t1⟩ := take_n s 8 (by decide) (by decide)
  obtain ⟨m, hm, hm1⟩ := pick_n 30 400 r1
  obtain ⟨_, hs, n, on, ms, s2, hn1, hn2, hS, rfl⟩ := skin_n s1 m (by omega) (by omega)
  have hm : idx [(30 : Int), 400] (b2i (decide (r1 = 0))) = .ok (m : Int) := hm
  simp only [hb, ct_ok, t1, P2, hm, hs]
  have hn : n ≤ 1000 := by omega
  simp only [sk_len hS, rngL_k (show n ≤ 10000 by omega), ct_ok]
  refine W_cut (fun r => ∃ (hs : List Nat) (s3 : Int × Int), r = (bg s3, nI hs) ∧ ∀ h, h ∈ hs → h < n) ?_ ?_
  · split
    · obtain ⟨hs, s3, e, hlt⟩ := takes_n 20 n (by omega) (by omega) hn s2
      rw [show rngN (20 : Int) = .ok (nI (List.range 20)) from rngN_k (n := 20) (by omega), ct_ok, e]
      exact ⟨hs, s3, rfl, hlt⟩
    · exact ⟨List.range n, s2, rfl, fun h hh => List.mem_range.1 hh⟩
  rintro _ ⟨hs, s3, rfl, hlt⟩
  refine W_cut (fun _ => True) ?_ ?_
  · refine W_for (fun _ _ => True) trivial ?_ (fun _ _ => trivial)
    rintro j a _ hj _
    obtain ⟨h, hh, rfl⟩ := nI_at hj
    have hh := hlt h (List.mem_of_getElem? hh)
    have e : lcP (fun way0 => ((n__law_asked way0 (sk on ms) (h : Int)).ct fun r6 => .rt r6 : Ct Unit Unit (D × Str))) (nI (List.range 3)) = .ok [(eI (ah on h : Int), ("" : Str)), (eO eI (oc (lf on ms h)), ("" : Str)), (eO eI (oc (rt on ms h)), ("" : Str))] := by
      have e0 : nI (List.range 3) = [0, 1, 2] := rfl
      rw [e0]
      simp only [lcP, List.length_cons, List.length_nil, compP, asked0 hS hh, asked1 hS hh, asked2 hS hh, ct_ok]
      rfl
    have e1 : indexN (sk on ms).1 (h : Int) = .ok (ah on h : Int) := index_n (mem_on hS hh)
    simp only [e1, lleft_n hS hh, lright_n hS hh, show rngN (3 : Int) = .ok (nI (List.range 3)) from rngN_k (n := 3) (by omega), ct_ok, e]
    have e2 : lcP (fun one0 => (.rt (one0, ("" : Str)) : Ct Unit Unit ((Option Int) × Str))) [some (ah on h : Int), oc (lf on ms h), oc (rt on ms h)] = .ok [(some (ah on h : Int), ("" : Str)), (oc (lf on ms h), ("" : Str)), (oc (rt on ms h), ("" : Str))] := rfl
    have e3 : eqN (eLs (eP2 eD eS) [(eI (ah on h : Int), ("" : Str)), (eO eI (oc (lf on ms h)), ("" : Str)), (eO eI (oc (rt on ms h)), ("" : Str))]) (eLs (eP2 (eO eI) eS) [(some (ah on h : Int), ("" : Str)), (oc (lf on ms h), ("" : Str)), (oc (rt on ms h), ("" : Str))]) = .ok true := by
      have q := eqN_typed (f := eLs (eP2 (eO eI) eS)) (k := 3) (a := [(some (ah on h : Int), ("" : Str)), (oc (lf on ms h), ("" : Str)), (oc (rt on ms h), ("" : Str))]) (b := [(some (ah on h : Int), ("" : Str)), (oc (lf on ms h), ("" : Str)), (oc (rt on ms h), ("" : Str))])
      have st : shD 1 (eS ("" : Str)) := shD_str (by decide +kernel) 1
      have sh : shD 3 (eLs (eP2 (eO eI) eS) [(some (ah on h : Int), ("" : Str)), (oc (lf on ms h), ("" : Str)), (oc (rt on ms h), ("" : Str))]) := shD_lst (shA_cons (sh_P2 (sh_of _ (by decide)) st) (shA_cons (sh_P2 (sh_of _ (by decide)) st) (shA_cons (sh_P2 (sh_of _ (by decide)) st) shA_nil)))
      have q := q sh sh
      rw [decide_eq_true rfl] at q
      exact q
    have e4 : lcP (fun one1 => ((if (isBoolD one1.1) = true then .rt one1 else .nx ()) : Ct Unit Unit (D × Str))) [(eI (ah on h : Int), ("" : Str)), (eO eI (oc (lf on ms h)), ("" : Str)), (eO eI (oc (rt on ms h)), ("" : Str))] = .ok [] := by
      have b0 : isBoolD (eI (ah on h : Int)) = false := rfl
      simp only [lcP, List.length_cons, List.length_nil, compP, isB hS, b0]
      rfl
    have e5 : eqN (eLs (eP2 eD eS) ([] : List (D × Str))) (eLs (eP2 eD eS) ([] : List (D × Str))) = .ok true := by
      unfold eqN
      rw [if_pos (by decide +kernel)]
      rfl
    simp only [e2, e3, e4, e5, ct_ok, Bool.not_true, Bool.false_eq_true, if_false, fn_rt, W_nx]
  · rintro _ _
    obtain ⟨r7, s4, a7, b7, t7⟩ := take_n s3 9 (by decide) (by decide)
    have ep : powN (10 : Int) (8 : Int) = .ok 100000000 := by
      unfold powN
      first | rfl | decide | (simp; done)
    simp only [ep, ct_ok, t7]
    refine W_cut (fun _ => True) ?_ (fun _ _ => by simp)
    refine W_for (fun _ _ => True) trivial ?_ (fun _ _ => trivial)
    rintro j a _ hj _
    have ha : a < 0 ∨ (n : Int) ≤ a := by
      have hm := List.mem_of_getElem? hj
      simp only [List.mem_cons, List.not_mem_nil, or_false] at hm
      omega
    simp only [none_right hS ha, ct_ok, Bool.not_true, Bool.false_eq_true, if_false, W_nx]
theorem law_true (ns : List Int) (h : ns.length ≤ 63) : ∃ outs, f_law [.v (scriptD ns)] = .ok (.bool true) outs := ⟨_, RF_ok (rf_law ns) (law_n ns h)⟩
end K03
/- part K03E -/
set_option Elab.async false
set_option linter.all false
set_option maxRecDepth 100000
set_option maxHeartbeats 4000000
namespace K03
open PySem L2 DL LW
theorem tup_strs (K : PySem.W.Frag) : ∀ ss : List Str, (ss.map He.Dv.str).map (He.Dv.v K) = ss.map V.str
  | [] => rfl
  | s :: ss => by rw [List.map_cons, List.map_cons, tup_strs K ss]; rfl
def fn : List He.DefD := [defD "look_at_half" s_look_at_half, defD "ahead_of" s_ahead_of, defD "left_of" s_left_of, defD "right_of" s_right_of, defD "patch_of" s_patch_of, defD "round_knot" s_round_knot, defD "next_at_rim" s_next_at_rim, defD "rim_of" s_rim_of, defD "_law_bag" s__law_bag, defD "_law_take" s__law_take, defD "_law_skin" s__law_skin, defD "_law_left" s__law_left, defD "_law_right" s__law_right, defD "_law_kinds" s__law_kinds, defD "_law_asked" s__law_asked, defD "_law_none_right" s__law_none_right, defD "law" s_law]
def fa : List He.Fa := [.glo "look_at_half", .glo "ahead_of", .glo "left_of", .glo "right_of", .glo "patch_of", .glo "round_knot", .glo "next_at_rim", .glo "rim_of", .glo "_law_bag", .glo "_law_take", .glo "_law_skin", .glo "_law_left", .glo "_law_right", .glo "_law_kinds", .glo "_law_asked", .glo "_law_none_right", .glo "law", .free "ValueError", .free "bool", .free "int", .free "isinstance", .free "len", .free "list", .free "min", .free "range", .free "tuple", .glo "NoHalf", .glo "NoRim", .exc "NoHalf", .exc "NoRim", .glo "Harm", .glo "NoHalf", .glo "NoMarks", .glo "NoPlain", .glo "NoRim", .glo "NoRow", .glo "NoSkin", .glo "NoText", .glo "NothingLeft", .glo "TooMany", .glo "Unfit", .glo "Unlike", .glo "SkinError"]
def exB (K : PySem.W.Frag) : Bool := kxB K && (true)
abbrev Rw : PySem.W.OpenRow := PySem.W.OpenLaw.row PySem.Challenge.rw_halfseams_k03_next_ones
abbrev hk : PySem.W.Hook := hookB 4 fa fn exB
def ob (s : PySem.W.SharedT) : He.AlD × Bool := obsB 4 fa fn exB (HandSHeadRun.getT s)
theorem ob_eq (s : PySem.W.SharedT) : ob s = hk.obs s.abs := obsB_eq (HandSHeadRun.getT_eq s)
def loose : List Str := (["SkinError", "NoHalf", "NoRim", "Unlike", "TooMany", "NoPlain", "NoMarks", "NothingLeft", "Unfit", "NoText", "NoRow", "NoSkin", "Harm", "look_at_half", "ahead_of", "left_of", "right_of", "patch_of", "round_knot", "next_at_rim", "rim_of", "_law_bag", "_law_take", "_law_skin", "_law_left", "_law_right", "_law_kinds", "_law_asked", "_law_none_right"] : List Str)
theorem run (w : World) : HandSHeadRun.RunEq Rw (PySem.W.view Rw.prog [33]) hk ob 100000 loose w := by
  intro os
  kernel_rfl
theorem txt {K : PySem.W.Frag} {h : Heap} {mg : Str → Option Value} (X : K.In h) (G : h.Ns mainGlobals mg) (c : He.SaysD fa fn K) (e : exB K = true) : Txt K mg where
  d_look_at_half := c.def_ 0 (d := defD "look_at_half" s_look_at_half) rfl
  g_look_at_half := He.glo_ok X G (c.fact 0 (f := .glo "look_at_half") rfl)
  d_ahead_of := c.def_ 1 (d := defD "ahead_of" s_ahead_of) rfl
  g_ahead_of := He.glo_ok X G (c.fact 1 (f := .glo "ahead_of") rfl)
  d_left_of := c.def_ 2 (d := defD "left_of" s_left_of) rfl
  g_left_of := He.glo_ok X G (c.fact 2 (f := .glo "left_of") rfl)
  d_right_of := c.def_ 3 (d := defD "right_of" s_right_of) rfl
  g_right_of := He.glo_ok X G (c.fact 3 (f := .glo "right_of") rfl)
  d_patch_of := c.def_ 4 (d := defD "patch_of" s_patch_of) rfl
  g_patch_of := He.glo_ok X G (c.fact 4 (f := .glo "patch_of") rfl)
  d_round_knot := c.def_ 5 (d := defD "round_knot" s_round_knot) rfl
  g_round_knot := He.glo_ok X G (c.fact 5 (f := .glo "round_knot") rfl)
  d_next_at_rim := c.def_ 6 (d := defD "next_at_rim" s_next_at_rim) rfl
  g_next_at_rim := He.glo_ok X G (c.fact 6 (f := .glo "next_at_rim") rfl)
  d_rim_of := c.def_ 7 (d := defD "rim_of" s_rim_of) rfl
  g_rim_of := He.glo_ok X G (c.fact 7 (f := .glo "rim_of") rfl)
  d__law_bag := c.def_ 8 (d := defD "_law_bag" s__law_bag) rfl
  g__law_bag := He.glo_ok X G (c.fact 8 (f := .glo "_law_bag") rfl)
  d__law_take := c.def_ 9 (d := defD "_law_take" s__law_take) rfl
  g__law_take := He.glo_ok X G (c.fact 9 (f := .glo "_law_take") rfl)
  d__law_skin := c.def_ 10 (d := defD "_law_skin" s__law_skin) rfl
  g__law_skin := He.glo_ok X G (c.fact 10 (f := .glo "_law_skin") rfl)
  d__law_left := c.def_ 11 (d := defD "_law_left" s__law_left) rfl
  g__law_left := He.glo_ok X G (c.fact 11 (f := .glo "_law_left") rfl)
  d__law_right := c.def_ 12 (d := defD "_law_right" s__law_right) rfl
  g__law_right := He.glo_ok X G (c.fact 12 (f := .glo "_law_right") rfl)
  d__law_kinds := c.def_ 13 (d := defD "_law_kinds" s__law_kinds) rfl
  g__law_kinds := He.glo_ok X G (c.fact 13 (f := .glo "_law_kinds") rfl)
  d__law_asked := c.def_ 14 (d := defD "_law_asked" s__law_asked) rfl
  g__law_asked := He.glo_ok X G (c.fact 14 (f := .glo "_law_asked") rfl)
  d__law_none_right := c.def_ 15 (d := defD "_law_none_right" s__law_none_right) rfl
  g__law_none_right := He.glo_ok X G (c.fact 15 (f := .glo "_law_none_right") rfl)
  d_law := c.def_ 16 (d := defD "law" s_law) rfl
  g_law := He.glo_ok X G (c.fact 16 (f := .glo "law") rfl)
  n_ValueError := He.free_ok X G (c.fact 17 (f := .free "ValueError") rfl)
  n_bool := He.free_ok X G (c.fact 18 (f := .free "bool") rfl)
  n_int := He.free_ok X G (c.fact 19 (f := .free "int") rfl)
  n_isinstance := He.free_ok X G (c.fact 20 (f := .free "isinstance") rfl)
  n_len := He.free_ok X G (c.fact 21 (f := .free "len") rfl)
  n_list := He.free_ok X G (c.fact 22 (f := .free "list") rfl)
  n_min := He.free_ok X G (c.fact 23 (f := .free "min") rfl)
  n_range := He.free_ok X G (c.fact 24 (f := .free "range") rfl)
  n_tuple := He.free_ok X G (c.fact 25 (f := .free "tuple") rfl)
  x_NoHalf := let q := He.exc_ok (c.fact 28 (f := .exc "NoHalf") rfl); ⟨He.glo_ok X G (c.fact 26 (f := .glo "NoHalf") rfl), q.1, q.2.1, q.2.2.1, q.2.2.2⟩
  x_NoRim := let q := He.exc_ok (c.fact 29 (f := .exc "NoRim") rfl); ⟨He.glo_ok X G (c.fact 27 (f := .glo "NoRim") rfl), q.1, q.2.1, q.2.2.1, q.2.2.2⟩
  kx := kxB_ok (He.ba e).1 (fun c1 hc => by
    simp only [kNames, List.mem_cons, List.not_mem_nil, or_false] at hc
    rcases hc with rfl | rfl | rfl | rfl | rfl | rfl | rfl | rfl | rfl | rfl | rfl | rfl
    · exact He.glo_ok X G (c.fact 30 (f := .glo "Harm") rfl)
    · exact He.glo_ok X G (c.fact 31 (f := .glo "NoHalf") rfl)
    · exact He.glo_ok X G (c.fact 32 (f := .glo "NoMarks") rfl)
    · exact He.glo_ok X G (c.fact 33 (f := .glo "NoPlain") rfl)
    · exact He.glo_ok X G (c.fact 34 (f := .glo "NoRim") rfl)
    · exact He.glo_ok X G (c.fact 35 (f := .glo "NoRow") rfl)
    · exact He.glo_ok X G (c.fact 36 (f := .glo "NoSkin") rfl)
    · exact He.glo_ok X G (c.fact 37 (f := .glo "NoText") rfl)
    · exact He.glo_ok X G (c.fact 38 (f := .glo "NothingLeft") rfl)
    · exact He.glo_ok X G (c.fact 39 (f := .glo "TooMany") rfl)
    · exact He.glo_ok X G (c.fact 40 (f := .glo "Unfit") rfl)
    · exact He.glo_ok X G (c.fact 41 (f := .glo "Unlike") rfl)
    ) (He.glo_ok X G (c.fact 42 (f := .glo "SkinError") rfl))
theorem law_fn {P : Program} {w : World} {K : PySem.W.Frag} {mg : Str → Option Value} {base : Heap} (T : Txt K mg) {fd : FuncData} (F : FnT K "law" s_law fd) : FnOk P w K mg base (L2N.CX P w) 7 (He.ga K "law") fd P_law (spD K mg 1 f_law) := by
  have c_look_at_half := ok_look_at_half (P := P) (w := w) (base := base) T 
  have c_ahead_of := ok_ahead_of (P := P) (w := w) (base := base) T c_look_at_half
  have c_left_of := ok_left_of (P := P) (w := w) (base := base) T c_ahead_of
  have c_right_of := ok_right_of (P := P) (w := w) (base := base) T c_look_at_half
  have c_patch_of := ok_patch_of (P := P) (w := w) (base := base) T c_look_at_half
  have c_round_knot := ok_round_knot (P := P) (w := w) (base := base) T c_right_of c_left_of
  have c_next_at_rim := ok_next_at_rim (P := P) (w := w) (base := base) T 
  have c_rim_of := ok_rim_of (P := P) (w := w) (base := base) T c_look_at_half c_next_at_rim
  have c__law_bag := ok__law_bag (P := P) (w := w) (base := base) T 
  have c__law_take := ok__law_take (P := P) (w := w) (base := base) T 
  have c__law_skin := ok__law_skin (P := P) (w := w) (base := base) T c__law_take
  have c__law_left := ok__law_left (P := P) (w := w) (base := base) T 
  have c__law_right := ok__law_right (P := P) (w := w) (base := base) T 
  have c__law_kinds := ok__law_kinds (P := P) (w := w) (base := base) T 
  have c__law_asked := ok__law_asked (P := P) (w := w) (base := base) T c_ahead_of c__law_kinds c_left_of c_right_of c_patch_of c_round_knot c_rim_of
  have c__law_none_right := ok__law_none_right (P := P) (w := w) (base := base) T c__law_asked
  exact ok_law (P := P) (w := w) (base := base) T c__law_bag c__law_skin c__law_take c__law_left c__law_right c__law_asked c__law_none_right F
end K03
open PySem PySem.W PySem.Calls PyProof.Rows
set_option maxRecDepth 100000 in
set_option maxHeartbeats 0 in
theorem PySem.Challenge.cw_halfseams_k03_next_ones_holds : PySem.Challenge.rw_halfseams_k03_next_ones.Holds := by
  w_on; o_law
  refine HandSHeadRun.head_any (r := (OpenLaw.row PySem.Challenge.rw_halfseams_k03_next_ones)) (q := view (OpenLaw.row PySem.Challenge.rw_halfseams_k03_next_ones).prog [33]) (H := K03.hk) (ob := K03.ob) (M := 100000) (loose := K03.loose) (d := HandSHeadRun.topDef (OpenLaw.row PySem.Challenge.rw_halfseams_k03_next_ones).prog 33) (kwd := []) K03.ob_eq
    (by kernel_rfl) (fun s => by kernel_rfl) K03.run (by kernel_rfl) (by kernel_rfl) (by kernel_rfl) (by rfl) (by first | assumption | decide +kernel) (by decide +kernel) ⟨rfl, rfl, rfl, rfl, rfl, by decide +kernel⟩ ?hw ?hc
  case hw => w_witness2
  case hc =>
    refine DL.walk_ofR (l := PySem.Challenge.rw_halfseams_k03_next_ones) (n := 63) (k := 7) (F := K03.f_law) rfl (by decide) (by kernel_rfl) ⟨rfl, by decide, by decide⟩ (by kernel_rfl) K03.law_true ?C
    intro w mg h Y G
    obtain ⟨K, KX, c, e⟩ := Y
    have T := K03.txt KX G c e
    obtain ⟨fd, F⟩ := T.d_law
    exact ⟨K, fd, KX, T.g_law, fun s v => L2.FunD.bindsA (ps := ["script"]) F (fun _ _ _ _ _ _ us hl => match us, hl with | [_], _ => rfl) s [v] rfl, fun base _ _ => K03.law_fn T F⟩
