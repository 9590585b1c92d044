import PyProof.Rows.All
import Wide.All
import OpenK.AllK
import Wide.FinOn
import PySem.Challenge.RW_halfseams_k35_walkers_by_hand
import HandS.ForMost
import HandS.ExcCtx
import HandS.HotCalls
import HandS.ExcIs
import HandS.ExcField
import HandS.ExcInit
import HandS.ForExc
import HandS.IsInst
import HandS.Wide
import HandS.Conv
import HandS.More
import HandS.TupAny
import HandS.CallSlots
import HandS.HeadHook1
import HandS.SortInts
import HandS.Strs
import HandS.Style
import KE.KDictCopyH
import HandS.Deep
import HandS.StrSplit
import HandS.StrMore
import HandS.NoneIn
import HandS.Zip
import HandS.TupMul
import HandS.Defaults
import HandS.HeadEnd
import HandS.HeadHook2
import HandS.Head0
import HandS.Head1
import HandS.Head2
import HandS.CallLocal
import KE.GoesEnum
import KE.KDictSum
import KE.KExcIs
import HandS.SetFor
import HandS.Steps
import PyProof.DictUpdate
import PyProof.FactsAll.set_1
import PyProof.FactsAll.subtypes_5
import PyProof.SumWalkG
import HandS.ExcOwn
import HandS.ExcValue
import KE.DataMinMax
import KE.SortData
set_option Elab.async false
set_option linter.all false
set_option maxRecDepth 100000
set_option autoImplicit false
namespace DL
open PySem L2 PySem.Spec PyProof.Rows
def SqN (K : PySem.W.Frag) (H : Hp) (a : Addr) (xs : List V) : Prop :=
  (∃ o : Obj, H a = some (.frz o (.tup xs)) ∧ o.dict = none) ∨
    ∃ (o : Obj) (its : Array Value) (n : Nat), K.lookup a = some o ∧ o.cls = .type "tuple" ∧ o.dict = none ∧ o.data = .seq its n ∧ its.size ≤ sizeLine ∧ Vals xs its.toList
theorem SqN.t {K : PySem.W.Frag} {H : Hp} {a : Addr} {xs : List V} (h : SqN K H a xs) : SqT K H a xs := by
  rcases h with ⟨o, h, _⟩ | ⟨o, its, n, h1, h2, h3, h4, h5, h6⟩
  · exact .inl (.inr ⟨o, h⟩)
  · exact .inr ⟨o, its, n, h1, h2, h4, h5, h6⟩
section
variable {X : Cx}
theorem SqN.obj {pins : List (Addr × Obj)} {σ : L2.St} {H : Hp} {s : Shared} {a : Addr} {xs : List V} (I : Inv X pins σ H s) (h : SqN X.K H a xs) : s.TypeIs (.ref a) "tuple" ∧ ∃ o, s.heap.get? a = some o ∧ o.dict = none := by
  rcases h with ⟨o, h, hd⟩ | ⟨o, its, n, h1, h2, h3, h4, h5, h6⟩
  · obtain ⟨g, _, _, _, p⟩ := I.hok a _ h
    obtain ⟨o', e, c, _⟩ := p
    rw [g] at e
    cases e
    exact ⟨⟨o, g, c⟩, o, g, hd⟩
  · exact ⟨⟨o, I.kIn a o h1, h2⟩, o, I.kIn a o h1, h3⟩
/-- a display -/
def tTupF (t : TA) : TE := fun σ H Q => t σ H fun xs H1 => xs.length ≤ sizeLine ∧ ∀ (p : Addr) (o : Obj), H1 p = none → o.dict = none → Q (.ref p) (upd H1 p (.frz o (.tup xs)))
theorem pe_tupF {es : List Expr} {t : TA} {pos : Pos} {x1} (h : PA X es t) : PE X (.Tuple es x1 pos) (tTupF t) := by
  refine ⟨fun pins s σ H Q I hq => ?_⟩
  refine wpAny_Tuple_spliced (thn (h.run pos pins s σ H _ I hq) fun us s1 ⟨xs, H1, I1, r, z, q⟩ => ⟨by rw [← r.length]; exact z, ?_⟩)
  have hf : H1 s1.heap.objs.size = none := I1.hok.fresh (Nat.le_refl _)
  refine ⟨.ref s1.heap.objs.size, upd H1 s1.heap.objs.size (.frz { cls := .type "tuple", data := .seq us.toArray } (.tup xs)), I1.laid (t' := s1.toks) (fun b u e => Heap.get?_push_of_some _ e) (Nat.le_refl _) ?_, rfl, q _ _ hf rfl⟩
  exact ⟨Heap.get?_push_size _ rfl, z, us, r, ⟨_, Heap.get?_push_size _ rfl, rfl, _, rfl⟩⟩
/-- tuple(x) -/
theorem call_tuple_ofF : CallR X (.type "tuple") (fun xs H Q => ∃ p ys, xs = [.ref p] ∧ ((SqL X.K H p ys ∧ ∀ (l : Addr) (o : Obj), H l = none → o.dict = none → Q (.ref l) (upd H l (.frz o (.tup ys)))) ∨ (SqT X.K H p ys ∧ Q (.ref p) H))) := by
  intro pins s σ H xs us Q I r h
  obtain ⟨p, ys, rfl, h⟩ := h
  obtain ⟨u, rfl, rx⟩ := vals1 r
  cases rx
  rcases h with ⟨hq, q⟩ | ⟨hq, q⟩
  · obtain ⟨its, r', pl, hz⟩ := I.list hq
    have hlen := r'.length
    refine call_tuple_list pl.isList (fun h' kp => ?_) (by simp only [List.size_toArray] <;> omega)
    have I1 : Inv X pins σ H { s with heap := h' } := I.kept (t' := s.toks) kp
    have I2 : Inv X pins σ (upd H h'.objs.size (.frz { cls := .type "tuple", data := .seq its.toArray } (.tup ys))) { s with heap := h'.push { cls := .type "tuple", data := .seq its.toArray } } :=
      I1.laid (t' := s.toks) (fun b o e => Heap.get?_push_of_some _ e) (Nat.le_refl _) (show ObjOk X.prog X.w _ _ _ (.frz _ (.tup ys)) from ⟨Heap.get?_push_size _ rfl, hz, its, r', IsTup.new _ _⟩)
    exact ⟨.ref h'.objs.size, _, I2, rfl, q _ _ (I1.hok.fresh (Nat.le_refl _)) rfl⟩
  · obtain ⟨its, r', pl, hz⟩ := I.tuple hq
    exact call_tuple_same pl ⟨.ref p, H, I, rfl, q⟩
/-- t + u -/
def rCatF (K : PySem.W.Frag) : R2 := fun x y H Q => ∃ a b xs ys, x = .ref a ∧ y = .ref b ∧ SqT K H a xs ∧ SqT K H b ys ∧ xs.length + ys.length ≤ sizeLine ∧
  (xs = [] → Q (.ref b) H) ∧ (xs ≠ [] → ys = [] → Q (.ref a) H) ∧ (xs ≠ [] → ys ≠ [] → ∀ (p : Addr) (o : Obj), H p = none → o.dict = none → Q (.ref p) (upd H p (.frz o (.tup (xs ++ ys)))))
theorem op_catF : OpR X (binaryOp .Add) (rCatF X.K) := by
  intro pins s σ H x y v u Q I rx ry h
  obtain ⟨a, b, xs, ys, rfl, rfl, ha, hb, hz, q0, q1, q2⟩ := h
  cases rx
  cases ry
  obtain ⟨its, r1, p1, _⟩ := I.tuple ha
  obtain ⟨its2, r2, p2, _⟩ := I.tuple hb
  by_cases hx : xs = []
  · subst hx
    cases r1
    exact cat_tup0 p1 p2 ⟨.ref b, H, I, rfl, q0 rfl⟩
  · refine HT.cat_tup p1 p2 (fun z => hx (r1.nil_iff.mp z)) (fun z => ⟨.ref a, H, I, rfl, q1 hx (r2.nil_iff.mp z)⟩) (fun z => ?_) (by rw [← r1.length, ← r2.length]; exact hz)
    refine ⟨.ref s.heap.objs.size, _, I.laid (t' := s.toks) (o := .frz { cls := .type "tuple", data := .seq (its ++ its2).toArray } (.tup (xs ++ ys))) (fun b ob q => Heap.get?_push_of_some _ q) (Nat.le_refl _) ?_, rfl, q2 hx (fun w => z (r2.nil_iff.mpr w)) _ _ (I.hok.fresh (Nat.le_refl _)) rfl⟩
    exact ⟨Heap.get?_push_size _ rfl, by rw [List.length_append]; exact hz, _, r1.append r2, IsTup.new _ _⟩
/-- t[lo:hi] -/
def rSlF (K : PySem.W.Frag) : V → Option Int → Option Int → Hp → VK → Prop := fun x lo hi H Q => ∃ a xs, x = .ref a ∧ SqT K H a xs ∧
  (HT.sIx xs.length 0 lo = 0 ∧ HT.sIx xs.length xs.length hi = xs.length → Q (.ref a) H) ∧ (¬ (HT.sIx xs.length 0 lo = 0 ∧ HT.sIx xs.length xs.length hi = xs.length) → ∀ (p : Addr) (o : Obj), H p = none → o.dict = none → Q (.ref p) (upd H p (.frz o (.tup (cutV xs lo hi)))))
theorem sl_tupF : SlR X (rSlF X.K) := by
  intro pins s σ H x v vl vu lo hi sl Q I rx hs pl pu h
  obtain ⟨a, xs, rfl, hx, q1, q2⟩ := h
  cases rx
  obtain ⟨its, r, ht, hz⟩ := I.tuple hx
  have hlen : its.toArray.size = xs.length := by rw [List.size_toArray]; exact r.length.symm
  refine ⟨"tuple", _, PyProof.Rows.slot_tuple_getitem.lookup, ht.typeIs, ?_⟩
  by_cases hw : HT.sIx xs.length 0 lo = 0 ∧ HT.sIx xs.length xs.length hi = xs.length
  · exact getItem_tuple_whole ht hs pl pu (by rw [hlen]; exact hw) ⟨.ref a, H, I, rfl, q1 hw⟩
  · refine HT.getItem_tuple_cut ht hs pl pu (by rw [hlen]; exact hw) ?_ (by rw [hlen]; exact hz)
    rw [hlen]
    refine ⟨.ref s.heap.objs.size, _, I.laid (t' := s.toks) (o := .frz { cls := .type "tuple", data := .seq (List.take (HT.sIx xs.length xs.length hi - HT.sIx xs.length 0 lo) (List.drop (HT.sIx xs.length 0 lo) its.toArray.toList)).toArray } (.tup (cutV xs lo hi))) (fun b ob q => Heap.get?_push_of_some _ q) (Nat.le_refl _) ?_, rfl, q2 hw _ _ (I.hok.fresh (Nat.le_refl _)) rfl⟩
    exact ⟨Heap.get?_push_size _ rfl, Nat.le_trans (cutV_length xs lo hi) hz, _, (r.drop (HT.sIx xs.length 0 lo)).take (HT.sIx xs.length xs.length hi - HT.sIx xs.length 0 lo), IsTup.new _ _⟩
end
end DL
set_option Elab.async false
set_option linter.all false
set_option maxRecDepth 100000
set_option autoImplicit false
namespace DL
open PySem L2
abbrev LV (kvs : List (Leaf × V)) (vs : List (Leaf × Value)) : Prop := Paired (fun (p : Leaf × V) (q : Leaf × Value) => p.1 = q.1 ∧ RelV p.2 q.2) kvs vs
/-- such a dict as a thing that is held -/
def hoLf (a : Addr) (kvs : List (Leaf × V)) : HO := .ext fun h => kvs.length ≤ sizeLine ∧ (a == sysModules) = false ∧ ∃ vs, LV kvs vs ∧ ∀ P w, h.DictOf (leafKind P w) a vs
end DL
set_option Elab.async false
set_option linter.all false
set_option maxRecDepth 100000
set_option autoImplicit false
namespace DL
open PySem L2
abbrev D := PyData
/-- a whole number or None -/
def oiV : Option Int → V
  | none => .non
  | some i => .int i
abbrev LO := List (Leaf × Option Int)
def oV (kvs : LO) : List (Leaf × V) := kvs.map fun kv => (kv.1, oiV kv.2)
/-- a thing of the def's own that is changed in place, with what it holds: data that stands still; a dict with None among its keys; a list; a dict with texts as keys; an object of an own class -/
inductive Tr where
  | d (x : D)
  | n (kvs : LO)
  | l (xs : List Tr)
  | k (kvs : List (Str × Tr))
  | o (c : Str) (fs : List (Str × Tr))
/-- what a slot holds: nothing known, data that stands still, a list of the def's own that is changed in place, a parameter's list that is changed in place, a dict of the def's own, a dict with None among its keys that stands, a def, an exception, a thing of its own (or a parameter's) that is changed in place -/
inductive Sl where
  | no
  | v (d : D)
  | l (xs : List D)
  | p (xs : List D)
  | m (kvs : List (D × D))
  | n (kvs : List (Leaf × Option Int))
  | f (x : Str)
  | a (b : Addr) (d : Option Addr) (f : Option (Str × PyData))
  | t (x : Tr)
  | u (x : Tr)
abbrev DEnv := List Sl
def Sl.own : Sl → Bool
  | .l _ => true
  | .p _ => true
  | .m _ => true
  | .t _ => true
  | .u _ => true
  | _ => false
/-- owns one thing -/
def Sl.lst : Sl → Bool
  | .l _ => true
  | .p _ => true
  | .m _ => true
  | _ => false
/-- a parameter that is changed -/
def Sl.pk : Sl → Nat
  | .p _ => 1
  | .u _ => 2
  | _ => 0
/-- an exception: its class's name, its field with its value -/
structure Xc where
  c : Str
  f : Option (Str × D)
inductive Rs (α : Type) where
  | ok (a : α) (env : DEnv)
  | ex (x : Xc) (env : DEnv)
  | stuck
abbrev DE := DEnv → Rs D
abbrev DT := DEnv → Rs Bool
abbrev DA := DEnv → Rs (List D)
def Rs.bind {α β : Type} (r : Rs α) (f : α → DEnv → Rs β) : Rs β := match r with
  | .ok a env => f a env
  | .ex x env => .ex x env
  | .stuck => .stuck
theorem bind_ok {α β : Type} (a : α) (env : DEnv) (f : α → DEnv → Rs β) : (Rs.ok a env).bind f = f a env := rfl
/-- an answer that may lack, in place -/
def put {α : Type} (o : Option α) (env : DEnv) : Rs α := match o with
  | some a => .ok a env
  | none => .stuck
structure I62 (i : Int) : Prop where
  lo : -(2 ^ 62) ≤ i
  hi : i < 2 ^ 62
structure I63 (i : Int) : Prop where
  lo : -(2 ^ 63) ≤ i
  hi : i < 2 ^ 63
structure IRg (i : Int) : Prop where
  lo : -1000 ≤ i
  hi : i ≤ 100000
noncomputable instance (i : Int) : Decidable (I62 i) := Classical.propDecidable _
noncomputable instance (i : Int) : Decidable (I63 i) := Classical.propDecidable _
noncomputable instance (i : Int) : Decidable (IRg i) := Classical.propDecidable _
theorem i62_of {i : Int} (h : -1000000 ≤ i) (h2 : i ≤ 1000000) : I62 i := ⟨by omega, by omega⟩
theorem i63_of {i : Int} (h : -1000000 ≤ i) (h2 : i ≤ 1000000) : I63 i := ⟨by omega, by omega⟩
def Ex (G H : Hp) : Prop := ∀ a o, G a = some o → H a = some o
theorem Ex.refl (H : Hp) : Ex H H := fun _ _ h => h
theorem Ex.trans {H H1 H2 : Hp} (a : Ex H H1) (b : Ex H1 H2) : Ex H H2 := fun x o h => b x o (a x o h)
theorem Ex.new {H : Hp} {p : Addr} {o : HO} (h : H p = none) : Ex H (upd H p o) := fun a u e => by
  rw [upd_ne (ne_of_none e h)]; exact e
theorem Ex.none {G H : Hp} {a : Addr} (e : Ex G H) (h : H a = none) : G a = none := by
  cases q : G a with
  | none => rfl
  | some o => rw [e a o q] at h; cases h
theorem Ex.both {G H : Hp} {p : Addr} {o : HO} (e : Ex G H) : Ex (upd G p o) (upd H p o) := fun a u h => by
  by_cases hp : a = p
  · subst hp; rw [upd_same] at h ⊢; exact h
  · rw [upd_ne hp] at h ⊢; exact e a u h
theorem Ex.rd {H H' : Hp} {a : Addr} {u : HO} (e : Ex H H') (h : Rd H a u) : Rd H' a u := by
  rcases h with h | ⟨o, h⟩
  · exact Or.inl (e a _ h)
  · exact Or.inr ⟨o, e a _ h⟩
theorem Ex.l {K : PySem.W.Frag} {H H' : Hp} {a : Addr} {xs : List V} (e : Ex H H') (h : SqL K H a xs) : SqL K H' a xs := by
  rcases h with h | h
  · exact Or.inl (e.rd h)
  · exact Or.inr h
theorem Ex.n {K : PySem.W.Frag} {H H' : Hp} {a : Addr} {xs : List V} (e : Ex H H') (h : SqN K H a xs) : SqN K H' a xs := by
  rcases h with ⟨o, h, hd⟩ | h
  · exact .inl ⟨o, e _ _ h, hd⟩
  · exact .inr h
theorem Ex.t {K : PySem.W.Frag} {H H' : Hp} {a : Addr} {xs : List V} (e : Ex H H') (h : SqT K H a xs) : SqT K H' a xs := by
  rcases h with h | h
  · exact Or.inl (e.rd h)
  · exact Or.inr h
/-- a list to be read: tracked, known (the script), or written at the top just so -/
def RL (K : PySem.W.Frag) (G : Hp) (a : Addr) (xs : List V) : Prop := Rd G a (.lst xs) ∨ ∃ (its : Array Value) (n : Nat), K.lookup a = some { cls := .type "list", data := .seq its n } ∧ its.size ≤ sizeLine ∧ Vals xs its.toList
theorem Ex.rl {K : PySem.W.Frag} {G G' : Hp} {a : Addr} {xs : List V} (e : Ex G G') (h : RL K G a xs) : RL K G' a xs := by
  rcases h with h | h
  · exact .inl (e.rd h)
  · exact .inr h
theorem RL.sq {K : PySem.W.Frag} {G : Hp} {a : Addr} {xs : List V} (h : RL K G a xs) : SqL K G a xs := by
  rcases h with h | ⟨its, n, h1, h2, h3⟩
  · exact .inl h
  · exact .inr ⟨_, its, n, h1, rfl, rfl, rfl, h2, h3⟩
theorem RL.of {K : PySem.W.Frag} {G : Hp} {a : Addr} {xs : List V} (h : G a = some (.lst xs)) : RL K G a xs := .inl (.inl h)
/-- a key as data -/
def kD : Key → D
  | .inl i => .int i
  | .inr x => .str x
mutual
/-- data that stands still, by a value: lists are tracked ones (or the script), tuples may be written ones -/
inductive Dv (K : PySem.W.Frag) (G : Hp) : V → PyData → Prop
  | non : Dv K G .non .none
  | bl (b : Bool) : Dv K G (.bl b) (.bool b)
  | int (i : Int) : Dv K G (.int i) (.int i)
  | str (x : Str) : Dv K G (.str x) (.str x)
  | lst {a : Addr} {xs : List V} {ds : List PyData} : RL K G a xs → DvAll K G xs ds → Dv K G (.ref a) (.list ds)
  | tup {a : Addr} {xs : List V} {ds : List PyData} : SqN K G a xs → DvAll K G xs ds → Dv K G (.ref a) (.tuple ds)
  | dct {a : Addr} {xs : List (Key × V)} {ds : List (PyData × PyData)} : Rd G a (.dK xs) → DvKv K G xs ds → Dv K G (.ref a) (.dict ds)
inductive DvKv (K : PySem.W.Frag) (G : Hp) : List (Key × V) → List (PyData × PyData) → Prop
  | nil : DvKv K G [] []
  | cons {k : Key} {v : V} {d : D} {xs : List (Key × V)} {ys : List (D × D)} : Dv K G v d → DvKv K G xs ys → DvKv K G ((k, v) :: xs) ((kD k, d) :: ys)
inductive DvAll (K : PySem.W.Frag) (G : Hp) : List V → List PyData → Prop
  | nil : DvAll K G [] []
  | cons {v : V} {vs : List V} {d : PyData} {ds : List PyData} : Dv K G v d → DvAll K G vs ds → DvAll K G (v :: vs) (d :: ds)
end
mutual
theorem Dv.mono {K : PySem.W.Frag} {G G' : Hp} (e : Ex G G') : ∀ (d : D) (v : V), Dv K G v d → Dv K G' v d
  | .none, _, h => by cases h; exact .non
  | .bool b, _, h => by cases h; exact .bl b
  | .int i, _, h => by cases h; exact .int i
  | .str x, _, h => by cases h; exact .str x
  | .list ds, _, h => by
    cases h with
    | lst a b => exact .lst (e.rl a) (Dv.monoAll e ds _ b)
  | .tuple ds, _, h => by
    cases h with
    | tup a b => exact .tup (e.n a) (Dv.monoAll e ds _ b)
  | .dict ds, _, h => by
    cases h with
    | dct a b => exact .dct (e.rd a) (Dv.monoKv e ds _ b)
theorem Dv.monoKv {K : PySem.W.Frag} {G G' : Hp} (e : Ex G G') : ∀ (ds : List (D × D)) (vs : List (Key × V)), DvKv K G vs ds → DvKv K G' vs ds
  | [], _, h => by cases h; exact .nil
  | (_, d) :: ds, _, h => by
    cases h with
    | cons a b => exact .cons (Dv.mono e d _ a) (Dv.monoKv e ds _ b)
theorem Dv.monoAll {K : PySem.W.Frag} {G G' : Hp} (e : Ex G G') : ∀ (ds : List D) (vs : List V), DvAll K G vs ds → DvAll K G' vs ds
  | [], _, h => by cases h; exact .nil
  | d :: ds, _, h => by
    cases h with
    | cons a b => exact .cons (Dv.mono e d _ a) (Dv.monoAll e ds _ b)
end
theorem Dv.up {K : PySem.W.Frag} {G G' : Hp} {d : D} {v : V} (h : Dv K G v d) (e : Ex G G') : Dv K G' v d := Dv.mono e d v h
theorem DvKv.up {K : PySem.W.Frag} {G G' : Hp} {d : List (D × D)} {v : List (Key × V)} (h : DvKv K G v d) (e : Ex G G') : DvKv K G' v d := Dv.monoKv e d v h
theorem DvAll.up {K : PySem.W.Frag} {G G' : Hp} {d : List D} {v : List V} (h : DvAll K G v d) (e : Ex G G') : DvAll K G' v d := Dv.monoAll e d v h
section
variable {K : PySem.W.Frag} {G : Hp}
theorem DvAll.length : ∀ {vs : List V} {ds : List D}, DvAll K G vs ds → vs.length = ds.length
  | _, _, .nil => rfl
  | _, _, .cons _ t => by rw [List.length_cons, List.length_cons, DvAll.length t]
theorem DvAll.get : ∀ {vs : List V} {ds : List D} {i : Nat} {d : D}, DvAll K G vs ds → ds[i]? = some d → ∃ v, vs[i]? = some v ∧ Dv K G v d
  | _, _, _, _, .nil, e => by simp at e
  | _, _, 0, _, .cons r _, e => by simp at e; subst e; exact ⟨_, rfl, r⟩
  | _, _, i + 1, d, .cons _ t, e => by
    obtain ⟨u, h1, h2⟩ := DvAll.get (i := i) (d := d) t (by simpa using e)
    exact ⟨u, by simpa using h1, h2⟩
theorem DvAll.append : ∀ {xs ys : List V} {us ws : List D}, DvAll K G xs us → DvAll K G ys ws → DvAll K G (xs ++ ys) (us ++ ws)
  | _, _, _, _, .nil, s => s
  | _, _, _, _, .cons r t, s => .cons r (DvAll.append t s)
theorem DvAll.take : ∀ {xs : List V} {us : List D} (n : Nat), DvAll K G xs us → DvAll K G (xs.take n) (us.take n)
  | _, _, 0, _ => .nil
  | _, _, _ + 1, .nil => .nil
  | _, _, n + 1, .cons r t => .cons r (DvAll.take n t)
theorem DvAll.drop : ∀ {xs : List V} {us : List D} (n : Nat), DvAll K G xs us → DvAll K G (xs.drop n) (us.drop n)
  | _, _, 0, r => r
  | _, _, _ + 1, .nil => .nil
  | _, _, n + 1, .cons _ t => DvAll.drop n t
theorem DvAll.set {x : V} {u : D} (r : Dv K G x u) : ∀ {xs : List V} {us : List D} (i : Nat), DvAll K G xs us → DvAll K G (xs.set i x) (us.set i u)
  | _, _, _, .nil => .nil
  | _, _, 0, .cons _ t => .cons r t
  | _, _, i + 1, .cons q t => .cons q (DvAll.set r i t)
theorem DvAll.eraseIdx : ∀ {xs : List V} {us : List D} (i : Nat), DvAll K G xs us → DvAll K G (xs.eraseIdx i) (us.eraseIdx i)
  | _, _, _, .nil => .nil
  | _, _, 0, .cons _ t => t
  | _, _, i + 1, .cons q t => .cons q (DvAll.eraseIdx i t)
theorem DvAll.dropLast : ∀ {xs : List V} {us : List D}, DvAll K G xs us → DvAll K G xs.dropLast us.dropLast
  | _, _, .nil => .nil
  | _, _, .cons r .nil => .nil
  | _, _, .cons r (.cons q t) => .cons r (DvAll.dropLast (.cons q t))
theorem DvAll.one {v : V} {d : D} (h : Dv K G v d) : DvAll K G [v] [d] := .cons h .nil
theorem DvAll.inv1 {vs : List V} {d : D} (h : DvAll K G vs [d]) : ∃ v, vs = [v] ∧ Dv K G v d := by
  cases h with
  | cons a b => cases b; exact ⟨_, rfl, a⟩
theorem DvAll.of_ints : ∀ (ns : List Int), DvAll K G (ns.map V.int) (ns.map PyData.int)
  | [] => .nil
  | n :: ns => .cons (.int n) (DvAll.of_ints ns)
end
mutual
theorem Dv.dp {K : PySem.W.Frag} {G H : Hp} (e : Ex G H) : ∀ (d : D) (v : V), d.canLay0 = true → Dv K G v d → Dp K H v d
  | .none, _, _, h => by cases h; exact .non
  | .bool b, _, _, h => by cases h; exact .bl b
  | .int i, _, _, h => by cases h; exact .int i
  | .str x, _, _, h => by cases h; exact .str x
  | .list ds, _, c, h => by
    cases h with
    | lst a b => exact .lst (e.rl a).sq (Dv.dpAll e ds _ (by simpa [PyData.canLay0] using c) b)
  | .tuple ds, _, c, h => by
    cases h with
    | tup a b => exact .tup (e.n a).t (Dv.dpAll e ds _ (by simpa [PyData.canLay0] using c) b)
  | .dict _, _, c, _ => by simp [PyData.canLay0] at c
theorem Dv.dpAll {K : PySem.W.Frag} {G H : Hp} (e : Ex G H) : ∀ (ds : List D) (vs : List V), PyData.canLayAll0 ds = true → DvAll K G vs ds → DpAll K H vs ds
  | [], _, _, h => by cases h; exact .nil
  | d :: ds, _, c, h => by
    have c' : d.canLay0 = true ∧ PyData.canLayAll0 ds = true := by simpa [PyData.canLayAll0] using c
    cases h with
    | cons a b => exact .cons (Dv.dp e d _ c'.1 a) (Dv.dpAll e ds _ c'.2 b)
end
/-- an exception's field stands -/
def XD (K : PySem.W.Frag) (G : Hp) (d : Option Addr) (f : Option (Str × D)) : Prop := match f with
  | none => d = none
  | some (n, x) => ∃ a v, d = some a ∧ G a = some (.xd [(n, v)]) ∧ Dv K G v x
theorem XD.up {K : PySem.W.Frag} {G G' : Hp} {d : Option Addr} {f : Option (Str × D)} (h : XD K G d f) (e : Ex G G') : XD K G' d f := by
  cases f with
  | none => exact h
  | some p => obtain ⟨a, v, h1, h2, h3⟩ := h; exact ⟨a, v, h1, e _ _ h2, h3.up e⟩
def adr : V → List Addr
  | .ref a => [a]
  | _ => []
def lstOf (H : Hp) : V → List V
  | .ref a => match H a with
    | some (.lst vs) => vs
    | _ => []
  | _ => []
def dkOf (H : Hp) : V → List V
  | .ref a => match H a with
    | some (.dK kvs) => kvs.map (·.2)
    | _ => []
  | _ => []
def insOf (H : Hp) : V → List V
  | .ref a => match H a with
    | some (.ins _ _ fs) => fs.map (·.2)
    | _ => []
  | _ => []
def dxOf (H : Hp) : V → List Addr
  | .ref a => match H a with
    | some (.ins _ dx _) => [dx]
    | _ => []
  | _ => []
mutual
/-- the addresses that a thing takes up -/
def reach (H : Hp) : V → Tr → List Addr
  | _, .d _ => []
  | v, .n _ => adr v
  | v, .l xs => adr v ++ reachL H (lstOf H v) xs
  | v, .k kvs => adr v ++ reachK H (dkOf H v) kvs
  | v, .o _ fs => adr v ++ (dxOf H v ++ reachK H (insOf H v) fs)
def reachL (H : Hp) : List V → List Tr → List Addr
  | v :: vs, t :: ts => reach H v t ++ reachL H vs ts
  | _, _ => []
def reachK (H : Hp) : List V → List (Str × Tr) → List Addr
  | v :: vs, (_, t) :: ts => reach H v t ++ reachK H vs ts
  | _, _ => []
end
mutual
/-- a thing stands at v -/
def TreeAt (K : PySem.W.Frag) (G H : Hp) : V → Tr → Prop
  | v, .d x => Dv K G v x
  | v, .n kvs => ∃ a, v = .ref a ∧ H a = some (hoLf a (oV kvs))
  | v, .l xs => ∃ a vs, v = .ref a ∧ H a = some (.lst vs) ∧ TreesAt K G H vs xs
  | v, .k kvs => ∃ a ws, v = .ref a ∧ H a = some (.dK ws) ∧ ws.map (·.1) = kvs.map (fun p => Sum.inr p.1) ∧ TreesK K G H (ws.map (·.2)) kvs
  | v, .o c fs => ∃ a dx ws, v = .ref a ∧ H a = some (.ins (He.ga K c) dx ws) ∧ H dx = some (.own a) ∧ ws.map (·.1) = fs.map (·.1) ∧ TreesK K G H (ws.map (·.2)) fs
def TreesAt (K : PySem.W.Frag) (G H : Hp) : List V → List Tr → Prop
  | [], [] => True
  | v :: vs, t :: ts => TreeAt K G H v t ∧ TreesAt K G H vs ts
  | _, _ => False
def TreesK (K : PySem.W.Frag) (G H : Hp) : List V → List (Str × Tr) → Prop
  | [], [] => True
  | v :: vs, (_, t) :: ts => TreeAt K G H v t ∧ TreesK K G H vs ts
  | _, _ => False
end
section
variable {K : PySem.W.Frag} {G H : Hp}
mutual
theorem tree_all : ∀ (t : Tr) (v : V), TreeAt K G H v t → ∀ a, a ∈ reach H v t → H a ≠ none
  | .d x, v, h, a, ha => by simp [reach] at ha
  | .n kvs, v, h, a, ha => by
    simp only [TreeAt] at h
    obtain ⟨b, rfl, hb⟩ := h
    simp only [reach, adr, List.mem_singleton] at ha
    subst ha
    rw [hb]; exact fun z => nomatch z
  | .l xs, v, h, a, ha => by
    simp only [TreeAt] at h
    obtain ⟨b, vs, rfl, hb, ht⟩ := h
    simp only [reach, adr, lstOf, hb, List.mem_append, List.mem_singleton] at ha
    rcases ha with rfl | ha
    · rw [hb]; exact fun z => nomatch z
    · exact trees_all xs vs ht a ha
  | .k kvs, v, h, a, ha => by
    simp only [TreeAt] at h
    obtain ⟨b, ws, rfl, hb, _, ht⟩ := h
    simp only [reach, adr, dkOf, hb, List.mem_append, List.mem_singleton] at ha
    rcases ha with rfl | ha
    · rw [hb]; exact fun z => nomatch z
    · exact treesK_all kvs _ ht a ha
  | .o c fs, v, h, a, ha => by
    simp only [TreeAt] at h
    obtain ⟨b, dx, ws, rfl, hb, hd, _, ht⟩ := h
    simp only [reach, adr, insOf, dxOf, hb, List.mem_append, List.mem_singleton] at ha
    rcases ha with rfl | rfl | ha
    · rw [hb]; exact fun z => nomatch z
    · rw [hd]; exact fun z => nomatch z
    · exact treesK_all fs _ ht a ha
theorem trees_all : ∀ (ts : List Tr) (vs : List V), TreesAt K G H vs ts → ∀ a, a ∈ reachL H vs ts → H a ≠ none
  | [], [], _, a, ha => by simp [reachL] at ha
  | [], _ :: _, h, a, ha => by simp [reachL] at ha
  | _ :: _, [], h, a, ha => by simp [reachL] at ha
  | t :: ts, v :: vs, h, a, ha => by
    simp only [TreesAt] at h
    simp only [reachL, List.mem_append] at ha
    rcases ha with ha | ha
    · exact tree_all t v h.1 a ha
    · exact trees_all ts vs h.2 a ha
theorem treesK_all : ∀ (ts : List (Str × Tr)) (vs : List V), TreesK K G H vs ts → ∀ a, a ∈ reachK H vs ts → H a ≠ none
  | [], [], _, a, ha => by simp [reachK] at ha
  | [], _ :: _, h, a, ha => by simp [reachK] at ha
  | _ :: _, [], h, a, ha => by simp [reachK] at ha
  | (x, t) :: ts, v :: vs, h, a, ha => by
    simp only [TreesK] at h
    simp only [reachK, List.mem_append] at ha
    rcases ha with ha | ha
    · exact tree_all t v h.1 a ha
    · exact treesK_all ts vs h.2 a ha
end
variable {G' H' : Hp}
mutual
/-- where nothing of it is changed -/
theorem tree_keep (e : Ex G G') : ∀ (t : Tr) (v : V), TreeAt K G H v t → (∀ a, a ∈ reach H v t → H' a = H a) → TreeAt K G' H' v t ∧ reach H' v t = reach H v t
  | .d x, v, h, _ => by
    simp only [TreeAt] at h ⊢
    exact ⟨h.up e, rfl⟩
  | .n kvs, v, h, k => by
    simp only [TreeAt] at h ⊢
    obtain ⟨b, rfl, hb⟩ := h
    have := k b (by simp [reach, adr])
    exact ⟨⟨b, rfl, by rw [this]; exact hb⟩, by simp only [reach, adr]⟩
  | .l xs, v, h, k => by
    simp only [TreeAt] at h ⊢
    obtain ⟨b, vs, rfl, hb, ht⟩ := h
    simp only [reach, adr, lstOf, hb, List.mem_append, List.mem_singleton] at k
    have kb := k b (.inl rfl)
    obtain ⟨h1, h2⟩ := trees_keep e xs vs ht fun a ha => k a (.inr ha)
    exact ⟨⟨b, vs, rfl, by rw [kb]; exact hb, h1⟩, by simp only [reach, adr, lstOf, kb, hb, h2]⟩
  | .k kvs, v, h, k => by
    simp only [TreeAt] at h ⊢
    obtain ⟨b, ws, rfl, hb, hk, ht⟩ := h
    simp only [reach, adr, dkOf, hb, List.mem_append, List.mem_singleton] at k
    have kb := k b (.inl rfl)
    obtain ⟨h1, h2⟩ := treesK_keep e kvs _ ht fun a ha => k a (.inr ha)
    exact ⟨⟨b, ws, rfl, by rw [kb]; exact hb, hk, h1⟩, by simp only [reach, adr, dkOf, kb, hb, h2]⟩
  | .o c fs, v, h, k => by
    simp only [TreeAt] at h ⊢
    obtain ⟨b, dx, ws, rfl, hb, hd, hk, ht⟩ := h
    simp only [reach, adr, insOf, dxOf, hb, List.mem_append, List.mem_singleton] at k
    have kb := k b (.inl rfl)
    have kd := k dx (.inr (.inl rfl))
    obtain ⟨h1, h2⟩ := treesK_keep e fs _ ht fun a ha => k a (.inr (.inr ha))
    exact ⟨⟨b, dx, ws, rfl, by rw [kb]; exact hb, by rw [kd]; exact hd, hk, h1⟩, by simp only [reach, adr, insOf, dxOf, kb, hb, h2]⟩
theorem trees_keep (e : Ex G G') : ∀ (ts : List Tr) (vs : List V), TreesAt K G H vs ts → (∀ a, a ∈ reachL H vs ts → H' a = H a) → TreesAt K G' H' vs ts ∧ reachL H' vs ts = reachL H vs ts
  | [], [], _, _ => by simp [TreesAt, reachL]
  | [], _ :: _, h, _ => by simp [TreesAt] at h
  | _ :: _, [], h, _ => by simp [TreesAt] at h
  | t :: ts, v :: vs, h, k => by
    simp only [TreesAt] at h ⊢
    simp only [reachL, List.mem_append] at k
    obtain ⟨a1, a2⟩ := tree_keep e t v h.1 fun a ha => k a (.inl ha)
    obtain ⟨b1, b2⟩ := trees_keep e ts vs h.2 fun a ha => k a (.inr ha)
    exact ⟨⟨a1, b1⟩, by simp only [reachL, a2, b2]⟩
theorem treesK_keep (e : Ex G G') : ∀ (ts : List (Str × Tr)) (vs : List V), TreesK K G H vs ts → (∀ a, a ∈ reachK H vs ts → H' a = H a) → TreesK K G' H' vs ts ∧ reachK H' vs ts = reachK H vs ts
  | [], [], _, _ => by simp [TreesK, reachK]
  | [], _ :: _, h, _ => by simp [TreesK] at h
  | _ :: _, [], h, _ => by simp [TreesK] at h
  | (x, t) :: ts, v :: vs, h, k => by
    simp only [TreesK] at h ⊢
    simp only [reachK, List.mem_append] at k
    obtain ⟨a1, a2⟩ := tree_keep e t v h.1 fun a ha => k a (.inl ha)
    obtain ⟨b1, b2⟩ := treesK_keep e ts vs h.2 fun a ha => k a (.inr ha)
    exact ⟨⟨a1, b1⟩, by simp only [reachK, a2, b2]⟩
end
end
/-- a thing of one's own stands at a slot's value -/
def TSl (K : PySem.W.Frag) (G H : Hp) (T : Tr) (o : Option V) : Prop := ∃ v, o = some v ∧ TreeAt K G H v T ∧ (reach H v T).Nodup ∧ ∀ a, a ∈ reach H v T → G a = none
/-- what a slot's word says of its value -/
def RS (K : PySem.W.Frag) (G H : Hp) (s : Sl) (o : Option V) : Prop := match s with
  | .no => True
  | .v d => ∃ v, o = some v ∧ Dv K G v d
  | .l xs => ∃ a vs, o = some (.ref a) ∧ H a = some (.lst vs) ∧ G a = none ∧ DvAll K G vs xs
  | .p xs => ∃ a vs, o = some (.ref a) ∧ H a = some (.lst vs) ∧ G a = none ∧ DvAll K G vs xs
  | .m kvs => ∃ a vs, o = some (.ref a) ∧ H a = some (.dK vs) ∧ G a = none ∧ DvKv K G vs kvs
  | .n kvs => ∃ a, o = some (.ref a) ∧ G a = some (hoLf a (kvs.map fun kv => (kv.1, oiV kv.2)))
  | .f x => o = some (.ref (He.ga K x))
  | .a b d f => o = some (.ref b) ∧ XD K G d f
  | .t T => TSl K G H T o
  | .u T => TSl K G H T o
/-- what a slot owns -/
def OwnS (H : Hp) (s : Sl) (o : Option V) (a : Addr) : Prop := match s with
  | .l _ => o = some (.ref a)
  | .p _ => o = some (.ref a)
  | .m _ => o = some (.ref a)
  | .t T => ∃ v, o = some v ∧ a ∈ reach H v T
  | .u T => ∃ v, o = some v ∧ a ∈ reach H v T
  | _ => False
/-- slot i owns the object at a -/
def OwnAt (env : DEnv) (σ : St) (H : Hp) (i : Nat) (a : Addr) : Prop := ∃ s o, env[i]? = some s ∧ σ[i]? = some o ∧ OwnS H s o a
def Own (env : DEnv) (σ : St) (H : Hp) (a : Addr) : Prop := ∃ i, OwnAt env σ H i a
theorem OwnS.lst {H : Hp} {s : Sl} {a : Addr} (h : s.lst = true) : OwnS H s (some (.ref a)) a := by cases s <;> first | rfl | cases h
theorem OwnS.own {H : Hp} {s : Sl} {o : Option V} {a : Addr} (h : OwnS H s o a) : s.own = true := by cases s <;> first | rfl | exact h.elim
theorem OwnAt.of {env : DEnv} {σ : St} {H : Hp} {i : Nat} {a : Addr} {s : Sl} (e : env[i]? = some s) (h : s.lst = true) (o : σ[i]? = some (some (.ref a))) : OwnAt env σ H i a := ⟨s, _, e, o, OwnS.lst h⟩
/-- a slot where nothing of its own is changed -/
theorem RS.move {K : PySem.W.Frag} {G H G' H' : Hp} {s : Sl} {o : Option V} (h : RS K G H s o) (e : Ex G G') (k : ∀ a, OwnS H s o a → H' a = H a) (g : ∀ a, OwnS H s o a → G' a = none) : RS K G' H' s o ∧ ∀ a, OwnS H' s o a ↔ OwnS H s o a := by
  cases s with
  | no => exact ⟨trivial, fun _ => Iff.rfl⟩
  | v d => obtain ⟨v, q, h⟩ := h; exact ⟨⟨v, q, h.up e⟩, fun _ => Iff.rfl⟩
  | l xs => obtain ⟨a, vs, q, h1, h2, h3⟩ := h; exact ⟨⟨a, vs, q, by rw [k a q]; exact h1, g a q, h3.up e⟩, fun _ => Iff.rfl⟩
  | p xs => obtain ⟨a, vs, q, h1, h2, h3⟩ := h; exact ⟨⟨a, vs, q, by rw [k a q]; exact h1, g a q, h3.up e⟩, fun _ => Iff.rfl⟩
  | m xs => obtain ⟨a, vs, q, h1, h2, h3⟩ := h; exact ⟨⟨a, vs, q, by rw [k a q]; exact h1, g a q, h3.up e⟩, fun _ => Iff.rfl⟩
  | n xs => obtain ⟨a, q, h1⟩ := h; exact ⟨⟨a, q, e _ _ h1⟩, fun _ => Iff.rfl⟩
  | f x => exact ⟨h, fun _ => Iff.rfl⟩
  | a x _ _ => exact ⟨⟨h.1, h.2.up e⟩, fun _ => Iff.rfl⟩
  | t T =>
    obtain ⟨v, rfl, h1, h2, h3⟩ := h
    obtain ⟨k1, k2⟩ := tree_keep (K := K) e T v h1 fun a ha => k a ⟨v, rfl, ha⟩
    refine ⟨⟨v, rfl, k1, by rw [k2]; exact h2, fun a ha => g a ⟨v, rfl, by rw [← k2]; exact ha⟩⟩, fun a => ?_⟩
    show (∃ w, some v = some w ∧ a ∈ reach H' w T) ↔ ∃ w, some v = some w ∧ a ∈ reach H w T
    constructor <;> (rintro ⟨w, q, hw⟩; cases q; exact ⟨v, rfl, by first | (rw [← k2]; exact hw) | (rw [k2]; exact hw)⟩)
  | u T =>
    obtain ⟨v, rfl, h1, h2, h3⟩ := h
    obtain ⟨k1, k2⟩ := tree_keep (K := K) e T v h1 fun a ha => k a ⟨v, rfl, ha⟩
    refine ⟨⟨v, rfl, k1, by rw [k2]; exact h2, fun a ha => g a ⟨v, rfl, by rw [← k2]; exact ha⟩⟩, fun a => ?_⟩
    show (∃ w, some v = some w ∧ a ∈ reach H' w T) ↔ ∃ w, some v = some w ∧ a ∈ reach H w T
    constructor <;> (rintro ⟨w, q, hw⟩; cases q; exact ⟨v, rfl, by first | (rw [← k2]; exact hw) | (rw [k2]; exact hw)⟩)
/-- what is owned is there -/
theorem RS.there {K : PySem.W.Frag} {G H : Hp} {s : Sl} {o : Option V} (h : RS K G H s o) {a : Addr} (w : OwnS H s o a) : H a ≠ none ∧ G a = none := by
  have one : ∀ {b : Addr} {u : HO}, o = some (.ref b) → H b = some u → G b = none → o = some (.ref a) → H a ≠ none ∧ G a = none := fun {b u} e1 e2 e3 e4 => by
    rw [e1] at e4
    cases e4
    exact ⟨fun z => (by rw [z] at e2; cases e2), e3⟩
  cases s with
  | no => exact w.elim
  | v d => exact w.elim
  | n d => exact w.elim
  | f d => exact w.elim
  | a _ _ _ => exact w.elim
  | l xs => obtain ⟨b, vs, e1, e2, e3, _⟩ := h; exact one e1 e2 e3 w
  | p xs => obtain ⟨b, vs, e1, e2, e3, _⟩ := h; exact one e1 e2 e3 w
  | m xs => obtain ⟨b, vs, e1, e2, e3, _⟩ := h; exact one e1 e2 e3 w
  | t T =>
    obtain ⟨v, rfl, h1, _, h3⟩ := h
    obtain ⟨v', q, w⟩ := w
    cases q
    exact ⟨tree_all T v h1 a w, h3 a w⟩
  | u T =>
    obtain ⟨v, rfl, h1, _, h3⟩ := h
    obtain ⟨v', q, w⟩ := w
    cases q
    exact ⟨tree_all T v h1 a w, h3 a w⟩
structure Rel (K : PySem.W.Frag) (env : DEnv) (σ : St) (G H : Hp) : Prop where
  ex : Ex G H
  len : env.length = σ.length
  slot : ∀ (i : Nat) (s : Sl) (o : Option V), env[i]? = some s → σ[i]? = some o → RS K G H s o
  dist : ∀ (i j : Nat) (a : Addr), OwnAt env σ H i a → OwnAt env σ H j a → i = j
structure Fr (env : DEnv) (σ : St) (G H : Hp) (env' : DEnv) (σ' : St) (G' H' : Hp) : Prop where
  gg : Ex G G'
  keep : ∀ a o, H a = some o → ¬ Own env σ H a → H' a = some o
  dom : ∀ a, H' a = none → H a = none
  fresh : ∀ a, G' a ≠ none → G a ≠ none ∨ H a = none ∨ Own env σ H a
  own : ∀ a, Own env' σ' H' a → Own env σ H a ∨ H a = none
  par : ∀ (i : Nat) (s : Sl), env'[i]? = some s → s.pk ≠ 0 → σ'[i]? = σ[i]? ∧ ∃ s0, env[i]? = some s0 ∧ s0.pk = s.pk
theorem Fr.refl (env : DEnv) (σ : St) (G H : Hp) : Fr env σ G H env σ G H :=
  ⟨Ex.refl _, fun _ _ h _ => h, fun _ h => h, fun _ h => .inl h, fun _ h => .inl h, fun _ s h _ => ⟨rfl, s, h, rfl⟩⟩
theorem Fr.trans {e0 e1 e2 : DEnv} {s0 s1 s2 : St} {G0 G1 G2 H0 H1 H2 : Hp} (x : Fr e0 s0 G0 H0 e1 s1 G1 H1) (y : Fr e1 s1 G1 H1 e2 s2 G2 H2) : Fr e0 s0 G0 H0 e2 s2 G2 H2 where
  gg := x.gg.trans y.gg
  keep := fun a o h n => y.keep a o (x.keep a o h n) fun q => by
    rcases x.own a q with q | q
    · exact n q
    · rw [q] at h; cases h
  dom := fun a h => x.dom a (y.dom a h)
  fresh := fun a h => by
    rcases y.fresh a h with q | q | q
    · exact x.fresh a q
    · exact .inr (.inl (x.dom a q))
    · rcases x.own a q with q | q
      · exact .inr (.inr q)
      · exact .inr (.inl q)
  own := fun a h => by
    rcases y.own a h with q | q
    · exact x.own a q
    · exact .inr (x.dom a q)
  par := fun i s h n => by
    obtain ⟨a, t, b, c⟩ := y.par i s h n
    obtain ⟨a2, t2, b2, c2⟩ := x.par i t b (by rw [c]; exact n)
    exact ⟨a.trans a2, t2, b2, c2.trans c⟩
theorem OwnAt.there {K : PySem.W.Frag} {env : DEnv} {σ : St} {G H : Hp} (R : Rel K env σ G H) {i : Nat} {a : Addr} (h : OwnAt env σ H i a) : H a ≠ none ∧ G a = none := by
  obtain ⟨s, o, e, q, w⟩ := h
  exact (R.slot i s o e q).there w
theorem Own.there {K : PySem.W.Frag} {env : DEnv} {σ : St} {G H : Hp} (R : Rel K env σ G H) {a : Addr} (h : Own env σ H a) : H a ≠ none ∧ G a = none := let ⟨_, q⟩ := h; q.there R
/-- what is owned stays owned where nothing of it is changed -/
theorem OwnAt.move {K : PySem.W.Frag} {env : DEnv} {σ : St} {G H G' H' : Hp} (R : Rel K env σ G H) {i : Nat} (e : Ex G G') (k : ∀ b, OwnAt env σ H i b → H' b = H b) (g : ∀ b, OwnAt env σ H i b → G' b = none) {a : Addr} : OwnAt env σ H' i a ↔ OwnAt env σ H i a := by
  constructor
  · rintro ⟨s, o, e1, e2, w⟩
    exact ⟨s, o, e1, e2, (((R.slot i s o e1 e2).move e (fun b hb => k b ⟨s, o, e1, e2, hb⟩) (fun b hb => g b ⟨s, o, e1, e2, hb⟩)).2 a).1 w⟩
  · rintro ⟨s, o, e1, e2, w⟩
    exact ⟨s, o, e1, e2, (((R.slot i s o e1 e2).move e (fun b hb => k b ⟨s, o, e1, e2, hb⟩) (fun b hb => g b ⟨s, o, e1, e2, hb⟩)).2 a).2 w⟩
/-- all slots stand where nothing of theirs is changed -/
theorem Rel.move {K : PySem.W.Frag} {env : DEnv} {σ : St} {G H G' H' : Hp} (R : Rel K env σ G H) (ex : Ex G' H') (e : Ex G G') (k : ∀ a, Own env σ H a → H' a = H a) (g : ∀ a, Own env σ H a → G' a = none) : Rel K env σ G' H' ∧ ∀ i a, OwnAt env σ H' i a ↔ OwnAt env σ H i a := by
  have m : ∀ i a, OwnAt env σ H' i a ↔ OwnAt env σ H i a := fun i a => OwnAt.move R e (fun b h => k b ⟨i, h⟩) fun b h => g b ⟨i, h⟩
  exact ⟨⟨ex, R.len, fun i s o e1 e2 => ((R.slot i s o e1 e2).move e (fun a w => k a ⟨i, s, o, e1, e2, w⟩) fun a w => g a ⟨i, s, o, e1, e2, w⟩).1, fun i j a x y => R.dist i j a ((m i a).1 x) ((m j a).1 y)⟩, m⟩
/-- only new things that stand still come -/
structure Grow (G H G' H' : Hp) : Prop where
  gg : Ex G G'
  hh : Ex H H'
  ex : Ex G' H'
  fresh : ∀ a, G' a ≠ none → G a ≠ none ∨ H a = none
theorem Grow.refl {G H : Hp} (e : Ex G H) : Grow G H G H := ⟨Ex.refl _, Ex.refl _, e, fun _ h => .inl h⟩
theorem Grow.one {G H : Hp} {p : Addr} {o : HO} (e : Ex G H) (h : H p = none) : Grow G H (upd G p o) (upd H p o) :=
  ⟨Ex.new (e.none h), Ex.new h, e.both, fun a q => by
    by_cases hp : a = p
    · subst hp; exact .inr h
    · rw [upd_ne hp] at q; exact .inl q⟩
theorem Grow.trans {G H G1 H1 G2 H2 : Hp} (a : Grow G H G1 H1) (b : Grow G1 H1 G2 H2) : Grow G H G2 H2 :=
  ⟨a.gg.trans b.gg, a.hh.trans b.hh, b.ex, fun x q => by
    rcases b.fresh x q with z | z
    · exact a.fresh x z
    · exact .inr (a.hh.none z)⟩
theorem Grow.nn {G H G' H' : Hp} (g : Grow G H G' H') {a : Addr} (h1 : H a ≠ none) (h2 : G a = none) : G' a = none := by
  cases q : G' a with
  | none => rfl
  | some z =>
    rcases g.fresh a (by rw [q]; exact fun z => by cases z) with y | y
    · exact absurd h2 y
    · exact absurd y h1
theorem Grow.hs {G H G' H' : Hp} (g : Grow G H G' H') {a : Addr} (h1 : H a ≠ none) : H' a = H a := by
  cases q : H a with
  | none => exact absurd q h1
  | some o => exact g.hh _ _ q
theorem RS.grow {K : PySem.W.Frag} {G H G' H' : Hp} (g : Grow G H G' H') {s : Sl} {o : Option V} (h : RS K G H s o) : RS K G' H' s o :=
  (h.move g.gg (fun a w => g.hs (h.there w).1) fun a w => g.nn (h.there w).1 (h.there w).2).1
theorem Rel.growO {K : PySem.W.Frag} {env : DEnv} {σ : St} {G H G' H' : Hp} (R : Rel K env σ G H) (g : Grow G H G' H') : Rel K env σ G' H' ∧ ∀ i a, OwnAt env σ H' i a ↔ OwnAt env σ H i a :=
  R.move g.ex g.gg (fun _ w => g.hs (w.there R).1) fun _ w => g.nn (w.there R).1 (w.there R).2
theorem Rel.grow {K : PySem.W.Frag} {env : DEnv} {σ : St} {G H G' H' : Hp} (R : Rel K env σ G H) (g : Grow G H G' H') : Rel K env σ G' H' := (R.growO g).1
theorem Grow.fr {K : PySem.W.Frag} {env : DEnv} {σ : St} {G H G' H' : Hp} (g : Grow G H G' H') (R : Rel K env σ G H) : Fr env σ G H env σ G' H' :=
  ⟨g.gg, fun a o h _ => g.hh a o h, fun a h => g.hh.none h, fun a h => (g.fresh a h).elim .inl fun z => .inr (.inl z), fun a h => .inl (let ⟨i, w⟩ := h; ⟨i, ((R.growO g).2 i a).1 w⟩), fun _ s h _ => ⟨rfl, s, h, rfl⟩⟩
/-- one slot is put otherwise -/
theorem Rel.put {K : PySem.W.Frag} {env : DEnv} {σ σ' : St} {G H G' H' : Hp} {i : Nat} {s1 : Sl} {o1 : Option V} (R : Rel K env σ G H) (li : i < env.length) (hl : σ'.length = σ.length) (hs : σ'[i]? = some o1) (hn : ∀ j, j ≠ i → σ'[j]? = σ[j]?) (ex : Ex G' H') (e : Ex G G')
    (k : ∀ j a, j ≠ i → OwnAt env σ H j a → H' a = H a ∧ G' a = none) (n : RS K G' H' s1 o1) (d : ∀ a, OwnS H' s1 o1 a → ∀ j, j ≠ i → ¬ OwnAt env σ H j a) :
    Rel K (env.set i s1) σ' G' H' ∧ (∀ a, OwnAt (env.set i s1) σ' H' i a ↔ OwnS H' s1 o1 a) ∧ ∀ j a, j ≠ i → (OwnAt (env.set i s1) σ' H' j a ↔ OwnAt env σ H j a) := by
  have m : ∀ a, OwnAt (env.set i s1) σ' H' i a ↔ OwnS H' s1 o1 a := fun a => by
    constructor
    · rintro ⟨s, o, e1, e2, w⟩
      rw [List.getElem?_set_self li] at e1
      rw [hs] at e2
      cases e1; cases e2
      exact w
    · exact fun w => ⟨_, _, List.getElem?_set_self li, hs, w⟩
  have m2 : ∀ j a, j ≠ i → (OwnAt (env.set i s1) σ' H' j a ↔ OwnAt env σ H j a) := fun j a ne => by
    rw [← OwnAt.move R (i := j) e (fun b h => (k j b ne h).1) (fun b h => (k j b ne h).2)]
    constructor
    · rintro ⟨s, o, e1, e2, w⟩
      rw [List.getElem?_set_ne (Ne.symm ne)] at e1
      rw [hn j ne] at e2
      exact ⟨s, o, e1, e2, w⟩
    · rintro ⟨s, o, e1, e2, w⟩
      exact ⟨s, o, by rw [List.getElem?_set_ne (Ne.symm ne)]; exact e1, by rw [hn j ne]; exact e2, w⟩
  refine ⟨⟨ex, by rw [List.length_set, hl]; exact R.len, fun j s o e1 e2 => ?_, fun j l a x y => ?_⟩, m, m2⟩
  · by_cases z : j = i
    · subst z
      rw [List.getElem?_set_self li] at e1
      rw [hs] at e2
      cases e1; cases e2
      exact n
    · rw [List.getElem?_set_ne (Ne.symm z)] at e1
      rw [hn j z] at e2
      exact ((R.slot j s o e1 e2).move e (fun a w => (k j a z ⟨s, o, e1, e2, w⟩).1) fun a w => (k j a z ⟨s, o, e1, e2, w⟩).2).1
  · by_cases z : j = i
    · subst z
      by_cases z2 : l = j
      · exact z2.symm
      · exact absurd ((m2 l a z2).1 y) (d a ((m a).1 x) l z2)
    · by_cases z2 : l = i
      · subst z2
        exact absurd ((m2 j a z).1 x) (d a ((m a).1 y) j z)
      · exact R.dist j l a ((m2 j a z).1 x) ((m2 l a z2).1 y)
theorem Fr.put {K : PySem.W.Frag} {env : DEnv} {σ σ' : St} {G H G' H' : Hp} {i : Nat} {s1 : Sl} {o1 : Option V} (R : Rel K env σ G H) (li : i < env.length) (hs : σ'[i]? = some o1) (hn : ∀ j, j ≠ i → σ'[j]? = σ[j]?) (e : Ex G G')
    (k : ∀ j a, j ≠ i → OwnAt env σ H j a → H' a = H a ∧ G' a = none) (keep : ∀ a o, H a = some o → ¬ Own env σ H a → H' a = some o) (dom : ∀ a, H' a = none → H a = none) (fresh : ∀ a, G' a ≠ none → G a ≠ none ∨ H a = none ∨ Own env σ H a)
    (own : ∀ a, OwnS H' s1 o1 a → Own env σ H a ∨ H a = none) (par : s1.pk ≠ 0 → σ'[i]? = σ[i]? ∧ ∃ s0, env[i]? = some s0 ∧ s0.pk = s1.pk) : Fr env σ G H (env.set i s1) σ' G' H' := by
  refine ⟨e, keep, dom, fresh, fun a ⟨j, w⟩ => ?_, fun j s h n => ?_⟩
  · obtain ⟨s, o, e1, e2, w⟩ := w
    by_cases z : j = i
    · subst z
      rw [List.getElem?_set_self li] at e1
      rw [hs] at e2
      cases e1; cases e2
      exact own a w
    · rw [List.getElem?_set_ne (Ne.symm z)] at e1
      rw [hn j z] at e2
      exact .inl ⟨j, (OwnAt.move R (i := j) e (fun b h => (k j b z h).1) (fun b h => (k j b z h).2)).1 ⟨s, o, e1, e2, w⟩⟩
  · by_cases z : j = i
    · subst z
      rw [List.getElem?_set_self li] at h
      cases h
      exact par n
    · rw [List.getElem?_set_ne (Ne.symm z)] at h
      exact ⟨hn j z, s, h, rfl⟩
/-- an exception by data -/
def XRel (K : PySem.W.Frag) (mg : Str → Option Value) (x : Xc) (cls : Value) (dd : Option Addr) (G H : Hp) : Prop :=
  mg x.c = some cls ∧ XD K G dd x.f
section
variable (K : PySem.W.Frag) (mg : Str → Option Value) (W : WX)
def RunX (env : DEnv) (σ : St) (G H : Hp) (x : Xc) (env' : DEnv) : Prop :=
  ∀ cls dd G' H', XRel K mg x cls dd G' H' → Rel K env' σ G' H' → Fr env σ G H env' σ G' H' → W cls dd σ H'
def RunE (env : DEnv) (σ : St) (G H : Hp) (r : Rs D) (Q : VK) : Prop := match r with
  | .ok d env' => ∀ v G' H', Rel K env' σ G' H' → Dv K G' v d → Fr env σ G H env' σ G' H' → Q v H'
  | .ex x env' => RunX K mg W env σ G H x env'
  | .stuck => False
def RunT (env : DEnv) (σ : St) (G H : Hp) (r : Rs Bool) (Q : Bool → Hp → Prop) : Prop := match r with
  | .ok b env' => ∀ G' H', Rel K env' σ G' H' → Fr env σ G H env' σ G' H' → Q b H'
  | .ex x env' => RunX K mg W env σ G H x env'
  | .stuck => False
def RunA (env : DEnv) (σ : St) (G H : Hp) (r : Rs (List D)) (Q : List V → Hp → Prop) : Prop := match r with
  | .ok ds env' => ∀ vs G' H', Rel K env' σ G' H' → DvAll K G' vs ds → Fr env σ G H env' σ G' H' → Q vs H'
  | .ex x env' => RunX K mg W env σ G H x env'
  | .stuck => False
/-- a list that nobody else holds -/
def RunL (env : DEnv) (σ : St) (G H : Hp) (r : Rs (List D)) (Q : VK) : Prop := match r with
  | .ok ds env' => ∀ a vs G' H', Rel K env' σ G' H' → H' a = some (.lst vs) → G' a = none → H a = none → ¬ Own env' σ H' a → DvAll K G' vs ds → Fr env σ G H env' σ G' H' → Q (.ref a) H'
  | .ex x env' => RunX K mg W env σ G H x env'
  | .stuck => False
def rdE (de : DE) : TE := fun σ H Q => ∃ env G, Rel K env σ G H ∧ RunE K mg W env σ G H (de env) Q
def rdT (de : DT) : TT := fun σ H Q => ∃ env G, Rel K env σ G H ∧ RunT K mg W env σ G H (de env) Q
def rdA (de : DA) : TA := fun σ H Q => ∃ env G, Rel K env σ G H ∧ RunA K mg W env σ G H (de env) Q
def rdL (de : DA) : TE := fun σ H Q => ∃ env G, Rel K env σ G H ∧ RunL K mg W env σ G H (de env) Q
end
section
variable {K : PySem.W.Frag} {mg : Str → Option Value} {W : WX} {env env1 : DEnv} {σ : St} {G H G1 H1 : Hp}
theorem RunX.shift {x : Xc} {env' : DEnv} (h : RunX K mg W env σ G H x env') (f : Fr env σ G H env1 σ G1 H1) : RunX K mg W env1 σ G1 H1 x env' :=
  fun cls dd G' H' a b c => h cls dd G' H' a b (f.trans c)
theorem RunE.shift {r : Rs D} {Q : VK} (h : RunE K mg W env σ G H r Q) (f : Fr env σ G H env1 σ G1 H1) : RunE K mg W env1 σ G1 H1 r Q := by
  cases r with
  | ok d e => exact fun v G' H' a b c => h v G' H' a b (f.trans c)
  | ex x e => exact RunX.shift h f
  | stuck => exact h
theorem RunT.shift {r : Rs Bool} {Q : Bool → Hp → Prop} (h : RunT K mg W env σ G H r Q) (f : Fr env σ G H env1 σ G1 H1) : RunT K mg W env1 σ G1 H1 r Q := by
  cases r with
  | ok d e => exact fun G' H' a c => h G' H' a (f.trans c)
  | ex x e => exact RunX.shift h f
  | stuck => exact h
theorem RunA.shift {r : Rs (List D)} {Q : List V → Hp → Prop} (h : RunA K mg W env σ G H r Q) (f : Fr env σ G H env1 σ G1 H1) : RunA K mg W env1 σ G1 H1 r Q := by
  cases r with
  | ok d e => exact fun v G' H' a b c => h v G' H' a b (f.trans c)
  | ex x e => exact RunX.shift h f
  | stuck => exact h
theorem RunL.shift {r : Rs (List D)} {Q : VK} (h : RunL K mg W env σ G H r Q) (f : Fr env σ G H env1 σ G1 H1) : RunL K mg W env1 σ G1 H1 r Q := by
  cases r with
  | ok d e => exact fun a vs G' H' R h1 h2 h3 h4 h5 h6 => h a vs G' H' R h1 h2 (f.dom a h3) h4 h5 (f.trans h6)
  | ex x e => exact RunX.shift h f
  | stuck => exact h
/-- an expression, then the rest -/
theorem E_then {de : DE} {β : Type} {f : D → DEnv → Rs β} {R : VK} (hR : Rel K env σ G H) {P : DEnv → St → Hp → Hp → Rs β → Prop}
    (h : P env σ G H ((de env).bind f)) (hx : ∀ x e, P env σ G H (.ex x e) → RunX K mg W env σ G H x e) (hst : ¬ P env σ G H .stuck)
    (hsh : ∀ e1 G1 H1 r, P env σ G H r → Fr env σ G H e1 σ G1 H1 → P e1 σ G1 H1 r)
    (k : ∀ d e1 v G1 H1, de env = .ok d e1 → Rel K e1 σ G1 H1 → Dv K G1 v d → Fr env σ G H e1 σ G1 H1 → P e1 σ G1 H1 (f d e1) → R v H1) : rdE K mg W de σ H R := by
  refine ⟨env, G, hR, ?_⟩
  cases q : de env with
  | ok d e1 =>
    rw [q] at h
    exact fun v G1 H1 a b c => k d e1 v G1 H1 q a b c (hsh _ _ _ _ h c)
  | ex x e => rw [q] at h; exact hx x e h
  | stuck => rw [q] at h; exact (hst h).elim
theorem E_thenE {de : DE} {f : D → DEnv → Rs D} {Q R : VK} (hR : Rel K env σ G H) (h : RunE K mg W env σ G H ((de env).bind f) Q)
    (k : ∀ d e1 v G1 H1, de env = .ok d e1 → Rel K e1 σ G1 H1 → Dv K G1 v d → Fr env σ G H e1 σ G1 H1 → RunE K mg W e1 σ G1 H1 (f d e1) Q → R v H1) : rdE K mg W de σ H R :=
  E_then hR (P := fun e s G H r => RunE K mg W e s G H r Q) h (fun _ _ z => z) (fun z => z) (fun _ _ _ _ a b => a.shift b) k
theorem E_thenT {de : DE} {f : D → DEnv → Rs Bool} {Q : Bool → Hp → Prop} {R : VK} (hR : Rel K env σ G H) (h : RunT K mg W env σ G H ((de env).bind f) Q)
    (k : ∀ d e1 v G1 H1, de env = .ok d e1 → Rel K e1 σ G1 H1 → Dv K G1 v d → Fr env σ G H e1 σ G1 H1 → RunT K mg W e1 σ G1 H1 (f d e1) Q → R v H1) : rdE K mg W de σ H R :=
  E_then hR (P := fun e s G H r => RunT K mg W e s G H r Q) h (fun _ _ z => z) (fun z => z) (fun _ _ _ _ a b => a.shift b) k
theorem E_thenA {de : DE} {f : D → DEnv → Rs (List D)} {Q : List V → Hp → Prop} {R : VK} (hR : Rel K env σ G H) (h : RunA K mg W env σ G H ((de env).bind f) Q)
    (k : ∀ d e1 v G1 H1, de env = .ok d e1 → Rel K e1 σ G1 H1 → Dv K G1 v d → Fr env σ G H e1 σ G1 H1 → RunA K mg W e1 σ G1 H1 (f d e1) Q → R v H1) : rdE K mg W de σ H R :=
  E_then hR (P := fun e s G H r => RunA K mg W e s G H r Q) h (fun _ _ z => z) (fun z => z) (fun _ _ _ _ a b => a.shift b) k
theorem E_thenL {de : DE} {f : D → DEnv → Rs (List D)} {Q R : VK} (hR : Rel K env σ G H) (h : RunL K mg W env σ G H ((de env).bind f) Q)
    (k : ∀ d e1 v G1 H1, de env = .ok d e1 → Rel K e1 σ G1 H1 → Dv K G1 v d → Fr env σ G H e1 σ G1 H1 → RunL K mg W e1 σ G1 H1 (f d e1) Q → R v H1) : rdE K mg W de σ H R :=
  E_then hR (P := fun e s G H r => RunL K mg W e s G H r Q) h (fun _ _ z => z) (fun z => z) (fun _ _ _ _ a b => a.shift b) k
theorem A_then {de : DA} {β : Type} {f : List D → DEnv → Rs β} {R : List V → Hp → Prop} (hR : Rel K env σ G H) {P : DEnv → St → Hp → Hp → Rs β → Prop}
    (h : P env σ G H ((de env).bind f)) (hx : ∀ x e, P env σ G H (.ex x e) → RunX K mg W env σ G H x e) (hst : ¬ P env σ G H .stuck)
    (hsh : ∀ e1 G1 H1 r, P env σ G H r → Fr env σ G H e1 σ G1 H1 → P e1 σ G1 H1 r)
    (k : ∀ d e1 v G1 H1, de env = .ok d e1 → Rel K e1 σ G1 H1 → DvAll K G1 v d → Fr env σ G H e1 σ G1 H1 → P e1 σ G1 H1 (f d e1) → R v H1) : rdA K mg W de σ H R := by
  refine ⟨env, G, hR, ?_⟩
  cases q : de env with
  | ok d e1 =>
    rw [q] at h
    exact fun v G1 H1 a b c => k d e1 v G1 H1 q a b c (hsh _ _ _ _ h c)
  | ex x e => rw [q] at h; exact hx x e h
  | stuck => rw [q] at h; exact (hst h).elim
theorem A_thenE {de : DA} {f : List D → DEnv → Rs D} {Q : VK} {R : List V → Hp → Prop} (hR : Rel K env σ G H) (h : RunE K mg W env σ G H ((de env).bind f) Q)
    (k : ∀ d e1 v G1 H1, de env = .ok d e1 → Rel K e1 σ G1 H1 → DvAll K G1 v d → Fr env σ G H e1 σ G1 H1 → RunE K mg W e1 σ G1 H1 (f d e1) Q → R v H1) : rdA K mg W de σ H R :=
  A_then hR (P := fun e s G H r => RunE K mg W e s G H r Q) h (fun _ _ z => z) (fun z => z) (fun _ _ _ _ a b => a.shift b) k
theorem A_thenA {de : DA} {f : List D → DEnv → Rs (List D)} {Q R : List V → Hp → Prop} (hR : Rel K env σ G H) (h : RunA K mg W env σ G H ((de env).bind f) Q)
    (k : ∀ d e1 v G1 H1, de env = .ok d e1 → Rel K e1 σ G1 H1 → DvAll K G1 v d → Fr env σ G H e1 σ G1 H1 → RunA K mg W e1 σ G1 H1 (f d e1) Q → R v H1) : rdA K mg W de σ H R :=
  A_then hR (P := fun e s G H r => RunA K mg W e s G H r Q) h (fun _ _ z => z) (fun z => z) (fun _ _ _ _ a b => a.shift b) k
theorem A_thenL {de : DA} {f : List D → DEnv → Rs (List D)} {Q : VK} {R : List V → Hp → Prop} (hR : Rel K env σ G H) (h : RunL K mg W env σ G H ((de env).bind f) Q)
    (k : ∀ d e1 v G1 H1, de env = .ok d e1 → Rel K e1 σ G1 H1 → DvAll K G1 v d → Fr env σ G H e1 σ G1 H1 → RunL K mg W e1 σ G1 H1 (f d e1) Q → R v H1) : rdA K mg W de σ H R :=
  A_then hR (P := fun e s G H r => RunL K mg W e s G H r Q) h (fun _ _ z => z) (fun z => z) (fun _ _ _ _ a b => a.shift b) k
theorem RunE.grow {d : D} {Q : VK} (h : RunE K mg W env σ G H (.ok d env) Q) (R : Rel K env σ G H) {v : V} (g : Grow G H G1 H1) (dp : Dv K G1 v d) : Q v H1 := h v G1 H1 (R.grow g) dp (g.fr R)
end
theorem pe_imp {X : Cx} {e : Expr} {t t' : TE} (h : PE X e t) (k : ∀ σ H Q, t' σ H Q → t σ H Q) : PE X e t' := ⟨fun pins s σ H Q I w => h.run pins s σ H Q I (k σ H Q w)⟩
theorem pt_imp {X : Cx} {e : Expr} {t t' : TT} (h : PT X e t) (k : ∀ σ H Q, t' σ H Q → t σ H Q) : PT X e t' := ⟨fun pins s σ H Q I w => h.run pins s σ H Q I (k σ H Q w)⟩
theorem pw_imp {X : Cx} {e : Expr} {t t' : TT} (h : PW X e t) (k : ∀ σ H Q, t' σ H Q → t σ H Q) : PW X e t' := ⟨fun wh pins s σ H Q I w => h.run wh pins s σ H Q I (k σ H Q w)⟩
theorem pa_imp {X : Cx} {e : List Expr} {t t' : TA} (h : PA X e t) (k : ∀ σ H Q, t' σ H Q → t σ H Q) : PA X e t' := ⟨fun pos pins s σ H Q I w => h.run pos pins s σ H Q I (k σ H Q w)⟩
theorem ps_imp {X : Cx} {e : Stmt} {t t' : TS} (h : PS X e t) (k : ∀ D σ H, t' D σ H → t D σ H) : PS X e t' := ⟨fun pins s σ H D I w => h.run pins s σ H D I (k D σ H w)⟩
theorem pss_imp {X : Cx} {e : List Stmt} {t t' : TS} (h : PSs X e t) (k : ∀ D σ H, t' D σ H → t D σ H) : PSs X e t' := ⟨fun pins s σ H D I w => h.run pins s σ H D I (k D σ H w)⟩
abbrev CE (X : Cx) (W : WX) (e : Expr) (de : DE) : Prop := PE X e (rdE X.K X.mg W de)
abbrev CT (X : Cx) (W : WX) (e : Expr) (de : DT) : Prop := PT X e (rdT X.K X.mg W de)
abbrev CW (X : Cx) (W : WX) (e : Expr) (de : DT) : Prop := PW X e (rdT X.K X.mg W de)
abbrev CA (X : Cx) (W : WX) (es : List Expr) (de : DA) : Prop := PA X es (rdA X.K X.mg W de)
abbrev CL (X : Cx) (W : WX) (e : Expr) (de : DA) : Prop := PE X e (rdL X.K X.mg W de)
end DL
set_option Elab.async false
set_option linter.all false
set_option maxRecDepth 100000
set_option autoImplicit false
namespace DL
open PySem L2
def eVar (i : Nat) : DE := fun env => match env[i]? with
  | some (.v d) => .ok d env
  | some (.l xs) => .ok (.list xs) (env.set i (.v (.list xs)))
  | some (.m xs) => .ok (.dict xs) (env.set i (.v (.dict xs)))
  | _ => .stuck
def eC (d : D) : DE := fun env => .ok d env
def eBin (f : D → D → Option D) (da db : DE) : DE := fun env => (da env).bind fun x e1 => (db e1).bind fun y e2 => put (f x y) e2
def eCB (f : List D → Option D) (da : DA) : DE := fun env => (da env).bind fun xs e1 => put (f xs) e1
def aNil : DA := fun env => .ok [] env
def aCons (de : DE) (da : DA) : DA := fun env => (de env).bind fun x e1 => (da e1).bind fun xs e2 => .ok (x :: xs) e2
def eTup (da : DA) : DE := fun env => (da env).bind fun xs e1 => if xs.length ≤ 100000 then .ok (.tuple xs) e1 else .stuck
def lLst (da : DA) : DA := fun env => (da env).bind fun xs e1 => if xs.length ≤ 100000 then .ok xs e1 else .stuck
/-- a new list that stands still from now on -/
def eLst (da : DA) : DE := fun env => (da env).bind fun xs e1 => .ok (.list xs) e1
def tTst (de : DE) : DT := fun env => (de env).bind fun d e1 => match d with
  | .bool b => .ok b e1
  | _ => .stuck
def truth : D → Option Bool
  | .none => some false
  | .bool b => some b
  | .int i => some (i != 0)
  | .str x => if x.length ≤ 100000 then some ((x.length : Int) != 0) else none
  | .list xs => some (!xs.isEmpty)
  | .tuple xs => some (!xs.isEmpty)
  | .dict _ => none
def tTru (de : DE) : DT := fun env => (de env).bind fun d e1 => put (truth d) e1
def tAndD (t u : DT) : DT := fun env => (t env).bind fun b e1 => if b then u e1 else .ok false e1
def tOrD (t u : DT) : DT := fun env => (t env).bind fun b e1 => if b then .ok true e1 else u e1
def tNotD (t : DT) : DT := fun env => (t env).bind fun b e1 => .ok (!b) e1
def eIf (t : DT) (da db : DE) : DE := fun env => (t env).bind fun b e1 => if b then da e1 else db e1
def OpD (K : PySem.W.Frag) (r : R2) (f : D → D → Option D) : Prop := ∀ (x y : V) (d e z : D) (G H : Hp) (Q : VK), Dv K G x d → Dv K G y e → Ex G H → f d e = some z → (∀ v G' H', Dv K G' v z → Grow G H G' H' → Q v H') → r x y H Q
def CbD (K : PySem.W.Frag) (r : List V → Hp → VK → Prop) (f : List D → Option D) : Prop := ∀ (xs : List V) (ds : List D) (z : D) (G H : Hp) (Q : VK), DvAll K G xs ds → Ex G H → f ds = some z → (∀ v G' H', Dv K G' v z → Grow G H G' H' → Q v H') → r xs H Q
def OlD (K : PySem.W.Frag) (r : R2) (f : D → D → Option (List D)) : Prop := ∀ (x y : V) (d e : D) (zs : List D) (G H : Hp) (Q : VK), Dv K G x d → Dv K G y e → Ex G H → f d e = some zs →
  (∀ a vs, H a = none → DvAll K G vs zs → Q (.ref a) (upd H a (.lst vs))) → r x y H Q
section
variable {K : PySem.W.Frag} {mg : Str → Option Value} {W : WX}
theorem OpD.or {r r' : R2} {f g : D → D → Option D} (h : OpD K r f) (h' : OpD K r' g) : OpD K (fun x y H Q => r x y H Q ∨ r' x y H Q) (fun x y => match f x y with | some z => some z | none => g x y) := by
  intro x y d e z G H Q hx hy ex hf k
  cases q : f d e with
  | some w =>
    simp only [q, Option.some.injEq] at hf
    subst hf
    exact .inl (h x y d e _ G H Q hx hy ex q k)
  | none =>
    simp only [q] at hf
    exact .inr (h' x y d e z G H Q hx hy ex hf k)
theorem CbD.or {r r' : List V → Hp → VK → Prop} {f g : List D → Option D} (h : CbD K r f) (h' : CbD K r' g) : CbD K (fun xs H Q => r xs H Q ∨ r' xs H Q) (fun xs => match f xs with | some z => some z | none => g xs) := by
  intro xs ds z G H Q hx ex hf k
  cases q : f ds with
  | some w =>
    simp only [q, Option.some.injEq] at hf
    subst hf
    exact .inl (h xs ds _ G H Q hx ex q k)
  | none =>
    simp only [q] at hf
    exact .inr (h' xs ds z G H Q hx ex hf k)
/-- the answer where it was asked -/
theorem RunE.put {env : DEnv} {σ : L2.St} {G H : Hp} {o : Option D} {Q : VK} (R : Rel K env σ G H) (h : RunE K mg W env σ G H (put o env) Q)
    : ∃ z, o = some z ∧ ∀ v G' H', Dv K G' v z → Grow G H G' H' → Q v H' := by
  cases o with
  | none => exact h.elim
  | some z => exact ⟨z, rfl, fun v G' H' dv g => h v G' H' (R.grow g) dv (g.fr R)⟩
theorem bin_ok {r : R2} {f : D → D → Option D} (o : OpD K r f) (da db : DE) (σ : L2.St) (H : Hp) (Q : VK) (h : rdE K mg W (eBin f da db) σ H Q) : tOp r (rdE K mg W da) (rdE K mg W db) σ H Q := by
  obtain ⟨env, G, R, h⟩ := h
  refine E_thenE R h fun d e1 v G1 H1 _ R1 dv F1 h1 => E_thenE R1 h1 fun d2 e2 v2 G2 H2 _ R2 dv2 F2 h2 => ?_
  obtain ⟨z, e, k⟩ := RunE.put R2 h2
  exact o v v2 d d2 z G2 H2 Q (dv.up F2.gg) dv2 R2.ex e k
theorem cb_ok {r : List V → Hp → VK → Prop} {f : List D → Option D} (o : CbD K r f) (da : DA) (σ : L2.St) (H : Hp) (Q : VK) (h : rdE K mg W (eCB f da) σ H Q) : tCB r (rdA K mg W da) σ H Q := by
  obtain ⟨env, G, R, h⟩ := h
  refine A_thenE R h fun d e1 v G1 H1 _ R1 dv F1 h1 => ?_
  obtain ⟨z, e, k⟩ := RunE.put R1 h1
  exact o v d z G1 H1 Q dv R1.ex e k
/-- a new list laid: it is nobody's -/
theorem Rel.laid1 {env : DEnv} {σ : L2.St} {G H : Hp} {a : Addr} {o : HO} (R : Rel K env σ G H) (ha : H a = none) : Rel K env σ G (upd H a o) ∧ ∀ i b, OwnAt env σ (upd H a o) i b ↔ OwnAt env σ H i b :=
  R.move (fun b u hb => (by rw [upd_ne (fun z => by subst z; rw [R.ex.none ha] at hb; cases hb)]; exact R.ex b u hb)) (Ex.refl _) (fun b w => upd_ne fun z => (by subst z; exact (w.there R).1 ha)) fun b w => (w.there R).2
theorem RunL.new {env : DEnv} {σ : L2.St} {G H : Hp} {zs : List D} {vs : List V} {Q : VK} {a : Addr} (R : Rel K env σ G H) (h : RunL K mg W env σ G H (.ok zs env) Q) (ha : H a = none) (dv : DvAll K G vs zs) : Q (.ref a) (upd H a (.lst vs)) := by
  have ga : G a = none := R.ex.none ha
  obtain ⟨R2, m⟩ := R.laid1 (o := .lst vs) ha
  refine h a vs G (upd H a (.lst vs)) R2 upd_same ga ha (fun ⟨i, w⟩ => (((m i a).1 w).there R).1 ha) dv
    ⟨Ex.refl _, fun b o hb _ => ?_, fun b hb => ?_, fun b hb => .inl hb, fun b ⟨i, w⟩ => .inl ⟨i, (m i b).1 w⟩, fun i s hi _ => ⟨rfl, s, hi, rfl⟩⟩
  · rw [upd_ne (fun z => by subst z; rw [ha] at hb; cases hb)]
    exact hb
  · by_cases z : b = a
    · subst z; exact ha
    · rw [upd_ne z] at hb; exact hb
def eBinL (f : D → D → Option (List D)) (da db : DE) : DA := fun env => (da env).bind fun x e1 => (db e1).bind fun y e2 => put (f x y) e2
theorem binL_ok {r : R2} {f : D → D → Option (List D)} (o : OlD K r f) (da db : DE) (σ : L2.St) (H : Hp) (Q : VK) (h : rdL K mg W (eBinL f da db) σ H Q) : tOp r (rdE K mg W da) (rdE K mg W db) σ H Q := by
  obtain ⟨env, G, R, h⟩ := h
  refine E_thenL R h fun d e1 v G1 H1 _ R1 dv F1 h1 => E_thenL R1 h1 fun d2 e2 v2 G2 H2 _ R2 dv2 F2 h2 => ?_
  cases q : f d d2 with
  | none => rw [q] at h2; exact h2.elim
  | some zs =>
    rw [q] at h2
    exact o v v2 d d2 zs G2 H2 Q (dv.up F2.gg) dv2 R2.ex q fun a vs ha dz => RunL.new R2 h2 ha dz
/-- a thing of nobody's stands still from now on -/
theorem Rel.still {env : DEnv} {σ : L2.St} {G H : Hp} {a : Addr} {o : HO} (R : Rel K env σ G H) (h1 : H a = some o) (h2 : G a = none) (h4 : ¬ Own env σ H a) : Rel K env σ (upd G a o) H :=
  (R.move (fun b u hb => by
    by_cases z : b = a
    · subst z; rw [upd_same] at hb; rw [h1]; exact hb
    · rw [upd_ne z] at hb; exact R.ex b u hb) (Ex.new h2) (fun _ _ => rfl) fun b w => by rw [upd_ne fun z => (by subst z; exact h4 w)]; exact (w.there R).2).1
/-- a list of nobody's becomes data that stands still -/
theorem RunL.of {env : DEnv} {σ : L2.St} {G H : Hp} {r : Rs (List D)} {Q : VK} (h' : RunE K mg W env σ G H (r.bind fun xs e1 => .ok (.list xs) e1) Q) : RunL K mg W env σ G H r Q := by
  cases r with
  | stuck => exact h'
  | ex x e => exact h'
  | ok ds e1 =>
    intro a vs G' H' R' h1 h2 h3 h4 dv F
    refine h' (.ref a) (upd G' a (.lst vs)) H' (R'.still h1 h2 h4) (.lst (.of upd_same) (dv.up (Ex.new h2)))
      ⟨F.gg.trans (Ex.new h2), F.keep, F.dom, fun b hb => ?_, F.own, F.par⟩
    · by_cases z : b = a
      · subst z; exact .inr (.inl h3)
      · rw [upd_ne z] at hb; exact F.fresh b hb
theorem L_to_E {da : DA} (σ : L2.St) (H : Hp) (Q : VK) (h : rdE K mg W (eLst da) σ H Q) : rdL K mg W da σ H Q := by
  obtain ⟨env, G, R, h⟩ := h
  exact ⟨env, G, R, RunL.of h⟩
end
theorem freezeO {K : PySem.W.Frag} {env : DEnv} {σ : L2.St} {G H : Hp} {i : Nat} {s0 : Sl} {d0 : D} {a : Addr} {o0 : HO} (R : Rel K env σ G H) (hi : env[i]? = some s0) (hs0 : s0.lst = true)
    (ho : σ[i]? = some (some (.ref a))) (h1 : H a = some o0) (h2 : G a = none) (dv : Dv K (upd G a o0) (.ref a) d0) :
    Rel K (env.set i (.v d0)) σ (upd G a o0) H ∧ Fr env σ G H (env.set i (.v d0)) σ (upd G a o0) H := by
  have li : i < env.length := (List.getElem?_eq_some_iff.mp hi).1
  have owns : OwnAt env σ H i a := .of hi hs0 ho
  have k : ∀ j b, j ≠ i → OwnAt env σ H j b → H b = H b ∧ upd G a o0 b = none := fun j b ne w => ⟨rfl, by
    rw [upd_ne fun z => by subst z; exact ne (R.dist j i b w owns)]
    exact (w.there R).2⟩
  refine ⟨(R.put (s1 := .v d0) li rfl ho (fun _ _ => rfl) (fun b o hb => ?_) (Ex.new h2) k ⟨_, rfl, dv⟩ fun _ w => w.elim).1,
    Fr.put (s1 := .v d0) (o1 := some (.ref a)) R li ho (fun _ _ => rfl) (Ex.new h2) k (fun b o hb _ => hb) (fun b hb => hb) (fun b hb => ?_) (fun _ w => w.elim) fun z => absurd rfl z⟩
  · by_cases z : b = a
    · subst z; rw [upd_same] at hb; rw [h1]; exact hb
    · rw [upd_ne z] at hb; exact R.ex b o hb
  · by_cases z : b = a
    · subst z; exact .inr (.inr ⟨i, owns⟩)
    · rw [upd_ne z] at hb; exact .inl hb
theorem freeze {K : PySem.W.Frag} {env : DEnv} {σ : L2.St} {G H : Hp} {i : Nat} {xs : List D} (R : Rel K env σ G H) (hi : env[i]? = some (.l xs)) :
    ∃ a vs, σ[i]? = some (some (.ref a)) ∧ Rel K (env.set i (.v (.list xs))) σ (upd G a (.lst vs)) H ∧ Dv K (upd G a (.lst vs)) (.ref a) (.list xs) ∧ Fr env σ G H (env.set i (.v (.list xs))) σ (upd G a (.lst vs)) H := by
  have li2 : i < σ.length := by rw [← R.len]; exact (List.getElem?_eq_some_iff.mp hi).1
  have ho : σ[i]? = some σ[i] := List.getElem?_eq_getElem li2
  obtain ⟨a, vs, e, h1, h2, h3⟩ := R.slot i _ _ hi ho
  rw [e] at ho
  have dv : Dv K (upd G a (.lst vs)) (.ref a) (.list xs) := .lst (.of upd_same) (h3.up (Ex.new h2))
  obtain ⟨r1, r2⟩ := freezeO R hi rfl ho h1 h2 dv
  exact ⟨a, vs, ho, r1, dv, r2⟩
theorem freezeM {K : PySem.W.Frag} {env : DEnv} {σ : L2.St} {G H : Hp} {i : Nat} {xs : List (D × D)} (R : Rel K env σ G H) (hi : env[i]? = some (.m xs)) :
    ∃ a vs, σ[i]? = some (some (.ref a)) ∧ Rel K (env.set i (.v (.dict xs))) σ (upd G a (.dK vs)) H ∧ Dv K (upd G a (.dK vs)) (.ref a) (.dict xs) ∧ Fr env σ G H (env.set i (.v (.dict xs))) σ (upd G a (.dK vs)) H := by
  have li2 : i < σ.length := by rw [← R.len]; exact (List.getElem?_eq_some_iff.mp hi).1
  have ho : σ[i]? = some σ[i] := List.getElem?_eq_getElem li2
  obtain ⟨a, vs, e, h1, h2, h3⟩ := R.slot i _ _ hi ho
  rw [e] at ho
  have dv : Dv K (upd G a (.dK vs)) (.ref a) (.dict xs) := .dct (.inl upd_same) (h3.up (Ex.new h2))
  obtain ⟨r1, r2⟩ := freezeO R hi rfl ho h1 h2 dv
  exact ⟨a, vs, ho, r1, dv, r2⟩
section
variable {X : Cx} {W : WX} {a b e : Expr} {da db : DE} {pos : Pos}
theorem var_ok {K : PySem.W.Frag} {mg : Str → Option Value} {i : Nat} (σ : L2.St) (H : Hp) (Q : VK) (h : rdE K mg W (eVar i) σ H Q) : tVar i σ H Q := by
  obtain ⟨env, G, R, h⟩ := h
  unfold eVar at h
  cases q : env[i]? with
  | none => rw [q] at h; exact h.elim
  | some s =>
    rw [q] at h
    have li : i < σ.length := by rw [← R.len]; exact (List.getElem?_eq_some_iff.mp q).1
    have ho : σ[i]? = some σ[i] := List.getElem?_eq_getElem li
    cases s with
    | no => exact h.elim
    | p xs => exact h.elim
    | f x => exact h.elim
    | t x => exact h.elim
    | u x => exact h.elim
    | a x _ _ => exact h.elim
    | n _ => exact h.elim
    | m xs =>
      obtain ⟨a, vs, e1, R', dv, F⟩ := freezeM R q
      exact ⟨_, e1, h _ _ _ R' dv F⟩
    | v d =>
      obtain ⟨v, e, dv⟩ := R.slot i _ _ q ho
      rw [e] at ho
      exact ⟨v, ho, h v G H R dv (Fr.refl _ _ _ _)⟩
    | l xs =>
      obtain ⟨a, vs, e1, R', dv, F⟩ := freeze R q
      exact ⟨_, e1, h _ _ _ R' dv F⟩
theorem ce_var (i : Nat) {x : Str} (hN : X.N[i]? = some x := by rfl) (hv : Vis X.env.scope x := by first | exact Or.inl rfl | exact Or.inr (Or.inl rfl) | exact Or.inr (Or.inr rfl)) (hd : (x == ("__debug__" : Str)) = false := by decide)
    (hcd : (x == ("__classdict__" : Str)) = false := by decide) : CE X W (.Name x pos) (eVar i) := pe_imp (pe_var hN hv hd hcd) var_ok
theorem c_ok {K : PySem.W.Frag} {mg : Str → Option Value} {v : V} {d : D} (dv : ∀ G, Dv K G v d) (σ : L2.St) (H : Hp) (Q : VK) (h : rdE K mg W (eC d) σ H Q) : tC v σ H Q := by
  obtain ⟨env, G, R, h⟩ := h
  exact h v G H R (dv G) (Fr.refl _ _ _ _)
theorem ce_int {i : Int} {j : Nat} : CE X W (.Constant (.int i) j pos) (eC (.int i)) := pe_imp pe_int (c_ok fun _ => .int i)
theorem ce_bool {i : Bool} {j : Nat} : CE X W (.Constant (.bool i) j pos) (eC (.bool i)) := pe_imp pe_bl (c_ok fun _ => .bl i)
theorem ce_none {j : Nat} : CE X W (.Constant .none j pos) (eC .none) := pe_imp pe_non (c_ok fun _ => .non)
theorem ce_str {x : Str} {j : Nat} : CE X W (.Constant (.str x) j pos) (eC (.str x)) := pe_imp pe_str (c_ok fun _ => .str x)
/-- -n, written -/
theorem ce_neg {i : Int} {j : Nat} {p : Pos} : CE X W (.UnaryOp .USub (.Constant (.int i) j p) pos) (eC (.int (-i))) := pe_imp (pe_un un_neg pe_int) fun σ H Q h => by
  obtain ⟨env, G, R, h⟩ := h
  exact ⟨i, rfl, h _ G H R (.int _) (Fr.refl _ _ _ _)⟩
theorem ce_bin {op : Operator} {r : R2} {f : D → D → Option D} (ho : OpR X (binaryOp op) r) (o : OpD X.K r f) (ha : CE X W a da) (hb : CE X W b db) : CE X W (.BinOp a op b pos) (eBin f da db) := pe_imp (pe_op ho ha hb) (bin_ok o da db)
theorem cl_bin {op : Operator} {r : R2} {f : D → D → Option (List D)} (ho : OpR X (binaryOp op) r) (o : OlD X.K r f) (ha : CE X W a da) (hb : CE X W b db) : CL X W (.BinOp a op b pos) (eBinL f da db) := pe_imp (pe_op ho ha hb) (binL_ok o da db)
theorem ce_cmp {op : CmpOp} {r : R2} {f : D → D → Option D} (ho : OpR X (compareOp op) r) (o : OpD X.K r f) (ha : CE X W a da) (hb : CE X W b db) (hm : behindInMarks op b = false) : CE X W (.Compare a [op] [b] pos) (eBin f da db) := pe_imp (pe_cmpR ho ha hb hm) (bin_ok o da db)
theorem ce_ix {r : R2} {f : D → D → Option D} (hr : IxR X r) (o : OpD X.K r f) (ha : CE X W a da) (hb : CE X W b db) (hs : PlainIx b) : CE X W (.Subscript a b pos) (eBin f da db) := pe_imp (pe_ix hr ha hb hs) (bin_ok o da db)
theorem tst_ok {K : PySem.W.Frag} {mg : Str → Option Value} (de : DE) (σ : L2.St) (H : Hp) (Q : Bool → Hp → Prop) (h : rdT K mg W (tTst de) σ H Q) : rdE K mg W de σ H fun x H' => ∃ k, x = .bl k ∧ Q k H' := by
  obtain ⟨env, G, R, h⟩ := h
  refine E_thenT R h fun d e1 v G1 H1 _ R1 dv F1 h1 => ?_
  cases dv with
  | bl b => exact ⟨b, rfl, h1 G1 H1 R1 (Fr.refl _ _ _ _)⟩
  | non => exact h1.elim
  | int i => exact h1.elim
  | str i => exact h1.elim
  | lst _ _ => exact h1.elim
  | tup _ _ => exact h1.elim
  | dct _ _ => exact h1.elim
theorem ct_cmp {op : CmpOp} {r : R2} {f : D → D → Option D} (ho : OpR X (compareOp op) r) (o : OpD X.K r f) (ha : CE X W a da) (hb : CE X W b db) (hm : behindInMarks op b = false) : CT X W (.Compare a [op] [b] pos) (tTst (eBin f da db)) :=
  pt_imp (pt_cmpR ho ha hb hm) fun σ H Q h => bin_ok o da db σ H _ (tst_ok _ σ H Q h)
/-- an expression that gives True or False, as a test -/
theorem ct_val {e : Expr} {de : DE} (h : CE X W e de) (he : ∀ whole, isTrue e X.env whole = (do let v ← whole; standAt e.pos; holding [v] (truthy v)) := by intro _; rfl) : CT X W e (tTst de) := pt_imp (pt_val h he) fun σ H Q h => tst_ok _ σ H Q h
theorem tru_okD {K : PySem.W.Frag} {mg : Str → Option Value} (de : DE) (σ : L2.St) (H : Hp) (Q : Bool → Hp → Prop) (h : rdT K mg W (tTru de) σ H Q) : rdE K mg W de σ H fun x H' => ∃ k, TruV K x H' k ∧ Q k H' := by
  obtain ⟨env, G, R, h⟩ := h
  refine E_thenT R h fun d e1 v G1 H1 _ R1 dv F1 h1 => ?_
  cases q : truth d with
  | none => rw [q] at h1; exact h1.elim
  | some k =>
    rw [q] at h1
    refine ⟨k, ?_, h1 G1 H1 R1 (Fr.refl _ _ _ _)⟩
    cases dv with
    | bl b => cases q; rfl
    | non => cases q; rfl
    | int i => cases q; rfl
    | str x =>
      have q' : (if x.length ≤ 100000 then some ((x.length : Int) != 0) else none) = some k := q
      by_cases hz : x.length ≤ 100000
      · rw [if_pos hz] at q'
        cases q'
        exact ⟨Nat.le_trans hz (by decide), rfl⟩
      · rw [if_neg hz] at q'
        cases q'
    | @lst a xs ds g1 g2 =>
      cases q
      refine .inl ⟨_, (R1.ex.rl g1).sq, ?_⟩
      cases g2 <;> rfl
    | @tup a xs ds g1 g2 =>
      cases q
      refine .inr (.inl ⟨_, (R1.ex.n g1).t, ?_⟩)
      cases g2 <;> rfl
    | dct _ _ => cases q
theorem ct_tru {e : Expr} {de : DE} (h : CE X W e de) (he : ∀ whole, isTrue e X.env whole = (do let v ← whole; standAt e.pos; holding [v] (truthy v)) := by intro _; rfl) : CT X W e (tTru de) := pt_imp (pt_truth h he) fun σ H Q h => tru_okD _ σ H Q h
theorem T_then {K : PySem.W.Frag} {mg : Str → Option Value} {env : DEnv} {σ : L2.St} {G H : Hp} {dt : DT} {β : Type} {f : Bool → DEnv → Rs β} {R : Bool → Hp → Prop} (hR : Rel K env σ G H) {P : DEnv → L2.St → Hp → Hp → Rs β → Prop}
    (h : P env σ G H ((dt env).bind f)) (hx : ∀ x e, P env σ G H (.ex x e) → RunX K mg W env σ G H x e) (hst : ¬ P env σ G H .stuck)
    (hsh : ∀ e1 G1 H1 r, P env σ G H r → Fr env σ G H e1 σ G1 H1 → P e1 σ G1 H1 r)
    (k : ∀ d e1 G1 H1, dt env = .ok d e1 → Rel K e1 σ G1 H1 → Fr env σ G H e1 σ G1 H1 → P e1 σ G1 H1 (f d e1) → R d H1) : rdT K mg W dt σ H R := by
  refine ⟨env, G, hR, ?_⟩
  cases q : dt env with
  | ok d e1 =>
    rw [q] at h
    exact fun G1 H1 a c => k d e1 G1 H1 q a c (hsh _ _ _ _ h c)
  | ex x e => rw [q] at h; exact hx x e h
  | stuck => rw [q] at h; exact (hst h).elim
theorem T_thenT {K : PySem.W.Frag} {mg : Str → Option Value} {env : DEnv} {σ : L2.St} {G H : Hp} {dt : DT} {f : Bool → DEnv → Rs Bool} {Q R : Bool → Hp → Prop} (hR : Rel K env σ G H) (h : RunT K mg W env σ G H ((dt env).bind f) Q)
    (k : ∀ d e1 G1 H1, dt env = .ok d e1 → Rel K e1 σ G1 H1 → Fr env σ G H e1 σ G1 H1 → RunT K mg W e1 σ G1 H1 (f d e1) Q → R d H1) : rdT K mg W dt σ H R :=
  T_then hR (P := fun e s G H r => RunT K mg W e s G H r Q) h (fun _ _ z => z) (fun z => z) (fun _ _ _ _ a b => a.shift b) k
theorem T_thenE {K : PySem.W.Frag} {mg : Str → Option Value} {env : DEnv} {σ : L2.St} {G H : Hp} {dt : DT} {f : Bool → DEnv → Rs D} {Q : VK} {R : Bool → Hp → Prop} (hR : Rel K env σ G H) (h : RunE K mg W env σ G H ((dt env).bind f) Q)
    (k : ∀ d e1 G1 H1, dt env = .ok d e1 → Rel K e1 σ G1 H1 → Fr env σ G H e1 σ G1 H1 → RunE K mg W e1 σ G1 H1 (f d e1) Q → R d H1) : rdT K mg W dt σ H R :=
  T_then hR (P := fun e s G H r => RunE K mg W e s G H r Q) h (fun _ _ z => z) (fun z => z) (fun _ _ _ _ a b => a.shift b) k
variable {dt du : DT} {rest : List Expr}
theorem cw_and1 (ha : CT X W a dt) : CW X W (.BoolOp .And [a] pos) dt := pw_and1 ha
theorem cw_or1 (ha : CT X W a dt) : CW X W (.BoolOp .Or [a] pos) dt := pw_or1 ha
theorem cw_and (ha : CT X W a dt) (hb : CW X W (.BoolOp .And (b :: rest) pos) du) : CW X W (.BoolOp .And (a :: b :: rest) pos) (tAndD dt du) := pw_imp (pw_and ha hb) fun σ H Q h => by
  obtain ⟨env, G, R, h⟩ := h
  refine T_thenT R h fun d e1 G1 H1 _ R1 F1 h1 => ?_
  cases d with
  | true => exact ⟨e1, G1, R1, h1⟩
  | false => exact h1 G1 H1 R1 (Fr.refl _ _ _ _)
theorem cw_or (ha : CT X W a dt) (hb : CW X W (.BoolOp .Or (b :: rest) pos) du) : CW X W (.BoolOp .Or (a :: b :: rest) pos) (tOrD dt du) := pw_imp (pw_or ha hb) fun σ H Q h => by
  obtain ⟨env, G, R, h⟩ := h
  refine T_thenT R h fun d e1 G1 H1 _ R1 F1 h1 => ?_
  cases d with
  | true => exact h1 G1 H1 R1 (Fr.refl _ _ _ _)
  | false => exact ⟨e1, G1, R1, h1⟩
theorem ct_w (h : CW X W e dt) : CT X W e dt := PW.pt h
theorem ct_not (ha : CT X W a dt) : CT X W (.UnaryOp .Not a pos) (tNotD dt) := pt_imp (pt_not ha) fun σ H Q h => by
  obtain ⟨env, G, R, h⟩ := h
  exact T_thenT R h fun d e1 G1 H1 _ R1 F1 h1 => h1 G1 H1 R1 (Fr.refl _ _ _ _)
theorem ce_if {c : Expr} (hc : CT X W c dt) (ha : CE X W a da) (hb : CE X W b db) : CE X W (.IfExp c a b pos) (eIf dt da db) := pe_imp (pe_ifExp hc ha hb) fun σ H Q h => by
  obtain ⟨env, G, R, h⟩ := h
  refine T_thenE R h fun d e1 G1 H1 _ R1 F1 h1 => ?_
  cases d with
  | true => exact ⟨e1, G1, R1, h1⟩
  | false => exact ⟨e1, G1, R1, h1⟩
variable {es : List Expr} {ds : DA}
theorem ca_nil : CA X W [] aNil := pa_imp pa_nil fun σ H Q h => by
  obtain ⟨env, G, R, h⟩ := h
  exact h [] G H R .nil (Fr.refl _ _ _ _)
theorem ca_cons (ha : CE X W e da) (hr : CA X W es ds) (hs : starEach (e :: es) X.env = (false, eval e X.env) :: starEach es X.env := by rfl) : CA X W (e :: es) (aCons da ds) := pa_imp (pa_cons ha hr hs) fun σ H Q h => by
  obtain ⟨env, G, R, h⟩ := h
  exact E_thenA R h fun d e1 v G1 H1 _ R1 dv F1 h1 => A_thenA R1 h1 fun d2 e2 v2 G2 H2 _ R2 dv2 F2 h2 => h2 (v :: v2) G2 H2 R2 (.cons (dv.up F2.gg) dv2) (Fr.refl _ _ _ _)
theorem ce_tup {k : Nat} (h : CA X W es ds) : CE X W (.Tuple es k pos) (eTup ds) := pe_imp (pe_tupF h) fun σ H Q h => by
  obtain ⟨env, G, R, h⟩ := h
  refine A_thenE R h fun d e1 v G1 H1 _ R1 dv F1 h1 => ?_
  split at h1
  · rename_i hz
    refine ⟨by rw [dv.length]; exact Nat.le_trans hz (by decide), fun p o hp hd => ?_⟩
    have g : Grow G1 H1 (upd G1 p (.frz o (.tup v))) (upd H1 p (.frz o (.tup v))) := Grow.one R1.ex hp
    exact h1 _ _ _ (R1.grow g) (.tup (.inl ⟨o, upd_same, hd⟩) (dv.up g.gg)) (g.fr R1)
  · exact h1.elim
theorem cl_lst (h : CA X W es ds) : CL X W (.List es pos) (lLst ds) := pe_imp (pe_lst h) fun σ H Q h => by
  obtain ⟨env, G, R, h⟩ := h
  refine A_thenL R h fun d e1 v G1 H1 _ R1 dv F1 h1 => ?_
  split at h1
  · rename_i hz
    exact ⟨by rw [dv.length]; exact Nat.le_trans hz (by decide), fun p hp => RunL.new R1 h1 hp dv⟩
  · exact h1.elim
theorem ce_lst {dl : DA} (h : CL X W e dl) : CE X W e (eLst dl) := pe_imp h fun σ H Q h => L_to_E σ H Q h
theorem ce_cb {r : List V → Hp → VK → Prop} {f : List D → Option D} {id : String} {x : Str} {p : Pos} (o : CbD X.K r f) (hc : CallR X (.builtin id) r) (hg : Gl X x) (hm : X.mg x = none) (hv : bootBuiltins x = some (.builtin id)) (ha : CA X W (e :: es) ds) (hn : x ≠ "__name__" := by decide) (hdb : (x == ("__debug__" : Str)) = false := by decide)
    (he : starEach (e :: es) X.env = (false, eval e X.env) :: starEach es X.env := by rfl) (hpl : (backTo pos (starEach es X.env)).any (·.1) = false := by rfl) : CE X W (.Call (.Name x p) (e :: es) [] pos) (eCB f ds) := pe_imp (pe_callB hc hg hm hv ha hn hdb he hpl) (cb_ok o ds)
theorem ce_ct {r : List V → Hp → VK → Prop} {f : List D → Option D} {T : String} {x : Str} {p : Pos} (o : CbD X.K r f) (hc : CallR X (.type T) r) (hg : Gl X x) (hm : X.mg x = none) (hv : bootBuiltins x = some (.type T)) (ha : CA X W (e :: es) ds) (hn : x ≠ "__name__" := by decide) (hdb : (x == ("__debug__" : Str)) = false := by decide)
    (he : starEach (e :: es) X.env = (false, eval e X.env) :: starEach es X.env := by rfl) (hpl : (backTo pos (starEach es X.env)).any (·.1) = false := by rfl) : CE X W (.Call (.Name x p) (e :: es) [] pos) (eCB f ds) := pe_imp (pe_callTy hc hg hm hv ha hn hdb he hpl) (cb_ok o ds)
end
end DL
set_option Elab.async false
set_option linter.all false
set_option maxRecDepth 100000
set_option autoImplicit false
namespace DL
open PySem L2
/-- how a statement ends -/
inductive Fl where
  | nx (env : DEnv)
  | rt (d : D) (env : DEnv)
  | rl (xs : List D) (env : DEnv)
  | bk (env : DEnv)
  | ct (env : DEnv)
  | ex (x : Xc) (env : DEnv)
  | stuck
abbrev DS := DEnv → Fl
/-- an answer, then a statement's end -/
def Rs.fl {α : Type} (r : Rs α) (f : α → DEnv → Fl) : Fl := match r with
  | .ok a env => f a env
  | .ex x env => .ex x env
  | .stuck => .stuck
theorem fl_ok {α : Type} (a : α) (env : DEnv) (f : α → DEnv → Fl) : (Rs.ok a env).fl f = f a env := rfl
section
variable (K : PySem.W.Frag) (mg : Str → Option Value) (W : WX)
def RunXS (env : DEnv) (σ : L2.St) (G H : Hp) (x : Xc) (env' : DEnv) : Prop :=
  ∀ cls dd σ' G' H', XRel K mg x cls dd G' H' → Rel K env' σ' G' H' → Fr env σ G H env' σ' G' H' → W cls dd σ' H'
def RunS (env : DEnv) (σ : L2.St) (G H : Hp) (r : Fl) (E : Ends) : Prop := match r with
  | .nx e => ∀ σ' G' H', Rel K e σ' G' H' → Fr env σ G H e σ' G' H' → E.nx σ' H'
  | .bk e => ∀ σ' G' H', Rel K e σ' G' H' → Fr env σ G H e σ' G' H' → E.bk σ' H'
  | .ct e => ∀ σ' G' H', Rel K e σ' G' H' → Fr env σ G H e σ' G' H' → E.ct σ' H'
  | .rt d e => ∀ v σ' G' H', Rel K e σ' G' H' → Dv K G' v d → Fr env σ G H e σ' G' H' → E.rt v H'
  | .rl xs e => ∀ a vs σ' G' H', Rel K e σ' G' H' → H' a = some (.lst vs) → G' a = none → H a = none → ¬ Own e σ' H' a → DvAll K G' vs xs → Fr env σ G H e σ' G' H' → E.rt (.ref a) H'
  | .ex x e => RunXS K mg W env σ G H x e
  | .stuck => False
def rdS (ds : DS) : TS := fun E σ H => ∃ env G, Rel K env σ G H ∧ RunS K mg W env σ G H (ds env) E
end
section
variable {K : PySem.W.Frag} {mg : Str → Option Value} {W : WX} {env env1 : DEnv} {σ σ1 : L2.St} {G H G1 H1 : Hp}
theorem RunS.shift {r : Fl} {E : Ends} (h : RunS K mg W env σ G H r E) (f : Fr env σ G H env1 σ1 G1 H1) : RunS K mg W env1 σ1 G1 H1 r E := by
  cases r with
  | nx e => exact fun σ' G' H' a c => h σ' G' H' a (f.trans c)
  | bk e => exact fun σ' G' H' a c => h σ' G' H' a (f.trans c)
  | ct e => exact fun σ' G' H' a c => h σ' G' H' a (f.trans c)
  | rt d e => exact fun v σ' G' H' a b c => h v σ' G' H' a b (f.trans c)
  | rl xs e => exact fun a vs σ' G' H' R h1 h2 h3 h4 h5 h6 => h a vs σ' G' H' R h1 h2 (f.dom a h3) h4 h5 (f.trans h6)
  | ex x e => exact fun cls dd σ' G' H' a b c => h cls dd σ' G' H' a b (f.trans c)
  | stuck => exact h
theorem RunXS.toX {x : Xc} {e : DEnv} (h : RunXS K mg W env σ G H x e) : RunX K mg W env σ G H x e := fun cls dd G' H' a b c => h cls dd σ G' H' a b c
/-- an expression, then the rest of the statement -/
theorem E_thenS {de : DE} {f : D → DEnv → Fl} {E : Ends} {R : VK} (hR : Rel K env σ G H) (h : RunS K mg W env σ G H ((de env).fl f) E)
    (k : ∀ d e1 v G1 H1, de env = .ok d e1 → Rel K e1 σ G1 H1 → Dv K G1 v d → Fr env σ G H e1 σ G1 H1 → RunS K mg W e1 σ G1 H1 (f d e1) E → R v H1) : rdE K mg W de σ H R := by
  refine ⟨env, G, hR, ?_⟩
  cases q : de env with
  | ok d e1 =>
    rw [q] at h
    exact fun v G1 H1 a b c => k d e1 v G1 H1 q a b c (h.shift c)
  | ex x e => rw [q] at h; exact RunXS.toX h
  | stuck => rw [q] at h; exact h.elim
theorem L_thenS {de : DA} {f : List D → DEnv → Fl} {E : Ends} {R : VK} (hR : Rel K env σ G H) (h : RunS K mg W env σ G H ((de env).fl f) E)
    (k : ∀ ds e1 a vs G1 H1, de env = .ok ds e1 → Rel K e1 σ G1 H1 → H1 a = some (.lst vs) → G1 a = none → H a = none → ¬ Own e1 σ H1 a → DvAll K G1 vs ds → Fr env σ G H e1 σ G1 H1 → RunS K mg W env σ G H (f ds e1) E → R (.ref a) H1) : rdL K mg W de σ H R := by
  refine ⟨env, G, hR, ?_⟩
  cases q : de env with
  | ok d e1 =>
    rw [q] at h
    exact fun a vs G1 H1 a1 a2 a3 a4 a5 a6 c => k d e1 a vs G1 H1 q a1 a2 a3 a4 a5 a6 c h
  | ex x e => rw [q] at h; exact RunXS.toX h
  | stuck => rw [q] at h; exact h.elim
theorem T_thenS {dt : DT} {f : Bool → DEnv → Fl} {E : Ends} {R : Bool → Hp → Prop} (hR : Rel K env σ G H) (h : RunS K mg W env σ G H ((dt env).fl f) E)
    (k : ∀ d e1 G1 H1, dt env = .ok d e1 → Rel K e1 σ G1 H1 → Fr env σ G H e1 σ G1 H1 → RunS K mg W e1 σ G1 H1 (f d e1) E → R d H1) : rdT K mg W dt σ H R := by
  refine ⟨env, G, hR, ?_⟩
  cases q : dt env with
  | ok d e1 =>
    rw [q] at h
    exact fun G1 H1 a c => k d e1 G1 H1 q a c (h.shift c)
  | ex x e => rw [q] at h; exact RunXS.toX h
  | stuck => rw [q] at h; exact h.elim
/-- a name gets a value -/
theorem Rel.set {i : Nat} {s s0 : Sl} {v : V} (R : Rel K env σ G H) (hi : env[i]? = some s0) (hp : ∀ xs, s0 ≠ .p xs) (hr : RS K G H s (some v)) (hn : ∀ xs, s ≠ .p xs)
    (ho : s.own = true → ∀ a, OwnS H s (some v) a → ¬ Own env σ H a) : Rel K (env.set i s) (σ.set i (some v)) G H := by
  have li : i < env.length := (List.getElem?_eq_some_iff.mp hi).1
  exact (R.put li (List.length_set ..) (List.getElem?_set_self (by rw [← R.len]; exact li)) (fun j ne => List.getElem?_set_ne (Ne.symm ne)) R.ex (Ex.refl _) (fun j a _ w => ⟨rfl, (w.there R).2⟩) hr fun a w j _ w2 => ho w.own a w ⟨j, w2⟩).1
theorem Fr.set {i : Nat} {s s0 : Sl} {v : V} (R : Rel K env σ G H) (hi : env[i]? = some s0) (hp : ∀ xs, s0 ≠ .p xs) (hn : ∀ xs, s ≠ .p xs) (ho : s.own = false) : Fr env σ G H (env.set i s) (σ.set i (some v)) G H := by
  have li : i < env.length := (List.getElem?_eq_some_iff.mp hi).1
  refine Fr.put (s1 := s) (o1 := some v) R li (List.getElem?_set_self (by rw [← R.len]; exact li)) (fun j ne => List.getElem?_set_ne (Ne.symm ne)) (Ex.refl _) (fun j a _ w => ⟨rfl, (w.there R).2⟩) (fun _ _ h _ => h) (fun _ h => h) (fun _ h => .inl h) (fun a w => ?_) fun z => ?_
  · rw [w.own] at ho; cases ho
  · cases s <;> first | exact absurd rfl z | cases ho
/-- a name gets a thing that is new -/
theorem Fr.setN {env0 : DEnv} {σ0 : L2.St} {G0 H0 : Hp} {i : Nat} {s : Sl} {v : V} (R : Rel K env σ G H) (F : Fr env0 σ0 G0 H0 env σ G H) (li : i < env.length) (hn : ∀ a, OwnS H s (some v) a → H0 a = none) (hs : s.pk = 0) : Fr env0 σ0 G0 H0 (env.set i s) (σ.set i (some v)) G H := by
  refine ⟨F.gg, F.keep, F.dom, F.fresh, fun b ⟨j, t, o, e1, e2, w⟩ => ?_, fun j t hj n => ?_⟩
  · by_cases z : j = i
    · subst z
      rw [List.getElem?_set_self li] at e1
      rw [List.getElem?_set_self (by rw [← R.len]; exact li)] at e2
      cases e1; cases e2
      exact .inr (hn b w)
    · rw [List.getElem?_set_ne (Ne.symm z)] at e1 e2
      exact F.own b ⟨j, t, o, e1, e2, w⟩
  · by_cases z : j = i
    · subst z
      rw [List.getElem?_set_self li] at hj
      cases hj
      exact absurd hs n
    · rw [List.getElem?_set_ne (Ne.symm z)] at hj ⊢
      exact F.par j t hj n
end
/-- a name's slot may be stored to -/
def setV (i : Nat) (s : Sl) (env : DEnv) : Option DEnv := match env[i]? with
  | none => none
  | some (.p _) => none
  | some _ => some (env.set i s)
abbrev DG := D → DEnv → Option DEnv
def gN (i : Nat) : DG := fun d env => setV i (.v d) env
def gsN : List DG → List D → DEnv → Option DEnv
  | [], [], env => some env
  | g :: gs, d :: ds, env => (g d env).bind fun e => gsN gs ds e
  | _, _, _ => none
def gT (gs : List DG) : DG := fun d env => match d with
  | .tuple ds => gsN gs ds env
  | .list ds => gsN gs ds env
  | _ => none
/-- only slots of ws were stored to -/
def Tch (ws : List Nat) (σ σ' : L2.St) : Prop := σ'.length = σ.length ∧ ∀ j : Nat, j ∉ ws → σ'[j]? = σ[j]?
def rdG (K : PySem.W.Frag) (g : DG) (ws : List Nat) : TG := fun v σ H Q => ∃ env G d, Rel K env σ G H ∧ Dv K G v d ∧ ∃ env', g d env = some env' ∧ ∀ σ', Rel K env' σ' G H → Fr env σ G H env' σ' G H → Tch ws σ σ' → Q σ' H
def rdGs (K : PySem.W.Frag) (gs : List DG) (ws : List Nat) : TGs := fun vs σ H Q => ∃ env G ds, Rel K env σ G H ∧ DvAll K G vs ds ∧ ∃ env', gsN gs ds env = some env' ∧ ∀ σ', Rel K env' σ' G H → Fr env σ G H env' σ' G H → Tch ws σ σ' → Q σ' H
theorem pg_imp {X : Cx} {e : Expr} {t t' : TG} (h : PG X e t) (k : ∀ v σ H Q, t' v σ H Q → t v σ H Q) : PG X e t' := ⟨fun pins s σ H v u Q I r w => h.run pins s σ H v u Q I r (k v σ H Q w)⟩
theorem pgs_imp {X : Cx} {e : List Expr} {t t' : TGs} (h : PGs X e t) (k : ∀ v σ H Q, t' v σ H Q → t v σ H Q) : PGs X e t' := ⟨fun pins s σ H v u Q I r w => h.run pins s σ H v u Q I r (k v σ H Q w)⟩
theorem setV_some {i : Nat} {s : Sl} {env env' : DEnv} (h : setV i s env = some env') : ∃ s0, env[i]? = some s0 ∧ (∀ xs, s0 ≠ .p xs) ∧ env' = env.set i s := by
  unfold setV at h
  cases q : env[i]? with
  | none => rw [q] at h; cases h
  | some s0 =>
    rw [q] at h
    cases s0 with
    | p xs => cases h
    | u d => cases h; exact ⟨_, rfl, fun _ z => (nomatch z), rfl⟩
    | t d => cases h; exact ⟨_, rfl, fun _ z => (nomatch z), rfl⟩
    | no => cases h; exact ⟨_, rfl, fun _ z => (nomatch z), rfl⟩
    | v d => cases h; exact ⟨_, rfl, fun _ z => (nomatch z), rfl⟩
    | l d => cases h; exact ⟨_, rfl, fun _ z => (nomatch z), rfl⟩
    | n _ => cases h; exact ⟨_, rfl, fun _ z => (nomatch z), rfl⟩
    | m d => cases h; exact ⟨_, rfl, fun _ z => (nomatch z), rfl⟩
    | f d => cases h; exact ⟨_, rfl, fun _ z => (nomatch z), rfl⟩
    | a d _ _ => cases h; exact ⟨_, rfl, fun _ z => (nomatch z), rfl⟩
abbrev CG (X : Cx) (e : Expr) (g : DG) (ws : List Nat) : Prop := PG X e (rdG X.K g ws)
abbrev CGs (X : Cx) (es : List Expr) (gs : List DG) (ws : List Nat) : Prop := PGs X es (rdGs X.K gs ws)
section
variable {X : Cx} {W : WX} {pos : Pos}
theorem cg_name {i : Nat} {x : Str} (hN : X.N.Nodup) (hi : X.N[i]? = some x := by rfl) (hx : Loc X.env.scope x := by first | exact Or.inl rfl | exact Or.inr rfl) (hf : X.fn x = true ∨ X.env.scope.names.lookup x = some .local := by first | exact .inl rfl | exact .inr rfl | assumption) : CG X (.Name x pos) (gN i) [i] :=
  pg_imp (pg_name hN hi hx hf) fun v σ H Q h => by
    obtain ⟨env, G, d, R, dv, env', e, k⟩ := h
    obtain ⟨s0, e1, e2, rfl⟩ := setV_some e
    exact k _ (R.set e1 e2 ⟨v, rfl, dv⟩ (fun _ z => nomatch z) fun z => nomatch z) (Fr.set R e1 e2 (fun _ z => nomatch z) rfl) ⟨List.length_set, fun j hj => List.getElem?_set_ne (fun z => hj (by simp [z]))⟩
theorem cgs_nil : CGs X [] [] [] := pgs_imp pgs_nil fun v σ H Q h => by
  obtain ⟨env, G, ds, R, dv, env', e, k⟩ := h
  cases ds with
  | nil =>
    cases e
    cases dv
    exact ⟨rfl, k σ R (Fr.refl _ _ _ _) ⟨rfl, fun _ _ => rfl⟩⟩
  | cons d ds => cases e
theorem cgs_cons {e : Expr} {es : List Expr} {g : DG} {gs : List DG} {ws ws' : List Nat} (h1 : CG X e g ws) (h2 : CGs X es gs ws')
    (hs : (assignEach (e :: es) X.env).map (·.2) = assign e X.env :: (assignEach es X.env).map (·.2) := by rfl) : CGs X (e :: es) (g :: gs) (ws ++ ws') := pgs_imp (pgs_cons h1 h2 hs) fun v σ H Q h => by
  obtain ⟨env, G, ds, R, dv, env', e, k⟩ := h
  cases dv with
  | nil => cases e
  | @cons v1 vs d ds a b =>
    have e' : ((g d env).bind fun e => gsN gs ds e) = some env' := e
    cases q : g d env with
    | none => rw [q] at e'; cases e'
    | some e1 =>
      rw [q] at e'
      exact ⟨v1, vs, rfl, env, G, d, R, a, e1, q, fun σ1 R1 F1 T1 => ⟨e1, G, ds, R1, b, env', e', fun σ2 R2 F2 T2 => k σ2 R2 (F1.trans F2) ⟨T2.1.trans T1.1, fun j hj => (T2.2 j fun z => hj (List.mem_append_right _ z)).trans (T1.2 j fun z => hj (List.mem_append_left _ z))⟩⟩⟩
theorem pg_or {e : Expr} {t u : TG} (h1 : PG X e t) (h2 : PG X e u) : PG X e (fun v σ H Q => t v σ H Q ∨ u v σ H Q) := ⟨fun pins s σ H v w Q I r z => z.elim (fun z => h1.run pins s σ H v w Q I r z) fun z => h2.run pins s σ H v w Q I r z⟩
theorem gsN_len : ∀ {gs : List DG} {ds : List D} {env env' : DEnv}, gsN gs ds env = some env' → ds.length = gs.length
  | [], [], _, _, _ => rfl
  | g :: gs, d :: ds, env, env', h => by
    have h' : ((g d env).bind fun e => gsN gs ds e) = some env' := h
    cases q : g d env with
    | none => rw [q] at h'; cases h'
    | some e1 =>
      rw [q] at h'
      have := gsN_len (gs := gs) (ds := ds) (env := e1) (env' := env') h'
      simp [this]
  | [], _ :: _, _, _, h => by cases h
  | _ :: _, [], _, _, h => by cases h
theorem cg_tup {es : List Expr} {k : Nat} {gs : List DG} {ws : List Nat} (hc : X.calm = true) (h : CGs X es gs ws) (hn : (assignEach es X.env).length = gs.length := by rfl) (hst : (assignEach es X.env).findIdx? (·.1) = none := by rfl) : CG X (.Tuple es k pos) (gT gs) ws :=
  pg_imp (pg_or (pg_tup hc h hn hst) (pg_unl hc h hn hst)) fun v σ H Q w => by
    obtain ⟨env, G, d, R, dv, env', e, k⟩ := w
    cases dv with
    | @tup a xs ds h1 h2 => exact .inl ⟨a, xs, rfl, (R.ex.n h1).t, by rw [h2.length]; exact gsN_len e, env, G, ds, R, h2, env', e, k⟩
    | @lst a xs ds h1 h2 => exact .inr ⟨a, xs, rfl, (R.ex.rl h1).sq, by rw [h2.length]; exact gsN_len e, env, G, ds, R, h2, env', e, k⟩
    | non => cases e
    | bl b => cases e
    | int b => cases e
    | str b => cases e
    | dct _ _ => cases e
def sNx : DS := fun env => .nx env
def Fl.seq (r : Fl) (t : DS) : Fl := match r with
  | .nx e => t e
  | r => r
def sSeq (s t : DS) : DS := fun env => (s env).seq t
def sAsg (de : DE) (g : DG) : DS := fun env => (de env).fl fun d e1 => match g d e1 with
  | some e2 => .nx e2
  | none => .stuck
def sAsgL (i : Nat) (dl : DA) : DS := fun env => (dl env).fl fun xs e1 => match setV i (.l xs) e1 with
  | some e2 => .nx e2
  | none => .stuck
def sDrop (de : DE) : DS := fun env => (de env).fl fun _ e1 => .nx e1
def sRet (de : DE) : DS := fun env => (de env).fl fun d e1 => .rt d e1
def sRetL (dl : DA) : DS := fun env => (dl env).fl fun d e1 => .rl d e1
def sIf (t : DT) (s u : DS) : DS := fun env => (t env).fl fun b e1 => if b then s e1 else u e1
abbrev CS (X : Cx) (W : WX) (st : Stmt) (ds : DS) : Prop := PS X st (rdS X.K X.mg W ds)
abbrev CSs (X : Cx) (W : WX) (st : List Stmt) (ds : DS) : Prop := PSs X st (rdS X.K X.mg W ds)
variable {st : Stmt} {rest : List Stmt} {ds du : DS} {e : Expr} {de : DE}
theorem css_nil : CSs X W [] sNx := pss_imp pss_nil fun E σ H h => by
  obtain ⟨env, G, R, h⟩ := h
  exact h σ G H R (Fr.refl _ _ _ _)
theorem css_cons (h1 : CS X W st ds) (h2 : CSs X W rest du) : CSs X W (st :: rest) (sSeq ds du) := pss_imp (pss_cons h1 h2) fun E σ H h => by
  obtain ⟨env, G, R, h⟩ := h
  refine ⟨env, G, R, ?_⟩
  have h' : RunS X.K X.mg W env σ G H ((ds env).seq du) E := h
  cases q : ds env with
  | nx e1 =>
    rw [q] at h'
    exact fun σ' G' H' R' F' => ⟨e1, G', R', h'.shift F'⟩
  | bk e1 => rw [q] at h'; exact h'
  | ct e1 => rw [q] at h'; exact h'
  | rt d e1 => rw [q] at h'; exact h'
  | rl d e1 => rw [q] at h'; exact h'
  | ex d e1 => rw [q] at h'; exact h'
  | stuck => rw [q] at h'; exact h'
theorem css_one (h1 : CS X W st ds) : CSs X W [st] ds := pss_one h1
theorem asg_ok {K : PySem.W.Frag} {mg : Str → Option Value} {de : DE} {g : DG} {ws : List Nat} (E : Ends) (σ : L2.St) (H : Hp) (h : rdS K mg W (sAsg de g) E σ H) : tAsg (rdE K mg W de) (rdG K g ws) E σ H := by
  obtain ⟨env, G, R, h⟩ := h
  refine E_thenS R h fun d e1 v G1 H1 _ R1 dv F1 h1 => ?_
  cases q : g d e1 with
  | none => rw [q] at h1; exact h1.elim
  | some e2 =>
    rw [q] at h1
    exact ⟨e1, G1, d, R1, dv, e2, q, fun σ' R' F' _ => h1 σ' G1 H1 R' F'⟩
theorem cs_asg {tg : Expr} {g : DG} {ws : List Nat} (he : CE X W e de) (hg : CG X tg g ws) (hs : swapsWithSole [tg] e pos.line X.env = pure false := by rfl) (hw : swappedStores [tg] e X.env = pure none := by rfl)
    (h1 : (assignEach [tg] X.env).map (·.2) = [assign tg X.env] := by rfl) : CS X W (.Assign [tg] e pos) (sAsg de g) := ps_imp (ps_asg he hg hs hw h1) asg_ok
theorem cs_set {i : Nat} {x : Str} {pos' : Pos} (hN : X.N.Nodup) (he : CE X W e de) (hi : X.N[i]? = some x := by rfl) (hx : Loc X.env.scope x := by first | exact Or.inl rfl | exact Or.inr rfl) (hs : swapsWith e (some (.Name x pos')) pos.line X.env = pure false := by rfl) (hf : X.fn x = true ∨ X.env.scope.names.lookup x = some .local := by first | exact .inl rfl | exact .inr rfl | assumption) :
    CS X W (.Assign [.Name x pos'] e pos) (sAsg de (gN i)) := ps_imp (ps_set hN hi hx he hs hf) fun E σ H h => by
  obtain ⟨env, G, R, h⟩ := h
  refine E_thenS R h fun d e1 v G1 H1 _ R1 dv F1 h1 => ?_
  cases q : gN i d e1 with
  | none => rw [q] at h1; exact h1.elim
  | some e2 =>
    rw [q] at h1
    obtain ⟨s0, a1, a2, rfl⟩ := setV_some q
    exact h1 _ G1 H1 (R1.set a1 a2 ⟨v, rfl, dv⟩ (fun _ z => nomatch z) fun z => nomatch z) (Fr.set R1 a1 a2 (fun _ z => nomatch z) rfl)
theorem setL_ok {K : PySem.W.Frag} {mg : Str → Option Value} {i : Nat} {dl : DA} (E : Ends) (σ : L2.St) (H : Hp) (h : rdS K mg W (sAsgL i dl) E σ H) : tAsg (rdL K mg W dl) (gName i) E σ H := by
  obtain ⟨env, G, R, h⟩ := h
  refine L_thenS R h fun xs e1 a vs G1 H1 _ R1 h1 h2 h3 h4 dv F1 hk => ?_
  cases q : setV i (.l xs) e1 with
  | none => rw [q] at hk; exact hk.elim
  | some e2 =>
    rw [q] at hk
    obtain ⟨s0, a1, a2, rfl⟩ := setV_some q
    have li : i < e1.length := (List.getElem?_eq_some_iff.mp a1).1
    exact hk (σ.set i (some (.ref a))) G1 H1 (R1.set a1 a2 ⟨a, vs, rfl, h1, h2, dv⟩ (fun _ z => nomatch z) fun _ b hb => by cases hb; exact h4) (F1.setN R1 li (fun b hb => by cases hb; exact h3) rfl)
theorem cs_setL {i : Nat} {x : Str} {pos' : Pos} {dl : DA} (hN : X.N.Nodup) (he : CL X W e dl) (hi : X.N[i]? = some x := by rfl) (hx : Loc X.env.scope x := by first | exact Or.inl rfl | exact Or.inr rfl) (hs : swapsWith e (some (.Name x pos')) pos.line X.env = pure false := by rfl) (hf : X.fn x = true ∨ X.env.scope.names.lookup x = some .local := by first | exact .inl rfl | exact .inr rfl | assumption) :
    CS X W (.Assign [.Name x pos'] e pos) (sAsgL i dl) := ps_imp (ps_set hN hi hx he hs hf) setL_ok
theorem cs_drop (he : CE X W e de) (hs : swapsWith e none pos.line X.env = pure false := by rfl) : CS X W (.Expr e pos) (sDrop de) := ps_imp (ps_expr he hs) fun E σ H h => by
  obtain ⟨env, G, R, h⟩ := h
  exact E_thenS R h fun d e1 v G1 H1 _ R1 dv F1 h1 => h1 σ G1 H1 R1 (Fr.refl _ _ _ _)
theorem cs_ret (he : CE X W e de) : CS X W (.Return (some e) pos) (sRet de) := ps_imp (ps_ret he) fun E σ H h => by
  obtain ⟨env, G, R, h⟩ := h
  exact E_thenS R h fun d e1 v G1 H1 _ R1 dv F1 h1 => h1 v σ G1 H1 R1 dv (Fr.refl _ _ _ _)
theorem cs_retL {dl : DA} (he : CL X W e dl) : CS X W (.Return (some e) pos) (sRetL dl) := ps_imp (ps_ret he) fun E σ H h => by
  obtain ⟨env, G, R, h⟩ := h
  exact L_thenS R h fun xs e1 a vs G1 H1 _ R1 h1 h2 h3 h4 dv F1 hk => hk a vs σ G1 H1 R1 h1 h2 h3 h4 dv F1
theorem cs_if {c : Expr} {a b : List Stmt} {dt : DT} (hc : CT X W c dt) (ha : CSs X W a ds) (hb : CSs X W b du) : CS X W (.If c a b pos) (sIf dt ds du) := ps_imp (ps_if hc ha hb) fun E σ H h => by
  obtain ⟨env, G, R, h⟩ := h
  refine T_thenS R h fun d e1 G1 H1 _ R1 F1 h1 => ?_
  cases d with
  | true => exact ⟨e1, G1, R1, h1⟩
  | false => exact ⟨e1, G1, R1, h1⟩
/-- behind a turn -/
def Fl.turn (r : Fl) (k : DS) : Fl := match r with
  | .nx e2 => k e2
  | .ct e2 => k e2
  | .bk e2 => .nx e2
  | .rt d e2 => .rt d e2
  | .rl d e2 => .rl d e2
  | .ex x e2 => .ex x e2
  | .stuck => .stuck
def whileD (t : DT) (body : DS) : Nat → DS
  | 0 => fun _ => .stuck
  | n + 1 => fun env => (t env).fl fun b e1 => if b then (body e1).turn (whileD t body n) else .nx e1
theorem cs_while {c : Expr} {body : List Stmt} {dt : DT} {db : DS} (n : Nat) (hp : PassesOwn (model X.prog X.w) X.A X.env X.xe) (hc : CT X W c dt) (hb : CSs X W body db) : CS X W (.While c body [] pos) (whileD dt db n) := ps_imp (ps_while hp hc hb) fun E σ H h => by
  refine ⟨fun m σ H => rdS X.K X.mg W (whileD dt db m) E σ H, ⟨n, h⟩, fun m σ H h => ?_⟩
  obtain ⟨env, G, R, h⟩ := h
  cases m with
  | zero => exact h.elim
  | succ m =>
    refine T_thenS R h fun d e1 G1 H1 _ R1 F1 h1 => ?_
    cases d with
    | false => exact h1 σ G1 H1 R1 (Fr.refl _ _ _ _)
    | true =>
      refine ⟨fun σ' H' => rdS X.K X.mg W (whileD dt db m) E σ' H', fun σ' H' z => ⟨m, Nat.lt_succ_self m, z⟩, e1, G1, R1, ?_⟩
      have h1' : RunS X.K X.mg W e1 σ G1 H1 ((db e1).turn (whileD dt db m)) E := h1
      cases q : db e1 with
      | nx e2 => rw [q] at h1'; exact fun σ' G' H' R' F' => ⟨e2, G', R', h1'.shift F'⟩
      | ct e2 => rw [q] at h1'; exact fun σ' G' H' R' F' => ⟨e2, G', R', h1'.shift F'⟩
      | bk e2 => rw [q] at h1'; exact h1'
      | rt d e2 => rw [q] at h1'; exact h1'
      | rl d e2 => rw [q] at h1'; exact h1'
      | ex x e2 => rw [q] at h1'; exact h1'
      | stuck => rw [q] at h1'; exact h1'
/-- J gives ds, one by one, as long as G stands -/
def WalkD (K : PySem.W.Frag) (J : It) (ds : List D) (G : Hp) : Prop := ∀ (i : Nat) (G' H' : Hp), Ex G G' → Ex G' H' →
  (∀ d, ds[i]? = some d → J.go i H' ∧ ∀ x H'', J.yld i H' x H'' → ∃ G'', Grow G' H' G'' H'' ∧ Dv K G'' x d) ∧ (ds.length ≤ i → J.stop i H')
def RunI (K : PySem.W.Frag) (mg : Str → Option Value) (W : WX) (env : DEnv) (σ : L2.St) (G H : Hp) (r : Rs (List D)) (R : It → Hp → Prop) : Prop := match r with
  | .ok ds env' => ∀ J G' H', Rel K env' σ G' H' → WalkD K J ds G' → Fr env σ G H env' σ G' H' → R J H'
  | .ex x env' => RunX K mg W env σ G H x env'
  | .stuck => False
def rdI (K : PySem.W.Frag) (mg : Str → Option Value) (W : WX) (di : DA) : TI := fun σ H R => ∃ env G, Rel K env σ G H ∧ RunI K mg W env σ G H (di env) R
abbrev CI (X : Cx) (W : WX) (tg e : Expr) (di : DA) : Prop := PI X tg e (rdI X.K X.mg W di)
theorem pi_imp {tg e : Expr} {t t' : TI} (h : PI X tg e t) (k : ∀ σ H R, t' σ H R → t σ H R) : PI X tg e t' := ⟨fun pins s σ H R I w => h.run pins s σ H R I (k σ H R w)⟩
theorem pi_or {tg e : Expr} {t u : TI} (h1 : PI X tg e t) (h2 : PI X tg e u) : PI X tg e (fun σ H R => t σ H R ∨ u σ H R) := ⟨fun pins s σ H R I w => w.elim (fun z => h1.run pins s σ H R I z) fun z => h2.run pins s σ H R I z⟩
def forD (g : DG) (body : DS) : List D → DS
  | [] => fun env => .nx env
  | d :: ds => fun env => match g d env with
    | none => .stuck
    | some e1 => (body e1).turn (forD g body ds)
def sFor (di : DA) (g : DG) (body : DS) : DS := fun env => (di env).fl fun ds e1 => forD g body ds e1
theorem cs_for {tg iter : Expr} {body : List Stmt} {di : DA} {g : DG} {ws : List Nat} {db : DS} (hp : PassesOwn (model X.prog X.w) X.A X.env X.xe) (hc : X.calm = true) (hi : CI X W tg iter di) (hg : CG X tg g ws) (hb : CSs X W body db)
    (hs : ∀ x, foldedSetIterable iter X.env x = pure x := by intro _; rfl) : CS X W (.For tg iter body [] pos) (sFor di g db) := ps_imp (ps_for hp hc hi hg hb hs) fun E σ H h => by
  obtain ⟨env, G, R, h⟩ := h
  refine ⟨env, G, R, ?_⟩
  have h' : RunS X.K X.mg W env σ G H ((di env).fl fun ds e1 => forD g db ds e1) E := h
  cases q : di env with
  | ex x e => rw [q] at h'; exact RunXS.toX h'
  | stuck => rw [q] at h'; exact h'
  | ok xs e1 =>
    rw [q] at h'
    intro J G1 H1 R1 wk F1
    refine ⟨fun i m σ' H' => ∃ env' G', Rel X.K env' σ' G' H' ∧ Ex G1 G' ∧ RunS X.K X.mg W env' σ' G' H' (forD g db (xs.drop i) env') E ∧ m + i = xs.length,
      ⟨xs.length, e1, G1, R1, Ex.refl _, h'.shift F1, rfl⟩, ?_⟩
    rintro i m σ' H' ⟨env', G', R', ex', run, em⟩
    obtain ⟨w1, w2⟩ := wk i G' H' ex' R'.ex
    by_cases hi : i < xs.length
    · have hd : xs[i]? = some xs[i] := List.getElem?_eq_getElem hi
      obtain ⟨go, yl⟩ := w1 _ hd
      refine .inr ⟨go, fun σ2 H2 => ∃ env2 G2, Rel X.K env2 σ2 G2 H2 ∧ Ex G1 G2 ∧ RunS X.K X.mg W env2 σ2 G2 H2 (forD g db (xs.drop (i + 1)) env2) E, fun σ2 H2 ⟨env2, G2, r2, x2, s2⟩ => ⟨m - 1, by omega, env2, G2, r2, x2, s2, by omega⟩, fun x H'' y => ?_⟩
      obtain ⟨G'', gr, dv⟩ := yl x H'' y
      have run2 := run.shift (gr.fr R')
      rw [List.drop_eq_getElem_cons hi] at run2
      have run3 : RunS X.K X.mg W env' σ' G'' H'' (match g xs[i] env' with
        | none => .stuck
        | some e1 => (db e1).turn (forD g db (xs.drop (i + 1)))) E := run2
      cases q2 : g xs[i] env' with
      | none => rw [q2] at run3; exact run3.elim
      | some e2 =>
        rw [q2] at run3
        refine ⟨env', G'', xs[i], R'.grow gr, dv, e2, q2, fun σ2 R2 F2 _ => ⟨e2, G'', R2, ?_⟩⟩
        have run4 : RunS X.K X.mg W e2 σ2 G'' H'' ((db e2).turn (forD g db (xs.drop (i + 1)))) E := RunS.shift run3 F2
        cases q3 : db e2 with
        | nx e3 => rw [q3] at run4; exact fun σ3 G3 H3 R3 F3 => ⟨e3, G3, R3, (ex'.trans gr.gg).trans F3.gg, run4.shift F3⟩
        | ct e3 => rw [q3] at run4; exact fun σ3 G3 H3 R3 F3 => ⟨e3, G3, R3, (ex'.trans gr.gg).trans F3.gg, run4.shift F3⟩
        | bk e3 => rw [q3] at run4; exact run4
        | rt d e3 => rw [q3] at run4; exact run4
        | rl d e3 => rw [q3] at run4; exact run4
        | ex x e3 => rw [q3] at run4; exact run4
        | stuck => rw [q3] at run4; exact run4
    · have ei : xs.drop i = [] := List.drop_eq_nil_of_le (by omega)
      rw [ei] at run
      exact .inl ⟨w2 (by omega), run σ' G' H' R' (Fr.refl _ _ _ _)⟩
end
end DL
set_option Elab.async false
set_option linter.all false
set_option maxRecDepth 100000
set_option autoImplicit false
namespace DL
open PySem L2
def iSeq (de : DE) : DA := fun env => (de env).bind fun d e1 => match d with
  | .list xs => .ok xs e1
  | .tuple xs => .ok xs e1
  | _ => .stuck
def rngD (lo hi : Int) : List D := (List.range (hi - lo).toNat).map fun k => .int (lo + (k : Nat))
def int1 : List D → Option Int
  | [.int j] => some j
  | _ => none
theorem int1_some {ds : List D} {j : Int} (h : int1 ds = some j) : ds = [.int j] := by
  unfold int1 at h
  split at h
  · cases h; rfl
  · cases h
noncomputable def iRng1 (da : DA) : DA := fun env => (da env).bind fun ds e1 => match int1 ds with
  | some j => if I62 j then .ok (rngD 0 j) e1 else .stuck
  | none => .stuck
theorem walk_list {K : PySem.W.Frag} {G : Hp} {a : Addr} {xs : List V} {ds : List D} (h : RL K G a xs) (dv : DvAll K G xs ds) : WalkD K (Itl K a) ds G := fun i G' H' e1 e2 => by
  have hq : SqL K H' a xs := ((e1.trans e2).rl h).sq
  refine ⟨fun d hd => ?_, fun hl => ⟨xs, hq, by rw [dv.length]; exact hl⟩⟩
  obtain ⟨v, hv, dvv⟩ := dv.get hd
  refine ⟨⟨xs, v, hq, hv⟩, fun x H'' ⟨e, y⟩ => ?_⟩
  subst e
  have : x = v := Option.some.inj ((y xs hq).symm.trans hv)
  subst this
  exact ⟨G', Grow.refl e2, dvv.up e1⟩
theorem walk_tup {K : PySem.W.Frag} {G : Hp} {a : Addr} {xs : List V} {ds : List D} (h : SqT K G a xs) (dv : DvAll K G xs ds) : WalkD K (Itt K a) ds G := fun i G' H' e1 e2 => by
  have hq : SqT K H' a xs := (e1.trans e2).t h
  refine ⟨fun d hd => ?_, fun hl => ⟨xs, hq, by rw [dv.length]; exact hl⟩⟩
  obtain ⟨v, hv, dvv⟩ := dv.get hd
  refine ⟨⟨xs, v, hq, hv⟩, fun x H'' ⟨e, y⟩ => ?_⟩
  subst e
  have : x = v := Option.some.inj ((y xs hq).symm.trans hv)
  subst this
  exact ⟨G', Grow.refl e2, dvv.up e1⟩
theorem walk_rng {K : PySem.W.Frag} {G : Hp} (lo hi : Int) : WalkD K (Itr lo (hi - lo).toNat) (rngD lo hi) G := fun i G' H' e1 e2 => by
  have hl : (rngD lo hi).length = (hi - lo).toNat := by simp [rngD]
  refine ⟨fun d hd => ?_, fun hl' => by rw [hl] at hl'; exact hl'⟩
  obtain ⟨h1, h2⟩ := List.getElem?_eq_some_iff.mp hd
  have h1' : i < (hi - lo).toNat := by rw [← hl]; exact h1
  refine ⟨h1', fun x H'' ⟨e, y⟩ => ?_⟩
  subst e
  have ed : d = .int (lo + (i : Nat)) := by rw [← h2]; simp [rngD]
  subst ed
  rw [y]
  exact ⟨G', Grow.refl e2, .int _⟩
section
variable {X : Cx} {W : WX} {pos : Pos} {tg e : Expr} {de : DE}
theorem ci_seq (he : CE X W e de) : CI X W tg e (iSeq de) := pi_imp (pi_or (pi_list he) (pi_tup he)) fun σ H R h => by
  obtain ⟨env, G, R0, h⟩ := h
  have h' : RunI X.K X.mg W env σ G H ((de env).bind fun d e1 => match d with
    | .list xs => .ok xs e1
    | .tuple xs => .ok xs e1
    | _ => .stuck) R := h
  cases q : de env with
  | stuck => rw [q] at h'; exact h'.elim
  | ex x e => rw [q] at h'; exact .inl ⟨env, G, R0, by rw [q]; exact h'⟩
  | ok d e1 =>
    rw [q] at h'
    cases d with
    | list xs =>
      refine .inl ⟨env, G, R0, ?_⟩
      rw [q]
      intro v G1 H1 R1 dv F1
      cases dv with
      | lst a b => exact ⟨_, rfl, ⟨_, (R1.ex.rl a).sq⟩, h' _ G1 H1 R1 (walk_list a b) F1⟩
    | tuple xs =>
      refine .inr ⟨env, G, R0, ?_⟩
      rw [q]
      intro v G1 H1 R1 dv F1
      cases dv with
      | tup a b => exact ⟨_, rfl, ⟨_, (R1.ex.n a).t⟩, h' _ G1 H1 R1 (walk_tup a.t b) F1⟩
    | none => exact h'.elim
    | bool b => exact h'.elim
    | int b => exact h'.elim
    | str b => exact h'.elim
    | dict b => exact h'.elim
theorem A_thenI {K : PySem.W.Frag} {mg : Str → Option Value} {env : DEnv} {σ : L2.St} {G H : Hp} {da : DA} {f : List D → DEnv → Rs (List D)} {R : It → Hp → Prop} {R' : List V → Hp → Prop} (hR : Rel K env σ G H) (h : RunI K mg W env σ G H ((da env).bind f) R)
    (k : ∀ d e1 v G1 H1, da env = .ok d e1 → Rel K e1 σ G1 H1 → DvAll K G1 v d → Fr env σ G H e1 σ G1 H1 → RunI K mg W e1 σ G1 H1 (f d e1) R → R' v H1) : rdA K mg W da σ H R' :=
  A_then hR (P := fun e s G H r => RunI K mg W e s G H r R) h (fun _ _ z => z) (fun z => z) (fun e1 G1 H1 r a b => by
    cases r with
    | ok ds e => exact fun J G' H' x y z => a J G' H' x y (b.trans z)
    | ex x e => exact RunX.shift a b
    | stuck => exact a) k
theorem ci_range1 {a : Expr} {da : DA} {p : Pos} (hm : X.mg "range" = none) (ha : CA X W [a] da) (hg : Gl X "range" := by rfl) (hs : starEach [a] X.env = [(false, eval a X.env)] := by rfl) : CI X W tg (.Call (.Name "range" p) [a] [] pos) (iRng1 da) :=
  pi_imp (pi_range1 hg hm ha hs) fun σ H R h => by
    obtain ⟨env, G, R0, h⟩ := h
    refine A_thenI R0 h fun ds e1 vs G1 H1 q R1 dv F1 h1 => ?_
    cases q2 : int1 ds with
    | none => rw [q2] at h1; exact h1.elim
    | some j =>
      rw [q2] at h1
      have e := int1_some q2
      subst e
      obtain ⟨v, rfl, dv1⟩ := dv.inv1
      obtain rfl : v = .int j := by cases dv1; rfl
      by_cases c : I62 j
      · have h2 : RunI X.K X.mg W e1 σ G1 H1 (if I62 j then .ok (rngD 0 j) e1 else .stuck) R := h1
        rw [if_pos c] at h2
        have w := walk_rng (K := X.K) (G := G1) 0 j
        rw [Int.sub_zero] at w
        exact ⟨j, rfl, c.1, c.2, h2 _ G1 H1 R1 w (Fr.refl _ _ _ _)⟩
      · have h2 : RunI X.K X.mg W e1 σ G1 H1 (if I62 j then .ok (rngD 0 j) e1 else .stuck) R := h1
        rw [if_neg c] at h2
        exact h2.elim
end
def wipeD (env : DEnv) : List Nat → DEnv
  | [] => env
  | v :: vs => (wipeD env vs).set v .no
def mergeD (env0 env : DEnv) : List Nat → DEnv
  | [] => env
  | v :: vs => (mergeD env0 env vs).set v (env0.getD v .no)
def noOwn (env : DEnv) (vs : List Nat) : Bool := vs.all fun i => match env[i]? with
  | some s => !s.own
  | none => false
def compD (g : DG) (t : DT) (e : DE) (vs : List Nat) : List D → DA
  | [] => fun env => .ok [] env
  | d :: ds => fun env => match g d env with
    | none => .stuck
    | some e1 => (t e1).bind fun b e2 => if b then (e e2).bind fun y e3 => (compD g t e vs ds (wipeD e3 vs)).bind fun ys e4 => .ok (y :: ys) e4 else compD g t e vs ds (wipeD e2 vs)
def lComp (di : DA) (g : DG) (t : DT) (e : DE) (vs : List Nat) : DA := fun env => (di env).bind fun ds e1 =>
  if ds.length ≤ 100000 ∧ noOwn e1 vs = true then match compD g t e vs ds (wipeD e1 vs) with
    | .ok ys e2 => .ok ys (mergeD e1 e2 vs)
    | _ => .stuck
  else .stuck
theorem wipe_get (σ : L2.St) (j : Nat) : ∀ vs : List Nat, (wipe σ vs)[j]? = if j ∈ vs then (σ[j]?).map fun _ => none else σ[j]?
  | [] => by simp [wipe]
  | v :: vs => by
    unfold wipe
    by_cases h : j = v
    · subst h
      rw [if_pos (by simp)]
      by_cases hl : j < (wipe σ vs).length
      · rw [List.getElem?_set_self hl]
        rw [wipe_length] at hl
        rw [List.getElem?_eq_getElem hl]; rfl
      · rw [List.getElem?_eq_none (by simpa using hl)]
        rw [wipe_length] at hl
        rw [List.getElem?_eq_none (by omega)]; rfl
    · rw [List.getElem?_set_ne (Ne.symm h), wipe_get σ j vs]
      by_cases hv : j ∈ vs
      · rw [if_pos hv, if_pos (by simp [hv])]
      · rw [if_neg hv, if_neg (by simp [h, hv])]
theorem wipeD_length (env : DEnv) : ∀ vs : List Nat, (wipeD env vs).length = env.length
  | [] => rfl
  | v :: vs => by unfold wipeD; rw [List.length_set, wipeD_length env vs]
theorem wipeD_get (env : DEnv) (j : Nat) : ∀ vs : List Nat, (wipeD env vs)[j]? = if j ∈ vs then (env[j]?).map fun _ => Sl.no else env[j]?
  | [] => by simp [wipeD]
  | v :: vs => by
    unfold wipeD
    by_cases h : j = v
    · subst h
      rw [if_pos (by simp)]
      by_cases hl : j < (wipeD env vs).length
      · rw [List.getElem?_set_self hl]
        rw [wipeD_length] at hl
        rw [List.getElem?_eq_getElem hl]; rfl
      · rw [List.getElem?_eq_none (by simpa using hl)]
        rw [wipeD_length] at hl
        rw [List.getElem?_eq_none (by omega)]; rfl
    · rw [List.getElem?_set_ne (Ne.symm h), wipeD_get env j vs]
      by_cases hv : j ∈ vs
      · rw [if_pos hv, if_pos (by simp [hv])]
      · rw [if_neg hv, if_neg (by simp [h, hv])]
theorem mergeD_length (env0 env : DEnv) : ∀ vs : List Nat, (mergeD env0 env vs).length = env.length
  | [] => rfl
  | v :: vs => by unfold mergeD; rw [List.length_set, mergeD_length env0 env vs]
theorem mergeD_get (env0 env : DEnv) (hl0 : env0.length = env.length) (j : Nat) : ∀ vs : List Nat, (mergeD env0 env vs)[j]? = if j ∈ vs then env0[j]? else env[j]?
  | [] => by simp [mergeD]
  | v :: vs => by
    unfold mergeD
    by_cases h : j = v
    · subst h
      rw [if_pos (by simp)]
      by_cases hl : j < (mergeD env0 env vs).length
      · rw [List.getElem?_set_self hl]
        rw [mergeD_length] at hl
        rw [List.getD_eq_getElem?_getD, List.getElem?_eq_getElem (by omega)]; rfl
      · rw [List.getElem?_eq_none (by simpa using hl)]
        rw [mergeD_length] at hl
        rw [List.getElem?_eq_none (by omega)]
    · rw [List.getElem?_set_ne (Ne.symm h), mergeD_get env0 env hl0 j vs]
      by_cases hv : j ∈ vs
      · rw [if_pos hv, if_pos (by simp [hv])]
      · rw [if_neg hv, if_neg (by simp [h, hv])]
theorem wipe_ext {σ1 σ2 : L2.St} {vs : List Nat} (hl : σ1.length = σ2.length) (h : ∀ j : Nat, j ∉ vs → σ1[j]? = σ2[j]?) : wipe σ1 vs = wipe σ2 vs := by
  refine List.ext_getElem? fun j => ?_
  rw [wipe_get, wipe_get]
  by_cases hv : j ∈ vs
  · rw [if_pos hv, if_pos hv]
    by_cases c : j < σ1.length
    · rw [List.getElem?_eq_getElem c, List.getElem?_eq_getElem (by omega)]; rfl
    · rw [List.getElem?_eq_none (by omega), List.getElem?_eq_none (by omega)]
  · rw [if_neg hv, if_neg hv, h j hv]
theorem wipe_own {env : DEnv} {σ : L2.St} {H : Hp} {vs : List Nat} {i : Nat} {a : Addr} (h : OwnAt (wipeD env vs) (wipe σ vs) H i a) : OwnAt env σ H i a ∧ i ∉ vs := by
  obtain ⟨s, o, e1, e3, w⟩ := h
  rw [wipeD_get] at e1
  rw [wipe_get] at e3
  by_cases hv : i ∈ vs
  · rw [if_pos hv] at e1
    cases q : env[i]? with
    | none => rw [q] at e1; cases e1
    | some t => rw [q] at e1; cases e1; exact w.elim
  · rw [if_neg hv] at e1 e3
    exact ⟨⟨s, o, e1, e3, w⟩, hv⟩
theorem Rel.wipe {K : PySem.W.Frag} {env : DEnv} {σ : L2.St} {G H : Hp} (R : Rel K env σ G H) (vs : List Nat) : Rel K (wipeD env vs) (L2.wipe σ vs) G H := by
  refine ⟨R.ex, by rw [wipeD_length, wipe_length]; exact R.len, fun i s o e1 e2 => ?_, fun i j a x y => R.dist i j a (wipe_own x).1 (wipe_own y).1⟩
  rw [wipeD_get] at e1
  rw [wipe_get] at e2
  by_cases hv : i ∈ vs
  · rw [if_pos hv] at e1
    cases q : env[i]? with
    | none => rw [q] at e1; cases e1
    | some t => rw [q] at e1; cases e1; trivial
  · rw [if_neg hv] at e1 e2
    exact R.slot i s o e1 e2
theorem Fr.wipe (env : DEnv) (σ : L2.St) (G H : Hp) (vs : List Nat) : Fr env σ G H (wipeD env vs) (L2.wipe σ vs) G H := by
  refine ⟨Ex.refl _, fun _ _ h _ => h, fun _ h => h, fun _ h => .inl h, fun a ⟨i, h⟩ => .inl ⟨i, (wipe_own h).1⟩, fun i s h n => ?_⟩
  rw [wipeD_get] at h
  by_cases hv : i ∈ vs
  · rw [if_pos hv] at h
    cases q : env[i]? with
    | none => rw [q] at h; cases h
    | some t => rw [q] at h; cases h; exact absurd rfl n
  · rw [if_neg hv] at h
    rw [wipe_get, if_neg hv]
    exact ⟨rfl, s, h, rfl⟩
/-- an object that was not there at first is changed -/
theorem Fr.mutNew {env env' : DEnv} {σ σ' : L2.St} {G H G' H' : Hp} {p : Addr} {o : HO} (F : Fr env σ G H env' σ' G' H') (h : H p = none) (m : ∀ i a, OwnAt env' σ' (upd H' p o) i a ↔ OwnAt env' σ' H' i a) : Fr env σ G H env' σ' G' (upd H' p o) :=
  ⟨F.gg, fun a u ha hn => by rw [upd_ne (ne_of_none ha h)]; exact F.keep a u ha hn, fun a ha => by
    by_cases z : a = p
    · subst z; exact h
    · rw [upd_ne z] at ha; exact F.dom a ha, F.fresh, fun a ⟨i, w⟩ => F.own a ⟨i, (m i a).1 w⟩, F.par⟩
theorem Rel.mutFreeO {K : PySem.W.Frag} {env : DEnv} {σ : L2.St} {G H : Hp} {p : Addr} {o : HO} (R : Rel K env σ G H) (hg : G p = none) (hn : ¬ Own env σ H p) : Rel K env σ G (upd H p o) ∧ ∀ i a, OwnAt env σ (upd H p o) i a ↔ OwnAt env σ H i a :=
  R.move (fun a u ha => by
    rw [upd_ne (fun z => by subst z; rw [hg] at ha; cases ha)]
    exact R.ex a u ha) (Ex.refl _) (fun a w => upd_ne fun z => by subst z; exact hn w) fun a w => (w.there R).2
theorem Rel.mutFree {K : PySem.W.Frag} {env : DEnv} {σ : L2.St} {G H : Hp} {p : Addr} {o : HO} (R : Rel K env σ G H) (hg : G p = none) (hn : ¬ Own env σ H p) : Rel K env σ G (upd H p o) := (R.mutFreeO hg hn).1
/-- no exception leaves -/
abbrev WF : WX := fun _ _ _ _ => False
section
variable {X : Cx} {W : WX} {pos : Pos}
theorem lc_ok {K : PySem.W.Frag} {mg : Str → Option Value} {di : DA} {g : DG} {ws : List Nat} {t : DT} {e : DE} {vs : List Nat} (hws : ∀ j ∈ ws, j ∈ vs) (σ : L2.St) (H : Hp) (Q : VK) (hQ : rdL K mg W (lComp di g t e vs) σ H Q) :
    tLc (rdI K mg W di) (rdG K g ws) (rdT K mg WF t) (rdE K mg WF e) vs σ H Q := by
  obtain ⟨env, G, R, h⟩ := hQ
  refine ⟨env, G, R, ?_⟩
  have h' : RunL K mg W env σ G H ((di env).bind fun ds e1 => if ds.length ≤ 100000 ∧ noOwn e1 vs = true then match compD g t e vs ds (wipeD e1 vs) with
    | .ok ys e2 => .ok ys (mergeD e1 e2 vs)
    | _ => .stuck else .stuck) Q := h
  cases q : di env with
  | stuck => rw [q] at h'; exact h'
  | ex x e => rw [q] at h'; exact h'
  | ok ds e1 =>
    rw [q] at h'
    intro J G1 H1 R1 wk F1 A hA
    have h2 : RunL K mg W env σ G H (if ds.length ≤ 100000 ∧ noOwn e1 vs = true then match compD g t e vs ds (wipeD e1 vs) with
      | .ok ys e2 => .ok ys (mergeD e1 e2 vs)
      | _ => .stuck else .stuck) Q := h'
    by_cases c : ds.length ≤ 100000 ∧ noOwn e1 vs = true
    · rw [if_pos c] at h2
      cases qc : compD g t e vs ds (wipeD e1 vs) with
      | stuck => rw [qc] at h2; exact h2.elim
      | ex x e => rw [qc] at h2; exact h2.elim
      | ok ys e2 =>
        rw [qc] at h2
        have Rw := R1.wipe vs
        have gA : G1 A = none := R1.ex.none hA
        have nA : ¬ Own (wipeD e1 vs) (L2.wipe σ vs) H1 A := fun z => (z.there Rw).1 hA
        have mA := (Rw.mutFreeO (o := .lst []) gA nA).2
        refine ⟨fun i m H' => ∃ env' G' acc vacc zs, Rel K env' (L2.wipe σ vs) G' H' ∧ Ex G1 G' ∧ Fr (wipeD e1 vs) (L2.wipe σ vs) G1 H1 env' (L2.wipe σ vs) G' H' ∧ H' A = some (.lst vacc) ∧ G' A = none ∧ ¬ Own env' (L2.wipe σ vs) H' A ∧ DvAll K G' vacc acc ∧ acc.length ≤ i ∧
            compD g t e vs (ds.drop i) env' = .ok zs e2 ∧ ys = acc ++ zs ∧ m + i = ds.length,
          ⟨ds.length, wipeD e1 vs, G1, [], [], ys, Rw.mutFree gA nA, Ex.refl _, ⟨Ex.refl _, fun a u ha _ => by rw [upd_ne (ne_of_none ha hA)]; exact ha, fun a ha => ?_, fun _ z => .inl z, fun a ⟨i, z⟩ => .inl ⟨i, (mA i a).1 z⟩, fun _ s z _ => ⟨rfl, s, z, rfl⟩⟩, upd_same, gA, fun ⟨i, z⟩ => nA ⟨i, (mA i A).1 z⟩, .nil, Nat.le_refl _, qc, rfl, rfl⟩, ?_⟩
        · by_cases z : a = A
          · subst z; exact hA
          · rw [upd_ne z] at ha; exact ha
        · rintro i m H' ⟨env', G', acc, vacc, zs, R', ex', F', a1, a2, a3, a4, a5, a6, a7, em⟩
          obtain ⟨w1, w2⟩ := wk i G' H' ex' R'.ex
          by_cases hi : i < ds.length
          · have hd : ds[i]? = some ds[i] := List.getElem?_eq_getElem hi
            obtain ⟨go, yl⟩ := w1 _ hd
            refine .inr ⟨go, fun H2 => ∃ env' G' acc vacc zs, Rel K env' (L2.wipe σ vs) G' H2 ∧ Ex G1 G' ∧ Fr (wipeD e1 vs) (L2.wipe σ vs) G1 H1 env' (L2.wipe σ vs) G' H2 ∧ H2 A = some (.lst vacc) ∧ G' A = none ∧ ¬ Own env' (L2.wipe σ vs) H2 A ∧ DvAll K G' vacc acc ∧ acc.length ≤ i + 1 ∧
              compD g t e vs (ds.drop (i + 1)) env' = .ok zs e2 ∧ ys = acc ++ zs, fun H2 ⟨env', G', acc, vacc, zs, b1, b2, b3, b4, b5, b6, b7, b8, b9, b10⟩ => ⟨m - 1, by omega, env', G', acc, vacc, zs, b1, b2, b3, b4, b5, b6, b7, b8, b9, b10, by omega⟩, fun x H'' y => ?_⟩
            obtain ⟨G'', gr, dv⟩ := yl x H'' y
            rw [List.drop_eq_getElem_cons hi] at a6
            have R'' := R'.grow gr
            have F'' := F'.trans (gr.fr R')
            have gA'' : G'' A = none := by
              cases z : G'' A with
              | none => rfl
              | some u =>
                rcases gr.fresh A (by rw [z]; exact fun w => by cases w) with w | w
                · exact absurd a2 w
                · rw [w] at a1; cases a1
            have hA'' : H'' A = some (.lst vacc) := gr.hh _ _ a1
            have a6' : (match g ds[i] env' with
              | none => Rs.stuck
              | some e1 => (t e1).bind fun b e2 => if b then (e e2).bind fun y e3 => (compD g t e vs (ds.drop (i + 1)) (wipeD e3 vs)).bind fun ys e4 => .ok (y :: ys) e4 else compD g t e vs (ds.drop (i + 1)) (wipeD e2 vs)) = .ok zs e2 := a6
            cases qg : g ds[i] env' with
            | none => rw [qg] at a6'; cases a6'
            | some f1 =>
              rw [qg] at a6'
              refine ⟨env', G'', ds[i], R'', dv, f1, qg, fun σ2 R2 F2 T2 => ?_⟩
              have hwipe : L2.wipe σ2 vs = L2.wipe σ vs := by
                have e1 : L2.wipe σ2 vs = L2.wipe (L2.wipe σ vs) vs := wipe_ext T2.1 fun j hj => T2.2 j fun z => hj (hws j z)
                rw [e1]
                refine wipe_ext (wipe_length _ _) fun j hj => ?_
                rw [wipe_get, if_neg hj]
              refine ⟨hwipe, ?_⟩
              have own2 : ¬ Own f1 σ2 H'' A := fun z => by
                rcases F2.own A z with ⟨k, w⟩ | w
                · exact a3 ⟨k, ((R'.growO gr).2 k A).1 w⟩
                · rw [w] at hA''; cases hA''
              have stay : ∀ {f2 : DEnv} {G3 H3 : Hp}, Rel K f2 σ2 G3 H3 → Fr f1 σ2 G'' H'' f2 σ2 G3 H3 → H3 A = some (.lst vacc) ∧ G3 A = none ∧ ¬ Own f2 σ2 H3 A := fun {f2 G3 H3} R3 F3 => by
                have h3 : H3 A = some (.lst vacc) := F3.keep A _ hA'' own2
                refine ⟨h3, ?_, fun z => ?_⟩
                · cases z : G3 A with
                  | none => rfl
                  | some u =>
                    rcases F3.fresh A (by rw [z]; exact fun w => by cases w) with w | w | w
                    · exact absurd gA'' w
                    · rw [w] at hA''; cases hA''
                    · exact absurd w own2
                · rcases F3.own A z with w | w
                  · exact own2 w
                  · rw [w] at hA''; cases hA''
              refine ⟨f1, G'', R2, ?_⟩
              have a6' : ((t f1).bind fun b e2 => if b then (e e2).bind fun y e3 => (compD g t e vs (ds.drop (i + 1)) (wipeD e3 vs)).bind fun ys e4 => .ok (y :: ys) e4 else compD g t e vs (ds.drop (i + 1)) (wipeD e2 vs)) = .ok zs e2 := a6'
              cases qt : t f1 with
              | stuck => rw [qt] at a6'; cases a6'
              | ex x e => rw [qt] at a6'; cases a6'
              | ok b f2 =>
                rw [qt] at a6'
                intro G3 H3 R3 F3
                obtain ⟨s1, s2, s3⟩ := stay R3 F3
                have a7' : (if b then (e f2).bind fun y e3 => (compD g t e vs (ds.drop (i + 1)) (wipeD e3 vs)).bind fun ys e4 => .ok (y :: ys) e4 else compD g t e vs (ds.drop (i + 1)) (wipeD f2 vs)) = .ok zs e2 := a6'
                cases b with
                | false =>
                  have a8 : compD g t e vs (ds.drop (i + 1)) (wipeD f2 vs) = .ok zs e2 := a7'
                  have Rn := R3.wipe vs
                  rw [hwipe] at Rn
                  have Fn := ((F''.trans F2).trans F3).trans (Fr.wipe f2 σ2 G3 H3 vs)
                  rw [hwipe] at Fn
                  refine ⟨wipeD f2 vs, G3, acc, vacc, zs, Rn, (ex'.trans gr.gg).trans F3.gg, Fn, s1, s2, fun z => ?_, a4.up (gr.gg.trans F3.gg), by omega, a8, a7⟩
                  rw [← hwipe] at z
                  obtain ⟨k, hk⟩ := z
                  exact s3 ⟨k, (wipe_own hk).1⟩
                | true =>
                  have a8 : (e f2).bind (fun y e3 => (compD g t e vs (ds.drop (i + 1)) (wipeD e3 vs)).bind fun ys e4 => .ok (y :: ys) e4) = .ok zs e2 := a7'
                  refine ⟨f2, G3, R3, ?_⟩
                  cases qe : e f2 with
                  | stuck => rw [qe] at a8; cases a8
                  | ex x e => rw [qe] at a8; cases a8
                  | ok y0 f3 =>
                    rw [qe] at a8
                    intro v G4 H4 R4 dv4 F4
                    obtain ⟨u1, u2, u3⟩ := stay R4 (F3.trans F4)
                    have a9 : (compD g t e vs (ds.drop (i + 1)) (wipeD f3 vs)).bind (fun ys e4 => .ok (y0 :: ys) e4) = .ok zs e2 := a8
                    cases qn : compD g t e vs (ds.drop (i + 1)) (wipeD f3 vs) with
                    | stuck => rw [qn] at a9; cases a9
                    | ex x e => rw [qn] at a9; cases a9
                    | ok zs' e5 =>
                      rw [qn] at a9
                      cases a9
                      have Rn := R4.wipe vs
                      rw [hwipe] at Rn
                      have Fn := (((F''.trans F2).trans F3).trans F4).trans (Fr.wipe f3 σ2 G4 H4 vs)
                      rw [hwipe] at Fn
                      have nown : ¬ Own (wipeD f3 vs) (L2.wipe σ vs) H4 A := fun z => by
                        rw [← hwipe] at z
                        obtain ⟨k, hk⟩ := z
                        exact u3 ⟨k, (wipe_own hk).1⟩
                      have up4 : Ex G' G4 := (gr.gg.trans F3.gg).trans F4.gg
                      have mN := (Rn.mutFreeO (o := .lst (vacc ++ [v])) u2 nown).2
                      refine ⟨vacc, u1, ?_, wipeD f3 vs, G4, acc ++ [y0], vacc ++ [v], zs', Rn.mutFree u2 nown, ((ex'.trans gr.gg).trans F3.gg).trans F4.gg, Fn.mutNew hA mN, upd_same, u2, fun ⟨i, z⟩ => nown ⟨i, (mN i A).1 z⟩, (a4.up up4).append (.one dv4), ?_, qn, by rw [a7]; simp⟩
                      · rw [a4.length]
                        exact Nat.lt_of_lt_of_le (show acc.length < 100000 by omega) (by decide)
                      · simp; omega
          · have ei : ds.drop i = [] := List.drop_eq_nil_of_le (by omega)
            rw [ei] at a6
            have a6' : Rs.ok ([] : List D) env' = Rs.ok zs e2 := a6
            injection a6' with z1 z2
            refine .inl ⟨w2 (by omega), ?_⟩
            rw [← z1, List.append_nil] at a7
            subst a7
            rw [← z2] at h2
            have hl0 : e1.length = env'.length := by rw [R1.len, R'.len, wipe_length]
            have ownM : ∀ i b, OwnAt (mergeD e1 env' vs) σ H' i b → OwnAt env' (L2.wipe σ vs) H' i b ∧ i ∉ vs := fun i b ⟨s, o, x1, x3, x2⟩ => by
              rw [mergeD_get e1 env' hl0] at x1
              by_cases hv : i ∈ vs
              · rw [if_pos hv] at x1
                have := List.all_eq_true.mp c.2 i hv
                rw [x1] at this
                simp [x2.own] at this
              · rw [if_neg hv] at x1
                exact ⟨⟨s, o, x1, by rw [wipe_get, if_neg hv]; exact x3, x2⟩, hv⟩
            refine h2 A vacc G' H' ⟨R'.ex, by rw [mergeD_length, ← hl0]; exact R1.len, fun i s o x1 x2 => ?_, fun i j b x y => R'.dist i j b (ownM i b x).1 (ownM j b y).1⟩ a1 a2 (F1.dom A hA) (fun ⟨i, z⟩ => a3 ⟨i, (ownM i A z).1⟩) a4
              (F1.trans ⟨F'.gg, fun a u ha hn => F'.keep a u ha fun ⟨i, z⟩ => hn ⟨i, (wipe_own z).1⟩, F'.dom, fun a ha => ?_, fun a ⟨i, z⟩ => ?_, fun i s hx n => ?_⟩)
            · rw [mergeD_get e1 env' hl0] at x1
              by_cases hv : i ∈ vs
              · rw [if_pos hv] at x1
                have hno := List.all_eq_true.mp c.2 i hv
                rw [x1] at hno
                have qs := R1.slot i s o x1 x2
                cases s with
                | no => trivial
                | v d => obtain ⟨v, e, qs⟩ := qs; exact ⟨v, e, qs.up F'.gg⟩
                | l xs => simp [Sl.own] at hno
                | p xs => simp [Sl.own] at hno
                | n _ => obtain ⟨b, e, q1⟩ := qs; exact ⟨b, e, F'.gg _ _ q1⟩
                | m xs => simp [Sl.own] at hno
                | t xs => simp [Sl.own] at hno
                | u xs => simp [Sl.own] at hno
                | f x => exact qs
                | a x _ _ => exact ⟨qs.1, qs.2.up F'.gg⟩
              · rw [if_neg hv] at x1
                exact R'.slot i s o x1 (by rw [wipe_get, if_neg hv]; exact x2)
            · rcases F'.fresh a ha with w | w | ⟨i, w⟩
              · exact .inl w
              · exact .inr (.inl w)
              · exact .inr (.inr ⟨i, (wipe_own w).1⟩)
            · rcases F'.own a ⟨i, (ownM i a z).1⟩ with ⟨k, w⟩ | w
              · exact .inl ⟨k, (wipe_own w).1⟩
              · exact .inr w
            · rw [mergeD_get e1 env' hl0] at hx
              by_cases hv : i ∈ vs
              · rw [if_pos hv] at hx
                have hno := List.all_eq_true.mp c.2 i hv
                rw [hx] at hno
                cases s <;> first | exact absurd rfl n | simp [Sl.own] at hno
              · rw [if_neg hv] at hx
                obtain ⟨p1, s0, p2, p3⟩ := F'.par i s hx n
                rw [wipeD_get, if_neg hv] at p2
                exact ⟨rfl, s0, p2, p3⟩
    · rw [if_neg c] at h2
      exact h2.elim
end
end DL
set_option Elab.async false
set_option linter.all false
set_option maxRecDepth 100000
set_option autoImplicit false
namespace DL
open PySem L2
section
variable {X : Cx} {W : WX} {pos : Pos} {K : PySem.W.Frag} {mg : Str → Option Value}
theorem cts_one {c : Expr} {dt : DT} (h : CT X W c dt) : PTs X [c] (rdT X.K X.mg W dt) := pts_one h
end
inductive Fo where
  | ok (d : D) (outs : DEnv)
  | okl (xs : List D) (outs : DEnv)
  | ex (x : Xc) (outs : DEnv)
  | stuck
abbrev Df := DEnv → Fo
section
variable (K : PySem.W.Frag) (mg : Str → Option Value)
def RunF (args : DEnv) (σ : L2.St) (G H : Hp) (r : Fo) (Q : VK) (E : XK) : Prop := match r with
  | .ok d outs => ∀ v G' H', Rel K outs σ G' H' → Dv K G' v d → Fr args σ G H outs σ G' H' → Q v H'
  | .okl xs outs => ∀ a vs G' H', Rel K outs σ G' H' → H' a = some (.lst vs) → G' a = none → H a = none → ¬ Own outs σ H' a → DvAll K G' vs xs → Fr args σ G H outs σ G' H' → Q (.ref a) H'
  | .ex x outs => ∀ cls dd G' H', XRel K mg x cls dd G' H' → Rel K outs σ G' H' → Fr args σ G H outs σ G' H' → E cls dd H'
  | .stuck => False
/-- the promise of a def by a function on data -/
def spD (np : Nat) (F : Df) : Sp := fun vs H Q E => vs.length = np ∧ ∃ args G, Rel K args (vs.map some) G H ∧ RunF K mg args (vs.map some) G H (F args) Q E
end
/-- what comes back of the arguments -/
def outOf : Sl → Sl → Sl
  | .p _, .p ys => .p ys
  | .u _, .u y => .u y
  | _, _ => .no
def outsOf (args env : DEnv) : DEnv := args.mapIdx fun i a => outOf a (env.getD i Sl.no)
/-- a def by its body: n slots -/
def bodyF (n : Nat) (ds : DS) : Df := fun args => match ds (args ++ List.replicate (n - args.length) Sl.no) with
  | .nx e => .ok .none (outsOf args e)
  | .rt d e => .ok d (outsOf args e)
  | .rl xs e => .okl xs (outsOf args e)
  | .ex x e => .ex x (outsOf args e)
  | _ => .stuck
section
variable {K : PySem.W.Frag} {mg : Str → Option Value}
theorem outs_get {args env : DEnv} {i : Nat} {s : Sl} (h : (outsOf args env)[i]? = some s) : s = Sl.no ∨ ∃ s0, args[i]? = some s0 ∧ env[i]? = some s ∧ s.pk ≠ 0 ∧ s0.pk = s.pk := by
  unfold outsOf at h
  rw [List.getElem?_mapIdx] at h
  cases q1 : args[i]? with
  | none => simp [q1] at h
  | some a =>
    simp only [q1, Option.map_some, Option.some.injEq] at h
    cases q2 : env[i]? with
    | none =>
      have e : env.getD i Sl.no = Sl.no := by rw [List.getD_eq_getElem?_getD, q2]; rfl
      rw [e] at h
      cases a <;> exact .inl h.symm
    | some b =>
      have e : env.getD i Sl.no = b := by rw [List.getD_eq_getElem?_getD, q2]; rfl
      rw [e] at h
      cases a <;> cases b <;> first | exact .inl h.symm | (subst h; exact .inr ⟨_, rfl, rfl, (by intro z; cases z), rfl⟩)
theorem rel_start {args : DEnv} {vs : List V} {G H : Hp} {N : List Str} (R : Rel K args (vs.map some) G H) (hn : vs.length ≤ N.length) : Rel K (args ++ List.replicate (N.length - args.length) Sl.no) (start N vs) G H := by
  have hl : args.length = vs.length := by simpa using R.len
  have own : ∀ i a, OwnAt (args ++ List.replicate (N.length - args.length) Sl.no) (start N vs) H i a → OwnAt args (vs.map some) H i a := fun i a ⟨s, o, e1, e3, e2⟩ => by
    by_cases c : i < args.length
    · rw [List.getElem?_append_left c] at e1
      unfold L2.start at e3
      rw [List.getElem?_append_left (by simpa [← hl] using c)] at e3
      exact ⟨s, o, e1, e3, e2⟩
    · rw [List.getElem?_append_right (by omega)] at e1
      obtain ⟨_, e⟩ := List.getElem?_eq_some_iff.mp e1
      simp at e
      rw [← e] at e2
      exact e2.elim
  refine ⟨R.ex, ?_, fun i s o e1 e2 => ?_, fun i j a x y => R.dist i j a (own i a x) (own j a y)⟩
  · unfold L2.start
    simp
    omega
  · by_cases c : i < args.length
    · rw [List.getElem?_append_left c] at e1
      unfold L2.start at e2
      rw [List.getElem?_append_left (by simpa [← hl] using c)] at e2
      exact R.slot i s o e1 e2
    · rw [List.getElem?_append_right (by omega)] at e1
      obtain ⟨_, e⟩ := List.getElem?_eq_some_iff.mp e1
      simp at e
      rw [← e]
      trivial
theorem start_get {N : List Str} {vs : List V} {i : Nat} (h : i < vs.length) : (start N vs)[i]? = (vs.map some)[i]? := by
  unfold L2.start
  rw [List.getElem?_append_left (by simpa using h)]
/-- the frame at the def's end, as the caller sees it -/
theorem ends_fr {args env : DEnv} {vs : List V} {σ' : L2.St} {G H G' H' : Hp} {N : List Str} (R : Rel K args (vs.map some) G H) (hn : vs.length ≤ N.length) (R' : Rel K env σ' G' H')
    (F : Fr (args ++ List.replicate (N.length - args.length) Sl.no) (start N vs) G H env σ' G' H') :
    Rel K (outsOf args env) (vs.map some) G' H' ∧ Fr args (vs.map some) G H (outsOf args env) (vs.map some) G' H' ∧ (∀ a, Own (outsOf args env) (vs.map some) H' a → Own env σ' H' a) := by
  have hl : args.length = vs.length := by simpa using R.len
  have up : ∀ i a, OwnAt args (vs.map some) H i a ↔ OwnAt (args ++ List.replicate (N.length - args.length) Sl.no) (start N vs) H i a := fun i a => by
    constructor
    · rintro ⟨s, o, e1, e3, e2⟩
      have c : i < args.length := (List.getElem?_eq_some_iff.mp e1).1
      exact ⟨s, o, by rw [List.getElem?_append_left c]; exact e1, by rw [start_get (by omega)]; exact e3, e2⟩
    · rintro ⟨s, o, e1, e3, e2⟩
      by_cases c : i < args.length
      · rw [List.getElem?_append_left c] at e1
        rw [start_get (by omega)] at e3
        exact ⟨s, o, e1, e3, e2⟩
      · rw [List.getElem?_append_right (by omega)] at e1
        obtain ⟨_, e⟩ := List.getElem?_eq_some_iff.mp e1
        simp at e
        rw [← e] at e2
        exact e2.elim
  -- a slot of outs that is a parameter's: it stands where it stood
  have back : ∀ (i : Nat) (s : Sl), (outsOf args env)[i]? = some s → s = Sl.no ∨ (env[i]? = some s ∧ σ'[i]? = (vs.map some)[i]?) := fun i s h => by
    rcases outs_get h with h | ⟨s0, h1, h2, h3, _⟩
    · exact .inl h
    · obtain ⟨e, _⟩ := F.par i s h2 h3
      have c : i < args.length := (List.getElem?_eq_some_iff.mp h1).1
      rw [start_get (by omega)] at e
      exact .inr ⟨h2, e⟩
  have ownO : ∀ i a, OwnAt (outsOf args env) (vs.map some) H' i a → OwnAt env σ' H' i a := fun i a ⟨s, o, e1, e3, e2⟩ => by
    rcases back i s e1 with h | ⟨h2, h3⟩
    · subst h; exact e2.elim
    · exact ⟨_, o, h2, by rw [h3]; exact e3, e2⟩
  have hlo : (outsOf args env).length = (vs.map some).length := by
    unfold outsOf
    rw [List.length_mapIdx, List.length_map]
    exact hl
  refine ⟨⟨R'.ex, hlo, fun i s o e1 e2 => ?_, fun i j a x y => R'.dist i j a (ownO i a x) (ownO j a y)⟩, ⟨F.gg, fun a o ha hn => F.keep a o ha fun ⟨i, z⟩ => hn ⟨i, (up i a).mpr z⟩, F.dom, fun a ha => ?_, fun a ⟨i, z⟩ => ?_, fun i s hi n => ?_⟩, fun a ⟨i, z⟩ => ⟨i, ownO i a z⟩⟩
  · rcases back i s e1 with h | ⟨h2, h3⟩
    · subst h; trivial
    · exact R'.slot i _ o h2 (by rw [h3]; exact e2)
  · rcases F.fresh a ha with w | w | ⟨i, w⟩
    · exact .inl w
    · exact .inr (.inl w)
    · exact .inr (.inr ⟨i, (up i a).mpr w⟩)
  · rcases F.own a ⟨i, ownO i a z⟩ with ⟨k, w⟩ | w
    · exact .inl ⟨k, (up k a).mpr w⟩
    · exact .inr w
  · rcases outs_get hi with h | ⟨s0, h1, h2, h3, h4⟩
    · subst h; exact absurd rfl n
    · exact ⟨rfl, s0, h1, h4⟩
end
end DL
set_option Elab.async false
set_option linter.all false
set_option maxRecDepth 100000
set_option autoImplicit false
namespace DL
open PySem L2
/-- an argument: data, or a slot's own list lent out -/
inductive Ar where
  | d (x : D)
  | g (x : Str)
  | s (i : Nat)
abbrev DAr := DEnv → Rs (List Ar)
def rNil : DAr := fun env => .ok [] env
def rCons (de : DE) (da : DAr) : DAr := fun env => (de env).bind fun x e1 => (da e1).bind fun xs e2 => .ok (.d x :: xs) e2
/-- what a def gets of a slot that is lent to it -/
def lendS : Sl → Sl
  | .l xs => .p xs
  | .p xs => .p xs
  | .n kvs => .n kvs
  | .t T => .u T
  | .u T => .u T
  | _ => .no
def lentS : Sl → Bool
  | .l _ => true
  | .p _ => true
  | .n _ => true
  | .t _ => true
  | .u _ => true
  | _ => false
def lent (i : Nat) (env : DEnv) : Bool := match env[i]? with
  | some s => lentS s
  | none => false
def ArRel (K : PySem.W.Frag) (G : Hp) (σ : L2.St) : List V → List Ar → Prop
  | [], [] => True
  | v :: vs, .d x :: as => Dv K G v x ∧ ArRel K G σ vs as
  | v :: vs, .g x :: as => v = .ref (He.ga K x) ∧ ArRel K G σ vs as
  | v :: vs, .s i :: as => σ[i]? = some (some v) ∧ ArRel K G σ vs as
  | _, _ => False
theorem ArRel.up {K : PySem.W.Frag} {G G' : Hp} {σ : L2.St} (e : Ex G G') : ∀ {vs : List V} {as : List Ar}, ArRel K G σ vs as → ArRel K G' σ vs as
  | [], [], _ => trivial
  | v :: vs, .d x :: as, h => ⟨h.1.up e, ArRel.up e h.2⟩
  | v :: vs, .g x :: as, h => ⟨h.1, ArRel.up e h.2⟩
  | v :: vs, .s i :: as, h => ⟨h.1, ArRel.up e h.2⟩
theorem ArRel.length {K : PySem.W.Frag} {G : Hp} {σ : L2.St} : ∀ {vs : List V} {as : List Ar}, ArRel K G σ vs as → vs.length = as.length
  | [], [], _ => rfl
  | v :: vs, .d x :: as, h => by simp [ArRel.length h.2]
  | v :: vs, .g x :: as, h => by simp [ArRel.length h.2]
  | v :: vs, .s i :: as, h => by simp [ArRel.length h.2]
theorem ArRel.getD {K : PySem.W.Frag} {G : Hp} {σ : L2.St} : ∀ {vs : List V} {as : List Ar} {j : Nat} {x : D}, ArRel K G σ vs as → as[j]? = some (.d x) → ∃ v, vs[j]? = some v ∧ Dv K G v x
  | [], [], _, _, _, e => by simp at e
  | v :: vs, .d y :: as, 0, x, h, e => by simp at e; subst e; exact ⟨v, rfl, h.1⟩
  | v :: vs, .s i :: as, 0, x, h, e => by simp at e
  | v :: vs, .g i :: as, 0, x, h, e => by simp at e
  | v :: vs, .g y :: as, j + 1, x, h, e => by simpa using ArRel.getD (j := j) (x := x) h.2 (by simpa using e)
  | v :: vs, .d y :: as, j + 1, x, h, e => by simpa using ArRel.getD (j := j) (x := x) h.2 (by simpa using e)
  | v :: vs, .s i :: as, j + 1, x, h, e => by simpa using ArRel.getD (j := j) (x := x) h.2 (by simpa using e)
theorem ArRel.getS {K : PySem.W.Frag} {G : Hp} {σ : L2.St} : ∀ {vs : List V} {as : List Ar} {j i : Nat}, ArRel K G σ vs as → as[j]? = some (.s i) → ∃ v, vs[j]? = some v ∧ σ[i]? = some (some v)
  | [], [], _, _, _, e => by simp at e
  | v :: vs, .s i :: as, 0, x, h, e => by simp at e; subst e; exact ⟨v, rfl, h.1⟩
  | v :: vs, .d i :: as, 0, x, h, e => by simp at e
  | v :: vs, .g i :: as, 0, x, h, e => by simp at e
  | v :: vs, .g y :: as, j + 1, x, h, e => by simpa using ArRel.getS (j := j) (i := x) h.2 (by simpa using e)
  | v :: vs, .d y :: as, j + 1, x, h, e => by simpa using ArRel.getS (j := j) (i := x) h.2 (by simpa using e)
  | v :: vs, .s i :: as, j + 1, x, h, e => by simpa using ArRel.getS (j := j) (i := x) h.2 (by simpa using e)
theorem ArRel.getG {K : PySem.W.Frag} {G : Hp} {σ : L2.St} : ∀ {vs : List V} {as : List Ar} {j : Nat} {x : Str}, ArRel K G σ vs as → as[j]? = some (.g x) → vs[j]? = some (.ref (He.ga K x))
  | [], [], _, _, _, e => by simp at e
  | v :: vs, .g y :: as, 0, x, h, e => by simp at e; subst e; have := h.1; subst this; rfl
  | v :: vs, .s i :: as, 0, x, h, e => by simp at e
  | v :: vs, .d i :: as, 0, x, h, e => by simp at e
  | v :: vs, .d y :: as, j + 1, x, h, e => by simpa using ArRel.getG (j := j) (x := x) h.2 (by simpa using e)
  | v :: vs, .g y :: as, j + 1, x, h, e => by simpa using ArRel.getG (j := j) (x := x) h.2 (by simpa using e)
  | v :: vs, .s i :: as, j + 1, x, h, e => by simpa using ArRel.getG (j := j) (x := x) h.2 (by simpa using e)
section
variable (K : PySem.W.Frag) (mg : Str → Option Value) (W : WX)
def RunR (env : DEnv) (σ : L2.St) (G H : Hp) (r : Rs (List Ar)) (Q : List V → Hp → Prop) : Prop := match r with
  | .ok as env' => ∀ vs G' H', Rel K env' σ G' H' → ArRel K G' σ vs as → (∀ i, Ar.s i ∈ as → lent i env' = true) → Fr env σ G H env' σ G' H' → Q vs H'
  | .ex x env' => RunX K mg W env σ G H x env'
  | .stuck => False
def rdR (de : DAr) : TA := fun σ H Q => ∃ env G, Rel K env σ G H ∧ RunR K mg W env σ G H (de env) Q
end
abbrev CR (X : Cx) (W : WX) (es : List Expr) (da : DAr) : Prop := PA X es (rdR X.K X.mg W da)
theorem RunR.shift {K : PySem.W.Frag} {mg : Str → Option Value} {W : WX} {env env1 : DEnv} {σ : L2.St} {G H G1 H1 : Hp} {r : Rs (List Ar)} {Q : List V → Hp → Prop} (h : RunR K mg W env σ G H r Q) (f : Fr env σ G H env1 σ G1 H1) : RunR K mg W env1 σ G1 H1 r Q := by
  cases r with
  | ok d e => exact fun v G' H' a b l c => h v G' H' a b l (f.trans c)
  | ex x e => exact RunX.shift h f
  | stuck => exact h
theorem lent_some {i : Nat} {env : DEnv} (h : lent i env = true) : ∃ s, env[i]? = some s ∧ lentS s = true := by
  unfold lent at h
  cases q : env[i]? with
  | none => rw [q] at h; cases h
  | some s => rw [q] at h; exact ⟨s, rfl, h⟩
theorem lent_val {K : PySem.W.Frag} {G H : Hp} {s : Sl} {o : Option V} (h : lentS s = true) (r : RS K G H s o) : ∃ v, o = some v := by
  cases s with
  | l xs => obtain ⟨a, vs, e, _⟩ := r; exact ⟨_, e⟩
  | p xs => obtain ⟨a, vs, e, _⟩ := r; exact ⟨_, e⟩
  | n xs => obtain ⟨a, e, _⟩ := r; exact ⟨_, e⟩
  | t T => obtain ⟨v, e, _⟩ := r; exact ⟨_, e⟩
  | u T => obtain ⟨v, e, _⟩ := r; exact ⟨_, e⟩
  | _ => cases h
section
variable {X : Cx} {W : WX} {pos : Pos} {e : Expr} {es : List Expr} {de : DE} {da : DAr}
theorem R_then {K : PySem.W.Frag} {mg : Str → Option Value} {env : DEnv} {σ : L2.St} {G H : Hp} {da : DAr} {β : Type} {f : List Ar → DEnv → Rs β} {R : List V → Hp → Prop} (hR : Rel K env σ G H) {P : DEnv → L2.St → Hp → Hp → Rs β → Prop}
    (h : P env σ G H ((da env).bind f)) (hx : ∀ x e, P env σ G H (.ex x e) → RunX K mg W env σ G H x e) (hst : ¬ P env σ G H .stuck)
    (hsh : ∀ e1 G1 H1 r, P env σ G H r → Fr env σ G H e1 σ G1 H1 → P e1 σ G1 H1 r)
    (k : ∀ as e1 vs G1 H1, da env = .ok as e1 → Rel K e1 σ G1 H1 → ArRel K G1 σ vs as → (∀ i, Ar.s i ∈ as → lent i e1 = true) → Fr env σ G H e1 σ G1 H1 → P e1 σ G1 H1 (f as e1) → R vs H1) : rdR K mg W da σ H R := by
  refine ⟨env, G, hR, ?_⟩
  cases q : da env with
  | ok d e1 =>
    rw [q] at h
    exact fun v G1 H1 a b l c => k d e1 v G1 H1 q a b l c (hsh _ _ _ _ h c)
  | ex x e => rw [q] at h; exact hx x e h
  | stuck => rw [q] at h; exact (hst h).elim
theorem cr_nil : CR X W [] rNil := pa_imp pa_nil fun σ H Q h => by
  obtain ⟨env, G, R, h⟩ := h
  exact h [] G H R trivial (fun i z => nomatch z) (Fr.refl _ _ _ _)
theorem E_thenR {K : PySem.W.Frag} {mg : Str → Option Value} {env : DEnv} {σ : L2.St} {G H : Hp} {de : DE} {f : D → DEnv → Rs (List Ar)} {Q : List V → Hp → Prop} {R : VK} (hR : Rel K env σ G H) (h : RunR K mg W env σ G H ((de env).bind f) Q)
    (k : ∀ d e1 v G1 H1, de env = .ok d e1 → Rel K e1 σ G1 H1 → Dv K G1 v d → Fr env σ G H e1 σ G1 H1 → RunR K mg W e1 σ G1 H1 (f d e1) Q → R v H1) : rdE K mg W de σ H R :=
  E_then hR (P := fun e s G H r => RunR K mg W e s G H r Q) h (fun _ _ z => z) (fun z => z) (fun _ _ _ _ a b => a.shift b) k
theorem cr_cons (ha : CE X W e de) (hr : CR X W es da) (hs : starEach (e :: es) X.env = (false, eval e X.env) :: starEach es X.env := by rfl) : CR X W (e :: es) (rCons de da) := pa_imp (pa_cons ha hr hs) fun σ H Q h => by
  obtain ⟨env, G, R, h⟩ := h
  refine E_thenR R h fun d e1 v G1 H1 _ R1 dv F1 h1 => R_then R1 (P := fun e s G H r => RunR X.K X.mg W e s G H r Q) h1 (fun _ _ z => z) (fun z => z) (fun _ _ _ _ a b => a.shift b) fun as e2 vs G2 H2 _ R2 ar le F2 h2 => ?_
  exact h2 (v :: vs) G2 H2 R2 ⟨dv.up F2.gg, ar⟩ (fun i z => by
    rcases List.mem_cons.mp z with z | z
    · cases z
    · exact le i z) (Fr.refl _ _ _ _)
/-- a name whose list is lent out: what comes behind does not take it away -/
theorem cr_lend (i : Nat) {x : Str} {p : Pos} (hr : CR X W es da) (hN : X.N[i]? = some x := by rfl) (hv : Vis X.env.scope x := by first | exact Or.inl rfl | exact Or.inr (Or.inl rfl) | exact Or.inr (Or.inr rfl)) (hd : (x == ("__debug__" : Str)) = false := by decide)
    (hcd : (x == ("__classdict__" : Str)) = false := by decide) (hs : starEach (.Name x p :: es) X.env = (false, eval (.Name x p) X.env) :: starEach es X.env := by rfl) : CR X W (.Name x p :: es) (fun env => if lent i env then (da env).bind fun xs e2 => if lent i e2 then .ok (.s i :: xs) e2 else .stuck else .stuck) := pa_imp (pa_cons (pe_var hN hv hd hcd) hr hs) fun σ H Q h => by
  obtain ⟨env, G, R, h⟩ := h
  by_cases c : lent i env = true
  · have h' : RunR X.K X.mg W env σ G H ((da env).bind fun xs e2 => if lent i e2 then .ok (.s i :: xs) e2 else .stuck) Q := by
      have h2 : RunR X.K X.mg W env σ G H (if lent i env = true then (da env).bind fun xs e2 => if lent i e2 then .ok (.s i :: xs) e2 else .stuck else .stuck) Q := h
      rw [if_pos c] at h2
      exact h2
    obtain ⟨s, hx, hs⟩ := lent_some c
    have li : i < σ.length := by
      rw [← R.len]
      exact (List.getElem?_eq_some_iff.mp hx).1
    have ho : σ[i]? = some σ[i] := List.getElem?_eq_getElem li
    obtain ⟨v, hv⟩ : ∃ v, σ[i]? = some (some v) := by
      obtain ⟨v, e⟩ := lent_val hs (R.slot i _ _ hx ho)
      exact ⟨v, by rw [ho, e]⟩
    refine ⟨v, hv, R_then R (P := fun e s G H r => RunR X.K X.mg W e s G H r Q) h' (fun _ _ z => z) (fun z => z) (fun _ _ _ _ a b => a.shift b) fun as e2 vs G2 H2 _ R2 ar le F2 h2 => ?_⟩
    by_cases c2 : lent i e2 = true
    · have h3 : RunR X.K X.mg W e2 σ G2 H2 (if lent i e2 = true then .ok (.s i :: as) e2 else .stuck) Q := h2
      rw [if_pos c2] at h3
      exact h3 (v :: vs) G2 H2 R2 ⟨hv, ar⟩ (fun j z => by
        rcases List.mem_cons.mp z with z | z
        · cases z; exact c2
        · exact le j z) (Fr.refl _ _ _ _)
    · have h3 : RunR X.K X.mg W e2 σ G2 H2 (if lent i e2 = true then .ok (.s i :: as) e2 else .stuck) Q := h2
      rw [if_neg c2] at h3
      exact h3.elim
  · have h2 : RunR X.K X.mg W env σ G H (if lent i env = true then (da env).bind fun xs e2 => if lent i e2 then .ok (.s i :: xs) e2 else .stuck else .stuck) Q := h
    rw [if_neg c] at h2
    exact h2.elim
end
def toSl (env : DEnv) : Ar → Sl
  | .d x => .v x
  | .g x => .f x
  | .s i => match env[i]? with
    | some s => lendS s
    | none => .no
def lookS (j : Nat) : List Ar → DEnv → Option Sl
  | .s i :: as, o :: os => if i = j then some o else lookS j as os
  | .d _ :: as, _ :: os => lookS j as os
  | .g _ :: as, _ :: os => lookS j as os
  | _, _ => none
def conv : Sl → Sl → Sl
  | .l _, .p ys => .l ys
  | .p _, .p ys => .p ys
  | .t _, .u y => .t y
  | .u _, .u y => .u y
  | _, _ => .no
def backD (as : List Ar) (outs env : DEnv) : DEnv := env.mapIdx fun j s => match lookS j as outs with
  | some o => conv s o
  | none => s
def slotsOf : List Ar → List Nat
  | [] => []
  | .s i :: as => i :: slotsOf as
  | .d _ :: as => slotsOf as
  | .g _ :: as => slotsOf as
def callD (F : Df) (as : List Ar) (env : DEnv) : Fo := if (slotsOf as).Nodup then match F (as.map (toSl env)) with
    | .ok d outs => .ok d (backD as outs env)
    | .okl xs outs => .okl xs (backD as outs env)
    | .ex x outs => .ex x (backD as outs env)
    | .stuck => .stuck
  else .stuck
def Fo.rs : Fo → Rs D
  | .ok d env => .ok d env
  | .okl xs env => .ok (.list xs) env
  | .ex x env => .ex x env
  | .stuck => .stuck
def Fo.rl : Fo → Rs (List D)
  | .okl xs env => .ok xs env
  | .ex x env => .ex x env
  | _ => .stuck
theorem slots_mem : ∀ {as : List Ar} {i : Nat}, i ∈ slotsOf as ↔ Ar.s i ∈ as
  | [], i => by simp [slotsOf]
  | .s j :: as, i => by simp [slotsOf, slots_mem (as := as)]
  | .d x :: as, i => by simp [slotsOf, slots_mem (as := as)]
  | .g x :: as, i => by simp [slotsOf, slots_mem (as := as)]
theorem slots_inj : ∀ {as : List Ar}, (slotsOf as).Nodup → ∀ {j k i : Nat}, as[j]? = some (.s i) → as[k]? = some (.s i) → j = k
  | [], _, _, _, _, e, _ => by simp at e
  | .d x :: as, h, 0, _, _, e, _ => by simp at e
  | .d x :: as, h, _, 0, _, _, e => by simp at e
  | .d x :: as, h, j + 1, k + 1, i, e1, e2 => by
    have := slots_inj (as := as) (by simpa [slotsOf] using h) (j := j) (k := k) (i := i) (by simpa using e1) (by simpa using e2)
    omega
  | .g x :: as, h, 0, _, _, e, _ => by simp at e
  | .g x :: as, h, _, 0, _, _, e => by simp at e
  | .g x :: as, h, j + 1, k + 1, i, e1, e2 => by
    have := slots_inj (as := as) (by simpa [slotsOf] using h) (j := j) (k := k) (i := i) (by simpa using e1) (by simpa using e2)
    omega
  | .s x :: as, h, 0, 0, _, _, _ => rfl
  | .s x :: as, h, 0, k + 1, i, e1, e2 => by
    simp at e1 e2
    subst e1
    have h' : x ∉ slotsOf as ∧ (slotsOf as).Nodup := by simpa [slotsOf] using h
    exact absurd (slots_mem.mpr (List.mem_of_getElem? e2)) h'.1
  | .s x :: as, h, j + 1, 0, i, e1, e2 => by
    simp at e1 e2
    subst e2
    have h' : x ∉ slotsOf as ∧ (slotsOf as).Nodup := by simpa [slotsOf] using h
    exact absurd (slots_mem.mpr (List.mem_of_getElem? e1)) h'.1
  | .s x :: as, h, j + 1, k + 1, i, e1, e2 => by
    have h' : x ∉ slotsOf as ∧ (slotsOf as).Nodup := by simpa [slotsOf] using h
    have := slots_inj (as := as) h'.2 (j := j) (k := k) (i := i) (by simpa using e1) (by simpa using e2)
    omega
theorem lookS_some : ∀ {as : List Ar} {os : DEnv} {j : Nat} {o : Sl}, lookS j as os = some o → ∃ k : Nat, as[k]? = some (Ar.s j) ∧ os[k]? = some o
  | [], _, _, _, h => by simp [lookS] at h
  | .s i :: as, [], _, _, h => by simp [lookS] at h
  | .d i :: as, [], _, _, h => by simp [lookS] at h
  | .g i :: as, [], _, _, h => by simp [lookS] at h
  | .s i :: as, o' :: os, j, o, h => by
    unfold lookS at h
    by_cases c : i = j
    · rw [if_pos c] at h
      cases h
      subst c
      exact ⟨0, rfl, rfl⟩
    · rw [if_neg c] at h
      obtain ⟨k, a, b⟩ := lookS_some h
      exact ⟨k + 1, by simpa using a, by simpa using b⟩
  | .d i :: as, o' :: os, j, o, h => by
    unfold lookS at h
    obtain ⟨k, a, b⟩ := lookS_some h
    exact ⟨k + 1, by simpa using a, by simpa using b⟩
  | .g i :: as, o' :: os, j, o, h => by
    unfold lookS at h
    obtain ⟨k, a, b⟩ := lookS_some h
    exact ⟨k + 1, by simpa using a, by simpa using b⟩
theorem lookS_none : ∀ {as : List Ar} {os : DEnv} {j : Nat}, as.length = os.length → lookS j as os = none → Ar.s j ∉ as
  | [], _, _, _, _ => by simp
  | .s i :: as, [], _, h, _ => by simp at h
  | .d i :: as, [], _, h, _ => by simp at h
  | .g i :: as, [], _, h, _ => by simp at h
  | .s i :: as, o' :: os, j, hl, h => by
    unfold lookS at h
    by_cases c : i = j
    · rw [if_pos c] at h; cases h
    · rw [if_neg c] at h
      have := lookS_none (by simpa using hl) h
      simp [this, Ne.symm c]
  | .d i :: as, o' :: os, j, hl, h => by
    unfold lookS at h
    have := lookS_none (by simpa using hl) h
    simp [this]
  | .g i :: as, o' :: os, j, hl, h => by
    unfold lookS at h
    have := lookS_none (by simpa using hl) h
    simp [this]
section
variable {K : PySem.W.Frag} {mg : Str → Option Value} {env : DEnv} {σ : L2.St} {G H : Hp} {as : List Ar} {vs : List V}
theorem lend_own {H : Hp} {s : Sl} {o : Option V} {a : Addr} (h : OwnS H (lendS s) o a) : OwnS H s o a := by cases s <;> first | exact h | exact False.elim h
theorem toSl_own {H : Hp} {i : Nat} {a : Addr} (ar : ArRel K G σ vs as) (h : OwnAt (as.map (toSl env)) (vs.map some) H i a) : ∃ k, as[i]? = some (.s k) ∧ OwnAt env σ H k a := by
  obtain ⟨s, o, e1, e3, e2⟩ := h
  rw [List.getElem?_map] at e1 e3
  cases q : as[i]? with
  | none => rw [q] at e1; cases e1
  | some x =>
    rw [q] at e1
    cases x with
    | d y => cases e1; exact e2.elim
    | g y => cases e1; exact e2.elim
    | s k =>
      obtain ⟨v, hv, hs⟩ := ar.getS q
      rw [hv] at e3
      cases e3
      have e1' : toSl env (.s k) = s := by simpa using e1
      unfold toSl at e1'
      cases q2 : env[k]? with
      | none => simp [q2] at e1'; subst e1'; exact e2.elim
      | some t =>
        simp only [q2] at e1'
        subst e1'
        exact ⟨k, rfl, t, _, q2, hs, lend_own e2⟩
theorem lend_rs {H : Hp} {s : Sl} {o : Option V} (h : RS K G H s o) : RS K G H (lendS s) o := by cases s <;> first | exact h | trivial
theorem rel_args {H : Hp} (R : Rel K env σ G H) (ar : ArRel K G σ vs as) (nd : (slotsOf as).Nodup) : Rel K (as.map (toSl env)) (vs.map some) G H := by
  refine ⟨R.ex, by simp [ar.length], fun i s o e1 e2 => ?_, fun i j a x y => ?_⟩
  · rw [List.getElem?_map] at e1 e2
    cases q : as[i]? with
    | none => rw [q] at e1; cases e1
    | some x =>
      rw [q] at e1
      have e1' : toSl env x = s := by simpa using e1
      cases x with
      | d y =>
        obtain ⟨v, hv, dv⟩ := ar.getD q
        rw [hv] at e2
        have e2' : some v = o := by simpa using e2
        subst e1'
        exact ⟨v, e2'.symm, dv⟩
      | g y =>
        have hv := ar.getG q
        rw [hv] at e2
        have e2' : some (V.ref (He.ga K y)) = o := by simpa using e2
        subst e1'
        exact e2'.symm
      | s k =>
        obtain ⟨v, hv, hs⟩ := ar.getS q
        rw [hv] at e2
        have e2' : some v = o := by simpa using e2
        unfold toSl at e1'
        cases q2 : env[k]? with
        | none => simp [q2] at e1'; subst e1'; trivial
        | some t =>
          simp only [q2] at e1'
          subst e1'
          rw [← e2']
          exact lend_rs (R.slot k t (some v) q2 hs)
  · obtain ⟨k1, a1, a2⟩ := toSl_own ar x
    obtain ⟨k2, b1, b2⟩ := toSl_own ar y
    have e := R.dist k1 k2 a a2 b2
    subst e
    exact slots_inj nd a1 b1
theorem conv_own {H : Hp} {s s' : Sl} {o : Option V} {a : Addr} (h : OwnS H (conv s s') o a) : OwnS H s' o a := by cases s <;> cases s' <;> first | exact h | exact False.elim h
theorem conv_rs {G' H' : Hp} {s s' : Sl} {o : Option V} (h : RS K G' H' s' o) : RS K G' H' (conv s s') o := by cases s <;> cases s' <;> first | exact h | trivial
theorem conv_pk {s s' : Sl} (n : (conv s s').pk ≠ 0) : s.pk = (conv s s').pk := by cases s <;> cases s' <;> first | rfl | exact absurd rfl n
/-- behind the call -/
theorem back_ok {H : Hp} {outs : DEnv} {G' H' : Hp} (R : Rel K env σ G H) (ar : ArRel K G σ vs as) (nd : (slotsOf as).Nodup) (R' : Rel K outs (vs.map some) G' H') (F : Fr (as.map (toSl env)) (vs.map some) G H outs (vs.map some) G' H') :
    Rel K (backD as outs env) σ G' H' ∧ Fr env σ G H (backD as outs env) σ G' H' ∧ ∀ a, Own (backD as outs env) σ H' a → Own outs (vs.map some) H' a ∨ Own env σ H a := by
  have hlo : as.length = outs.length := by rw [R'.len]; simp [ar.length]
  have ownA : ∀ a, Own (as.map (toSl env)) (vs.map some) H a → Own env σ H a := fun a ⟨i, z⟩ => let ⟨k, _, b⟩ := toSl_own ar z; ⟨k, b⟩
  -- a slot of ours that is not lent stays
  have keepS : ∀ (j : Nat) (a : Addr), OwnAt env σ H j a → Ar.s j ∉ as → ¬ Own (as.map (toSl env)) (vs.map some) H a := fun j a o hn ⟨i, z⟩ => by
    obtain ⟨k, b1, b2⟩ := toSl_own ar z
    have e := R.dist j k a o b2
    subst e
    exact hn (List.mem_of_getElem? b1)
  have gnone : ∀ (j : Nat) (a : Addr), OwnAt env σ H j a → Ar.s j ∉ as → G' a = none := fun j a o hn => by
    cases z : G' a with
    | none => rfl
    | some u =>
      rcases F.fresh a (by rw [z]; exact fun w => by cases w) with w | w | w
      · exact absurd (o.there R).2 w
      · exact absurd w (o.there R).1
      · exact absurd w (keepS j a o hn)
  have hsame : ∀ (j : Nat) (a : Addr), OwnAt env σ H j a → Ar.s j ∉ as → H' a = H a := fun j a o hn => by
    cases z : H a with
    | none => exact absurd z (o.there R).1
    | some u => exact F.keep a u z (keepS j a o hn)
  have mv : ∀ (j : Nat) (a : Addr), Ar.s j ∉ as → (OwnAt env σ H' j a ↔ OwnAt env σ H j a) := fun j a hn => OwnAt.move R (i := j) F.gg (fun b w => hsame j b w hn) fun b w => gnone j b w hn
  have getB : ∀ (j : Nat) (s : Sl), (backD as outs env)[j]? = some s → ∃ s0, env[j]? = some s0 ∧ ((lookS j as outs = none ∧ s = s0) ∨ ∃ o, lookS j as outs = some o ∧ s = conv s0 o) := fun j s h => by
    unfold backD at h
    rw [List.getElem?_mapIdx] at h
    cases q : env[j]? with
    | none => rw [q] at h; cases h
    | some s0 =>
      rw [q] at h
      have h' : (match lookS j as outs with | some o => conv s0 o | none => s0) = s := by simpa using h
      refine ⟨s0, rfl, ?_⟩
      cases q2 : lookS j as outs with
      | none => rw [q2] at h'; exact .inl ⟨rfl, h'.symm⟩
      | some o => rw [q2] at h'; exact .inr ⟨o, rfl, h'.symm⟩
  have ownB : ∀ (j : Nat) (a : Addr), OwnAt (backD as outs env) σ H' j a → (OwnAt env σ H j a ∧ Ar.s j ∉ as) ∨ ∃ k, as[k]? = some (.s j) ∧ OwnAt outs (vs.map some) H' k a := fun j a ⟨s, o, e1, e3, e2⟩ => by
    obtain ⟨s0, h0, h1 | ⟨oo, h1, h2⟩⟩ := getB j s e1
    · obtain ⟨h1, h2⟩ := h1
      subst h2
      have hn := lookS_none hlo h1
      exact .inl ⟨(mv j a hn).1 ⟨_, o, h0, e3, e2⟩, hn⟩
    · obtain ⟨k, b1, b2⟩ := lookS_some h1
      obtain ⟨v, hv, hs⟩ := ar.getS b1
      rw [e3] at hs
      cases hs
      subst h2
      exact .inr ⟨k, b1, oo, _, b2, by rw [List.getElem?_map, hv]; rfl, conv_own e2⟩
  refine ⟨⟨R'.ex, by unfold backD; rw [List.length_mapIdx]; exact R.len, fun j s o e1 e2 => ?_, fun j k a x y => ?_⟩, ⟨F.gg, fun a o ha hn => F.keep a o ha fun z => hn (ownA a z), F.dom, fun a ha => ?_, fun a ⟨j, z⟩ => ?_, fun j s hj n => ?_⟩, fun a ⟨j, z⟩ => ?_⟩
  · obtain ⟨s0, h0, ⟨h1, h2⟩ | ⟨oo, h1, h2⟩⟩ := getB j s e1
    · subst h2
      have hn := lookS_none hlo h1
      exact ((R.slot j _ o h0 e2).move F.gg (fun a w => hsame j a ⟨_, o, h0, e2, w⟩ hn) fun a w => gnone j a ⟨_, o, h0, e2, w⟩ hn).1
    · obtain ⟨k, b1, b2⟩ := lookS_some h1
      obtain ⟨v, hv, hs⟩ := ar.getS b1
      have q := R'.slot k oo (some v) b2 (by rw [List.getElem?_map, hv]; rfl)
      rw [hs] at e2
      cases e2
      subst h2
      exact conv_rs q
  · rcases ownB j a x with ⟨x1, x2⟩ | ⟨i1, x1, x2⟩
    · rcases ownB k a y with ⟨y1, y2⟩ | ⟨i2, y1, y2⟩
      · exact R.dist j k a x1 y1
      · rcases F.own a ⟨i2, y2⟩ with w | w
        · exact absurd w (keepS j a x1 x2)
        · exact absurd w (x1.there R).1
    · rcases ownB k a y with ⟨y1, y2⟩ | ⟨i2, y1, y2⟩
      · rcases F.own a ⟨i1, x2⟩ with w | w
        · exact absurd w (keepS k a y1 y2)
        · exact absurd w (y1.there R).1
      · have e := R'.dist i1 i2 a x2 y2
        subst e
        rw [x1] at y1
        cases y1
        rfl
  · rcases F.fresh a ha with w | w | w
    · exact .inl w
    · exact .inr (.inl w)
    · exact .inr (.inr (ownA a w))
  · rcases ownB j a z with ⟨x1, _⟩ | ⟨i1, x1, x2⟩
    · exact .inl ⟨j, x1⟩
    · rcases F.own a ⟨i1, x2⟩ with w | w
      · exact .inl (ownA a w)
      · exact .inr w
  · obtain ⟨s0, h0, ⟨h1, h2⟩ | ⟨oo, h1, h2⟩⟩ := getB j _ hj
    · subst h2
      exact ⟨rfl, _, h0, rfl⟩
    · subst h2
      exact ⟨rfl, _, h0, conv_pk n⟩
  · rcases ownB j a z with ⟨x1, _⟩ | ⟨i1, x1, x2⟩
    · exact .inr ⟨j, x1⟩
    · exact .inl ⟨i1, x2⟩
end
section
variable {X : Cx} {W : WX} {pos p : Pos} {e : Expr} {es : List Expr} {da : DAr} {k : Nat} {f : Addr} {fd : FuncData} {ps : List Str} {F : Df} {x : Str}
theorem ar_np {K : PySem.W.Frag} {G : Hp} {σ : L2.St} {vs : List V} {as : List Ar} (ar : ArRel K G σ vs as) {np : Nat} (h : as.length = np) : vs.length = np := by rw [ar.length]; exact h
/-- f(e, ..): how many arguments come is told by the def's own rows -/
def eCallN (np : Nat) (F : Df) (da : DAr) : DE := fun env => (da env).bind fun as e1 => if as.length = np then (callD F as e1).rs else .stuck
def lCallN (np : Nat) (F : Df) (da : DAr) : DA := fun env => (da env).bind fun as e1 => if as.length = np then (callD F as e1).rl else .stuck
theorem ce_call (Fn : FnOk X.prog X.w X.K X.mg X.base (L2N.CX X.prog X.w) k f fd ps (spD X.K X.mg ps.length F)) (hr : Room k X.A) (hm : X.mg x = some (.ref f)) (hk : PySem.W.keepIn X.K (.ref f) = true) (hb : Binds X.K fd ps []) (tk : ∀ σ, PassesAt (L2N.CX X.prog X.w) X σ (WE W σ)) (ha : CR X W (e :: es) da) (hg : Gl X x := by rfl)
    (hdb : (x == ("__debug__" : Str)) = false := by decide) (he : starEach (e :: es) X.env = (false, eval e X.env) :: starEach es X.env := by rfl) (hpl : (backTo pos (starEach es X.env)).any (·.1) = false := by rfl) :
    CE X W (.Call (.Name x p) (e :: es) [] pos) (eCallN ps.length F da) := pe_imp (pe_callS Fn hr hg hm hk hb tk ha hdb he hpl) fun σ H Q h => by
  obtain ⟨env, G, R, h⟩ := h
  refine R_then R (P := fun e s G H r => RunE X.K X.mg W e s G H r Q) h (fun _ _ z => z) (fun z => z) (fun _ _ _ _ a b => a.shift b) fun as e1 vs G1 H1 _ R1 ar le F1 h1 => ?_
  by_cases cn : as.length = ps.length
  · rw [if_pos cn] at h1
    by_cases c : (slotsOf as).Nodup
    · have h2 : RunE X.K X.mg W e1 σ G1 H1 (Fo.rs (match F (as.map (toSl e1)) with
        | .ok d outs => .ok d (backD as outs e1)
        | .okl xs outs => .okl xs (backD as outs e1)
        | .ex x outs => .ex x (backD as outs e1)
        | .stuck => .stuck)) Q := by
        have h3 : RunE X.K X.mg W e1 σ G1 H1 (callD F as e1).rs Q := h1
        unfold callD at h3
        rw [if_pos c] at h3
        exact h3
      refine ⟨ar_np ar cn, as.map (toSl e1), G1, rel_args R1 ar c, ?_⟩
      cases q : F (as.map (toSl e1)) with
      | stuck => rw [q] at h2; exact h2
      | ok d outs =>
        rw [q] at h2
        exact fun v G' H' R' dv F' => let ⟨a, b, _⟩ := back_ok R1 ar c R' F'; h2 v G' H' a dv b
      | okl xs outs =>
        rw [q] at h2
        intro a vs' G' H' R' h3 h4 h5 h6 dv F'
        obtain ⟨r, b, o⟩ := back_ok R1 ar c R' F'
        have na : ¬ Own (backD as outs e1) σ H' a := fun z => by
          rcases o a z with z | z
          · exact h6 z
          · exact (z.there R1).1 h5
        have hl : RunL X.K X.mg W e1 σ G1 H1 (Rs.ok xs (backD as outs e1)) Q := RunL.of h2
        exact hl a vs' G' H' r h3 h4 h5 na dv b
      | ex x outs =>
        rw [q] at h2
        exact fun cls dd G' H' xr R' F' => let ⟨a, b, _⟩ := back_ok R1 ar c R' F'; h2 cls dd G' H' xr a b
    · have h3 : RunE X.K X.mg W e1 σ G1 H1 (callD F as e1).rs Q := h1
      unfold callD at h3
      rw [if_neg c] at h3
      exact h3.elim
  · rw [if_neg cn] at h1
    exact h1.elim
theorem cl_call (Fn : FnOk X.prog X.w X.K X.mg X.base (L2N.CX X.prog X.w) k f fd ps (spD X.K X.mg ps.length F)) (hr : Room k X.A) (hm : X.mg x = some (.ref f)) (hk : PySem.W.keepIn X.K (.ref f) = true) (hb : Binds X.K fd ps []) (tk : ∀ σ, PassesAt (L2N.CX X.prog X.w) X σ (WE W σ)) (ha : CR X W (e :: es) da) (hg : Gl X x := by rfl)
    (hdb : (x == ("__debug__" : Str)) = false := by decide) (he : starEach (e :: es) X.env = (false, eval e X.env) :: starEach es X.env := by rfl) (hpl : (backTo pos (starEach es X.env)).any (·.1) = false := by rfl) :
    CL X W (.Call (.Name x p) (e :: es) [] pos) (lCallN ps.length F da) := pe_imp (pe_callS Fn hr hg hm hk hb tk ha hdb he hpl) fun σ H Q h => by
  obtain ⟨env, G, R, h⟩ := h
  refine R_then R (P := fun e s G H r => RunL X.K X.mg W e s G H r Q) h (fun _ _ z => z) (fun z => z) (fun _ _ _ _ a b => a.shift b) fun as e1 vs G1 H1 _ R1 ar le F1 h1 => ?_
  by_cases cn : as.length = ps.length
  · rw [if_pos cn] at h1
    by_cases c : (slotsOf as).Nodup
    · have h2 : RunL X.K X.mg W e1 σ G1 H1 (Fo.rl (match F (as.map (toSl e1)) with
        | .ok d outs => .ok d (backD as outs e1)
        | .okl xs outs => .okl xs (backD as outs e1)
        | .ex x outs => .ex x (backD as outs e1)
        | .stuck => .stuck)) Q := by
        have h3 : RunL X.K X.mg W e1 σ G1 H1 (callD F as e1).rl Q := h1
        unfold callD at h3
        rw [if_pos c] at h3
        exact h3
      refine ⟨ar_np ar cn, as.map (toSl e1), G1, rel_args R1 ar c, ?_⟩
      cases q : F (as.map (toSl e1)) with
      | stuck => rw [q] at h2; exact h2
      | ok d outs => rw [q] at h2; exact h2.elim
      | okl xs outs =>
        rw [q] at h2
        intro a vs' G' H' R' h3 h4 h5 h6 dv F'
        obtain ⟨r, b, o⟩ := back_ok R1 ar c R' F'
        exact h2 a vs' G' H' r h3 h4 h5 (fun z => by
          rcases o a z with z | z
          · exact h6 z
          · exact (z.there R1).1 h5) dv b
      | ex x outs =>
        rw [q] at h2
        exact fun cls dd G' H' xr R' F' => let ⟨a, b, _⟩ := back_ok R1 ar c R' F'; h2 cls dd G' H' xr a b
    · have h3 : RunL X.K X.mg W e1 σ G1 H1 (callD F as e1).rl Q := h1
      unfold callD at h3
      rw [if_neg c] at h3
      exact h3.elim
  · rw [if_neg cn] at h1
    exact h1.elim
end
end DL
set_option Elab.async false
set_option linter.all false
set_option maxRecDepth 100000
set_option autoImplicit false
namespace DL
open PySem L2
theorem lim_size {n : Nat} (h : n ≤ 100000) : n ≤ sizeLine := Nat.le_trans h (by decide)
def dAdd : D → D → Option D
  | .int i, .int j => some (.int (i + j))
  | .str x, .str y => if x.length + y.length ≤ 100000 then some (.str (x ++ y)) else none
  | .tuple xs, .tuple ys => if xs.length + ys.length ≤ 100000 then some (.tuple (xs ++ ys)) else none
  | _, _ => none
def dSub : D → D → Option D
  | .int i, .int j => some (.int (i - j))
  | _, _ => none
/-- one factor small, or both of a size that is told -/
def mulOk (i j : Int) : Bool := (decide (-(2 ^ 64) < i) && decide (i < 2 ^ 64)) || (decide (-(2 ^ 64) < j) && decide (j < 2 ^ 64)) || (decide (i.natAbs < 2 ^ 4000) && decide (j.natAbs < 2 ^ 4000))
def dMul : D → D → Option D
  | .int i, .int j => if mulOk i j then some (.int (i * j)) else none
  | _, _ => none
def divOk (j : Int) : Bool := decide (0 < j) && decide (j.natAbs < 2 ^ 4000)
def powOk (i j : Int) : Bool := decide (0 ≤ j) && decide (j ≤ 1000000) && decide (i.natAbs < 2 ^ 64)
def dFdiv : D → D → Option D
  | .int i, .int j => if divOk j = true then some (.int (i / j)) else none
  | _, _ => none
def dMod : D → D → Option D
  | .int i, .int j => if 0 < j then some (.int (i % j)) else none
  | _, _ => none
def dPow : D → D → Option D
  | .int i, .int j => if powOk i j = true then some (.int (i ^ j.toNat)) else none
  | _, _ => none
def dLt : D → D → Option D
  | .int i, .int j => some (.bool (decide (i < j)))
  | _, _ => none
def dLe : D → D → Option D
  | .int i, .int j => some (.bool (decide (i ≤ j)))
  | _, _ => none
def dGt : D → D → Option D
  | .int i, .int j => some (.bool (decide (j < i)))
  | _, _ => none
def dGe : D → D → Option D
  | .int i, .int j => some (.bool (decide (j ≤ i)))
  | _, _ => none
def dEq (a b : D) : Option D := if SeqAt.shaped a = true ∧ SeqAt.shaped b = true then some (.bool (PyData.eqv a b)) else none
def dNe (a b : D) : Option D := if SeqAt.shaped a = true ∧ SeqAt.shaped b = true then some (.bool (!PyData.eqv a b)) else none
def isNone : D → Bool
  | .none => true
  | _ => false
def dIs (a b : D) : Option D := match b with
  | .none => some (.bool (isNone a))
  | .bool y => match a with
    | .bool x => some (.bool (decide (x = y)))
    | _ => none
  | _ => none
def dIsnt (a b : D) : Option D := match b with
  | .none => some (.bool (!isNone a))
  | .bool y => match a with
    | .bool x => some (.bool (!decide (x = y)))
    | _ => none
  | _ => none
def flatD : D → Bool
  | .none => true
  | .bool _ => true
  | .int _ => true
  | .str _ => true
  | _ => false
def seqOf : D → Option (List D)
  | .list xs => some xs
  | .tuple xs => some xs
  | _ => none
/-- x in a list or tuple of flat things -/
def dIn (x s : D) : Option D := match seqOf s with
  | some xs => if flatD x && xs.all flatD then some (.bool (xs.any fun z => PyData.eqv z x)) else none
  | none => none
def dNotIn (x s : D) : Option D := match seqOf s with
  | some xs => if flatD x && xs.all flatD then some (.bool (!xs.any fun z => PyData.eqv z x)) else none
  | none => none
def dIx (s i : D) : Option D := match s, i with
  | .list xs, .int k => atI xs k
  | .tuple xs, .int k => atI xs k
  | .str z, .int k => if z.length ≤ 100000 then (atI z.cps.toList k).map fun c => .str ⟨#[c]⟩ else none
  | _, _ => none
section
variable {X : Cx} {K : PySem.W.Frag}
/-- an operation that makes nothing -/
theorem opd_pure {r : R2} {f : D → D → Option D} (h : ∀ x y d e z G H Q, Dv K G x d → Dv K G y e → Ex G H → f d e = some z → (∀ v, Dv K G v z → Q v H) → r x y H Q) : OpD K r f :=
  fun x y d e z G H Q hx hy ex hf k => h x y d e z G H Q hx hy ex hf fun v dv => k v G H dv (Grow.refl ex)
theorem od_I0 {g : Int → Int → V} {f : D → D → Option D} {gd : Int → Int → D} (hg : ∀ G i j, Dv K G (g i j) (gd i j)) (hf : ∀ d e z, f d e = some z → ∃ i j, d = .int i ∧ e = .int j ∧ z = gd i j) : OpD K (rI0 g) f := opd_pure fun x y d e z G H Q hx hy ex h k => by
  obtain ⟨i, j, rfl, rfl, rfl⟩ := hf d e z h
  cases hx
  cases hy
  exact ⟨i, j, rfl, rfl, k _ (hg G i j)⟩
theorem od_I {C : Int → Int → Prop} {g : Int → Int → V} {f : D → D → Option D} {gd : Int → Int → D} (hg : ∀ G i j, Dv K G (g i j) (gd i j)) (hf : ∀ d e z, f d e = some z → ∃ i j, d = .int i ∧ e = .int j ∧ C i j ∧ z = gd i j) : OpD K (rI C g) f := opd_pure fun x y d e z G H Q hx hy ex h k => by
  obtain ⟨i, j, rfl, rfl, c, rfl⟩ := hf d e z h
  cases hx
  cases hy
  exact ⟨i, j, rfl, rfl, c, k _ (hg G i j)⟩
theorem od_sub : OpD K (rI0 fun i j => .int (i - j)) dSub := od_I0 (gd := fun i j => .int (i - j)) (fun _ _ _ => .int _) fun d e z h => by
  cases d <;> cases e <;> simp [dSub] at h <;> exact ⟨_, _, rfl, rfl, h.symm⟩
theorem od_lt : OpD K (rI0 fun i j => .bl (decide (i < j))) dLt := od_I0 (gd := fun i j => .bool (decide (i < j))) (fun _ _ _ => .bl _) fun d e z h => by
  cases d <;> cases e <;> simp [dLt] at h <;> exact ⟨_, _, rfl, rfl, h.symm⟩
theorem od_le : OpD K (rI0 fun i j => .bl (decide (i ≤ j))) dLe := od_I0 (gd := fun i j => .bool (decide (i ≤ j))) (fun _ _ _ => .bl _) fun d e z h => by
  cases d <;> cases e <;> simp [dLe] at h <;> exact ⟨_, _, rfl, rfl, h.symm⟩
theorem od_gt : OpD K (rI0 fun i j => .bl (decide (j < i))) dGt := od_I0 (gd := fun i j => .bool (decide (j < i))) (fun _ _ _ => .bl _) fun d e z h => by
  cases d <;> cases e <;> simp [dGt] at h <;> exact ⟨_, _, rfl, rfl, h.symm⟩
theorem od_ge : OpD K (rI0 fun i j => .bl (decide (j ≤ i))) dGe := od_I0 (gd := fun i j => .bool (decide (j ≤ i))) (fun _ _ _ => .bl _) fun d e z h => by
  cases d <;> cases e <;> simp [dGe] at h <;> exact ⟨_, _, rfl, rfl, h.symm⟩
theorem mulOk_wide {i j : Int} (h : mulOk i j = true) : CMulW i j ∨ CMul i j := by
  unfold mulOk at h
  simp only [Bool.or_eq_true, Bool.and_eq_true, decide_eq_true_eq] at h
  rcases h with (h | h) | h
  · exact .inr (.inl h)
  · exact .inr (.inr h)
  · exact .inl (wide_mul h.1 h.2 (by decide) (by decide) (by decide))
def rMulA : R2 := fun x y H Q => rI CMulW (fun i j => .int (i * j)) x y H Q ∨ rI CMul (fun i j => .int (i * j)) x y H Q
theorem op_mulA : OpR X (binaryOp .Mult) rMulA := op_mulW.or op_mul
theorem od_mul : OpD K rMulA dMul := opd_pure fun x y d e z G H Q hx hy ex h k => by
  cases d <;> cases e <;> first | (simp [dMul] at h; done) | skip
  rename_i i j
  have h' : (if mulOk i j = true then some (PyData.int (i * j)) else none) = some z := h
  by_cases c : mulOk i j = true
  · rw [if_pos c] at h'
    cases h'
    cases hx
    cases hy
    rcases mulOk_wide c with w | w
    · exact .inl ⟨i, j, rfl, rfl, w, k _ (.int _)⟩
    · exact .inr ⟨i, j, rfl, rfl, w, k _ (.int _)⟩
  · rw [if_neg c] at h'
    cases h'
theorem od_fdiv : OpD K (rI CDivW fun i j => .int (i / j)) dFdiv := od_I (gd := fun i j => .int (i / j)) (fun _ _ _ => .int _) fun d e z h => by
  cases d <;> cases e <;> first | (simp [dFdiv] at h; done) | skip
  rename_i i j
  have h' : (if divOk j = true then some (PyData.int (i / j)) else none) = some z := h
  by_cases c : divOk j = true
  · rw [if_pos c] at h'
    cases h'
    unfold divOk at c
    simp only [Bool.and_eq_true, decide_eq_true_eq] at c
    exact ⟨i, j, rfl, rfl, wide_div c.1 c.2 (by decide) (by decide), rfl⟩
  · rw [if_neg c] at h'
    cases h'
theorem od_mod : OpD K (rI (fun _ j => 0 < j) fun i j => .int (i % j)) dMod := od_I (gd := fun i j => .int (i % j)) (fun _ _ _ => .int _) fun d e z h => by
  cases d <;> cases e <;> first | (simp [dMod] at h; done) | skip
  rename_i i j
  have h' : (if 0 < j then some (PyData.int (i % j)) else none) = some z := h
  by_cases c : 0 < j
  · rw [if_pos c] at h'
    cases h'
    exact ⟨i, j, rfl, rfl, c, rfl⟩
  · rw [if_neg c] at h'
    cases h'
theorem od_pow : OpD K (rI CPow fun i j => .int (i ^ j.toNat)) dPow := od_I (gd := fun i j => .int (i ^ j.toNat)) (fun _ _ _ => .int _) fun d e z h => by
  cases d <;> cases e <;> first | (simp [dPow] at h; done) | skip
  rename_i i j
  have h' : (if powOk i j = true then some (PyData.int (i ^ j.toNat)) else none) = some z := h
  by_cases c : powOk i j = true
  · rw [if_pos c] at h'
    cases h'
    unfold powOk at c
    simp only [Bool.and_eq_true, decide_eq_true_eq] at c
    exact ⟨i, j, rfl, rfl, ⟨c.1.1, c.1.2, c.2⟩, rfl⟩
  · rw [if_neg c] at h'
    cases h'
def rAddStr : R2 := fun x y H Q => ∃ i j, x = .str i ∧ y = .str j ∧ i.length + j.length ≤ sizeLine ∧ Q (.str (i ++ j)) H
def rAddA (K : PySem.W.Frag) : R2 := fun x y H Q => rI0 (fun i j => .int (i + j)) x y H Q ∨ rAddStr x y H Q ∨ rCatF K x y H Q
theorem op_addA : OpR X (binaryOp .Add) (rAddA X.K) := op_add.or (OpR.or op_add_str op_catF)
theorem od_add : OpD K (rAddA K) dAdd := fun x y d e z G H Q hx hy ex h k => by
  cases d <;> cases e <;> first | (simp [dAdd] at h; done) | skip
  · rename_i i j
    cases h
    cases hx
    cases hy
    exact .inl ⟨i, j, rfl, rfl, k _ G H (.int _) (Grow.refl ex)⟩
  · rename_i i j
    have h' : (if i.length + j.length ≤ 100000 then some (PyData.str (i ++ j)) else none) = some z := h
    by_cases c : i.length + j.length ≤ 100000
    · rw [if_pos c] at h'
      cases h'
      cases hx
      cases hy
      exact .inr (.inl ⟨i, j, rfl, rfl, lim_size c, k _ G H (.str _) (Grow.refl ex)⟩)
    · rw [if_neg c] at h'
      cases h'
  · rename_i xs ys
    have h' : (if xs.length + ys.length ≤ 100000 then some (PyData.tuple (xs ++ ys)) else none) = some z := h
    by_cases c : xs.length + ys.length ≤ 100000
    · rw [if_pos c] at h'
      cases h'
      cases hx with
      | @tup a vs _ h1 h2 =>
        cases hy with
        | @tup b ws _ h3 h4 =>
          refine .inr (.inr ⟨a, b, vs, ws, rfl, rfl, (ex.n h1).t, (ex.n h3).t, by rw [h2.length, h4.length]; exact lim_size c, fun e => ?_, fun _ e => ?_, fun _ _ p o hp hd => ?_⟩)
          · subst e
            cases h2
            exact k _ G H (.tup h3 h4) (Grow.refl ex)
          · subst e
            cases h4
            rw [List.append_nil] at k
            exact k _ G H (.tup h1 h2) (Grow.refl ex)
          · have g : Grow G H (upd G p (.frz o (.tup (vs ++ ws)))) (upd H p (.frz o (.tup (vs ++ ws)))) := Grow.one ex hp
            exact k _ _ _ (.tup (.inl ⟨o, upd_same, hd⟩) ((h2.append h4).up g.gg)) g
    · rw [if_neg c] at h'
      cases h'
theorem od_eq : OpD K (rEqD K) dEq := opd_pure fun x y d e z G H Q hx hy ex h k => by
  unfold dEq at h
  by_cases c : SeqAt.shaped d = true ∧ SeqAt.shaped e = true
  · rw [if_pos c] at h
    cases h
    exact ⟨d, e, Dv.dp ex d x (SeqAt.canLay_of_shaped c.1) hx, Dv.dp ex e y (SeqAt.canLay_of_shaped c.2) hy, c.1, c.2, k _ (.bl _)⟩
  · rw [if_neg c] at h
    cases h
theorem od_ne : OpD K (rNeD K) dNe := opd_pure fun x y d e z G H Q hx hy ex h k => by
  unfold dNe at h
  by_cases c : SeqAt.shaped d = true ∧ SeqAt.shaped e = true
  · rw [if_pos c] at h
    cases h
    exact ⟨d, e, Dv.dp ex d x (SeqAt.canLay_of_shaped c.1) hx, Dv.dp ex e y (SeqAt.canLay_of_shaped c.2) hy, c.1, c.2, k _ (.bl _)⟩
  · rw [if_neg c] at h
    cases h
theorem dv_none {G : Hp} {x : V} {d : D} (h : Dv K G x d) : decide (x = .non) = isNone d := by
  cases h <;> rfl
def rIsA : R2 := fun x y H Q => (y = .non ∧ Q (.bl (decide (x = .non))) H) ∨ rIsB x y H Q
def rIsntA : R2 := fun x y H Q => (y = .non ∧ Q (.bl (!decide (x = .non))) H) ∨ rNotB x y H Q
theorem op_isA : OpR X (compareOp .Is) rIsA := op_isN.or op_isBl
theorem op_isntA : OpR X (compareOp .IsNot) rIsntA := op_notN.or op_notBl
theorem od_is : OpD K rIsA dIs := opd_pure fun x y d e z G H Q hx hy ex h k => by
  have e0 := dv_none hx
  cases e with
  | none =>
    cases hy
    cases h
    exact .inl ⟨rfl, by rw [e0]; exact k _ (.bl _)⟩
  | bool b =>
    cases d <;> simp [dIs] at h
    subst h
    cases hx
    cases hy
    exact .inr ⟨_, _, rfl, rfl, k _ (.bl _)⟩
  | int i => cases h
  | str i => cases h
  | list i => cases h
  | tuple i => cases h
  | dict i => cases h
theorem od_isnt : OpD K rIsntA dIsnt := opd_pure fun x y d e z G H Q hx hy ex h k => by
  have e0 := dv_none hx
  cases e with
  | none =>
    cases hy
    cases h
    exact .inl ⟨rfl, by rw [e0]; exact k _ (.bl _)⟩
  | bool b =>
    cases d <;> simp [dIsnt] at h
    subst h
    cases hx
    cases hy
    exact .inr ⟨_, _, rfl, rfl, k _ (.bl _)⟩
  | int i => cases h
  | str i => cases h
  | list i => cases h
  | tuple i => cases h
  | dict i => cases h
theorem dv_flat {G : Hp} {x : V} {d : D} (h : Dv K G x d) : flatV x = flatD d := by
  cases h <;> rfl
theorem dv_flats {G : Hp} : ∀ {xs : List V} {ds : List D}, DvAll K G xs ds → xs.all flatV = ds.all flatD
  | _, _, .nil => rfl
  | _, _, .cons a b => by rw [List.all_cons, List.all_cons, dv_flat a, dv_flats b]
theorem eqv_flat {G : Hp} {x y : V} {d e : D} (hx : Dv K G x d) (hy : Dv K G y e) (fx : flatD d = true) (fy : flatD e = true) : eqV x y = PyData.eqv d e := by
  cases hx <;> first | cases fx | skip
  all_goals (cases hy <;> first | cases fy | skip)
  all_goals first | rfl | simp [eqV, PyData.eqv]
theorem any_flat {G : Hp} {x : V} {d : D} (hx : Dv K G x d) (fx : flatD d = true) : ∀ {xs : List V} {ds : List D}, DvAll K G xs ds → ds.all flatD = true → inV x xs = ds.any fun z => PyData.eqv z d
  | _, _, .nil, _ => rfl
  | _, _, .cons a b, f => by
    rw [List.all_cons, Bool.and_eq_true] at f
    have ih := any_flat hx fx b f.2
    unfold inV at ih ⊢
    rw [List.any_cons, List.any_cons, ih, eqv_flat a hx f.1 fx]
theorem seqOf_dv {G H : Hp} (ex : Ex G H) {y : V} {s : D} {ds : List D} (h : Dv K G y s) (e : seqOf s = some ds) : ∃ p xs, y = .ref p ∧ (SqL K H p xs ∨ SqT K H p xs) ∧ DvAll K G xs ds := by
  cases h with
  | lst a b => cases e; exact ⟨_, _, rfl, .inl (ex.rl a).sq, b⟩
  | tup a b => cases e; exact ⟨_, _, rfl, .inr (ex.n a).t, b⟩
  | non => cases e
  | bl _ => cases e
  | int _ => cases e
  | str _ => cases e
  | dct _ _ => cases e
theorem od_in : OpD K (rIn K false) dIn := opd_pure fun x y d e z G H Q hx hy ex h k => by
  unfold dIn at h
  cases q : seqOf e with
  | none => rw [q] at h; cases h
  | some ds =>
    rw [q] at h
    obtain ⟨p, xs, rfl, sq, dv⟩ := seqOf_dv ex hy q
    have h' : (if (flatD d && ds.all flatD) = true then some (PyData.bool (ds.any fun z => PyData.eqv z d)) else none) = some z := h
    by_cases c : (flatD d && ds.all flatD) = true
    · rw [if_pos c] at h'
      cases h'
      rw [Bool.and_eq_true] at c
      refine ⟨p, xs, rfl, sq, by rw [dv_flat hx]; exact c.1, by rw [dv_flats dv]; exact c.2, ?_⟩
      show Q (.bl (inV x xs)) H
      rw [any_flat hx c.1 dv c.2]
      exact k _ (.bl _)
    · rw [if_neg c] at h'
      cases h'
theorem od_notIn : OpD K (rIn K true) dNotIn := opd_pure fun x y d e z G H Q hx hy ex h k => by
  unfold dNotIn at h
  cases q : seqOf e with
  | none => rw [q] at h; cases h
  | some ds =>
    rw [q] at h
    obtain ⟨p, xs, rfl, sq, dv⟩ := seqOf_dv ex hy q
    have h' : (if (flatD d && ds.all flatD) = true then some (PyData.bool (!ds.any fun z => PyData.eqv z d)) else none) = some z := h
    by_cases c : (flatD d && ds.all flatD) = true
    · rw [if_pos c] at h'
      cases h'
      rw [Bool.and_eq_true] at c
      refine ⟨p, xs, rfl, sq, by rw [dv_flat hx]; exact c.1, by rw [dv_flats dv]; exact c.2, ?_⟩
      show Q (.bl (!inV x xs)) H
      rw [any_flat hx c.1 dv c.2]
      exact k _ (.bl _)
    · rw [if_neg c] at h'
      cases h'
theorem atI_dv {G : Hp} {xs : List V} {ds : List D} {i : Int} {z : D} (dv : DvAll K G xs ds) (h : atI ds i = some z) : ∃ v, atI xs i = some v ∧ Dv K G v z := by
  unfold atI at h ⊢
  rw [dv.length]
  cases q : ixN ds.length i with
  | none => rw [q] at h; cases h
  | some j =>
    rw [q] at h
    exact dv.get h
theorem od_ix : OpD K (rIx K) dIx := opd_pure fun x y d e z G H Q hx hy ex h k => by
  cases d <;> cases e <;> first | (simp [dIx] at h; done) | skip
  · rename_i s i
    have h' : (if s.length ≤ 100000 then (atI s.cps.toList i).map (fun c => PyData.str ⟨#[c]⟩) else none) = some z := h
    by_cases c : s.length ≤ 100000
    · rw [if_pos c] at h'
      cases q : atI s.cps.toList i with
      | none => rw [q] at h'; cases h'
      | some ch =>
        rw [q] at h'
        cases h'
        cases hx
        cases hy
        exact .inr (.inr ⟨s, i, ch, rfl, rfl, lim_size c, q, k _ (.str _)⟩)
    · rw [if_neg c] at h'
      cases h'
  · rename_i ds i
    cases hx with
    | @lst a xs _ h1 h2 =>
      cases hy
      obtain ⟨v, hv, dv⟩ := atI_dv h2 h
      exact .inl ⟨a, xs, i, v, rfl, rfl, (ex.rl h1).sq, hv, k v dv⟩
  · rename_i ds i
    cases hx with
    | @tup a xs _ h1 h2 =>
      cases hy
      obtain ⟨v, hv, dv⟩ := atI_dv h2 h
      exact .inr (.inl ⟨a, xs, i, v, rfl, rfl, (ex.n h1).t, hv, k v dv⟩)
def fLen : List D → Option D
  | [.list xs] => some (.int xs.length)
  | [.tuple xs] => some (.int xs.length)
  | [.str x] => if x.length ≤ 100000 then some (.int x.length) else none
  | _ => none
def rLenA (K : PySem.W.Frag) : List V → Hp → VK → Prop := fun xs H Q => (∃ p ys, xs = [.ref p] ∧ (SqL K H p ys ∨ SqT K H p ys) ∧ Q (.int ys.length) H) ∨ (∃ z, xs = [.str z] ∧ z.length ≤ sizeLine ∧ Q (.int z.length) H)
theorem cr_lenA : CallR X (.builtin "len") (rLenA X.K) := call_len_seq.or call_len_str
theorem cd_len : CbD K (rLenA K) fLen := fun xs ds z G H Q hx ex hf k => by
  match ds, hx, hf with
  | [.list ys], .cons (.lst a b) .nil, hf => cases hf; exact .inl ⟨_, _, rfl, .inl (ex.rl a).sq, by rw [b.length]; exact k _ G H (.int _) (Grow.refl ex)⟩
  | [.tuple ys], .cons (.tup a b) .nil, hf => cases hf; exact .inl ⟨_, _, rfl, .inr (ex.n a).t, by rw [b.length]; exact k _ G H (.int _) (Grow.refl ex)⟩
  | [.str s], .cons (.str _) .nil, hf =>
    have h' : (if s.length ≤ 100000 then some (PyData.int s.length) else none) = some z := hf
    by_cases c : s.length ≤ 100000
    · rw [if_pos c] at h'
      cases h'
      exact .inr ⟨s, rfl, lim_size c, k _ G H (.int _) (Grow.refl ex)⟩
    · rw [if_neg c] at h'; cases h'
def fMin : List D → Option D
  | [.int i, .int j] => some (.int (if j < i then j else i))
  | _ => none
def fMax : List D → Option D
  | [.int i, .int j] => some (.int (if j > i then j else i))
  | _ => none
theorem cd_min : CbD K (fun xs H Q => ∃ i j, xs = [.int i, .int j] ∧ Q (.int (if j < i then j else i)) H) fMin := fun xs ds z G H Q hx ex hf k => by
  match ds, hx, hf with
  | [.int i, .int j], .cons (.int _) (.cons (.int _) .nil), hf => cases hf; exact ⟨i, j, rfl, k _ G H (.int _) (Grow.refl ex)⟩
theorem cd_max : CbD K (fun xs H Q => ∃ i j, xs = [.int i, .int j] ∧ Q (.int (if j > i then j else i)) H) fMax := fun xs ds z G H Q hx ex hf k => by
  match ds, hx, hf with
  | [.int i, .int j], .cons (.int _) (.cons (.int _) .nil), hf => cases hf; exact ⟨i, j, rfl, k _ G H (.int _) (Grow.refl ex)⟩
/-- int(x) of an int or a truth -/
def fInt : List D → Option D
  | [.int i] => some (.int i)
  | [.bool b] => some (.int (if b then 1 else 0))
  | _ => none
theorem cd_int : CbD K (fun xs H Q => (∃ i, xs = [.int i] ∧ Q (.int i) H) ∨ ∃ k, xs = [.bl k] ∧ Q (.int (if k then 1 else 0)) H) fInt := fun xs ds z G H Q hx ex hf k => by
  match ds, hx, hf with
  | [.int i], .cons (.int _) .nil, hf => cases hf; exact .inl ⟨i, rfl, k _ G H (.int _) (Grow.refl ex)⟩
  | [.bool i], .cons (.bl _) .nil, hf => cases hf; exact .inr ⟨i, rfl, k _ G H (.int _) (Grow.refl ex)⟩
end
end DL
set_option Elab.async false
set_option linter.all false
set_option maxRecDepth 100000
set_option autoImplicit false
namespace DL
open PySem L2
def getL (i : Nat) (env : DEnv) : Option (List D) := match env[i]? with
  | some (.l xs) => some xs
  | some (.p xs) => some xs
  | _ => none
def putL (i : Nat) (xs : List D) (env : DEnv) : DEnv := match env[i]? with
  | some (.l _) => env.set i (.l xs)
  | some (.p _) => env.set i (.p xs)
  | _ => env
section
variable {K : PySem.W.Frag} {mg : Str → Option Value} {W : WX} {env : DEnv} {σ : L2.St} {G H : Hp} {i : Nat} {xs : List D}
theorem getL_some (h : getL i env = some xs) : env[i]? = some (.l xs) ∨ env[i]? = some (.p xs) := by
  unfold getL at h
  cases q : env[i]? with
  | none => rw [q] at h; cases h
  | some s =>
    rw [q] at h
    cases s with
    | l ys => cases h; exact .inl rfl
    | p ys => cases h; exact .inr rfl
    | no => cases h
    | v d => cases h
    | n _ => cases h
    | m d => cases h
    | f d => cases h
    | a d _ _ => cases h
    | t d => cases h
    | u d => cases h
theorem own_get (R : Rel K env σ G H) (h : getL i env = some xs) : ∃ a vs, σ[i]? = some (some (.ref a)) ∧ H a = some (.lst vs) ∧ G a = none ∧ DvAll K G vs xs ∧ OwnAt env σ H i a := by
  rcases getL_some h with q | q
  · have li : i < σ.length := by rw [← R.len]; exact (List.getElem?_eq_some_iff.mp q).1
    have ho : σ[i]? = some σ[i] := List.getElem?_eq_getElem li
    obtain ⟨a, vs, e, h1, h2, h3⟩ := R.slot i _ _ q ho
    rw [e] at ho
    exact ⟨a, vs, ho, h1, h2, h3, .of q rfl ho⟩
  · have li : i < σ.length := by rw [← R.len]; exact (List.getElem?_eq_some_iff.mp q).1
    have ho : σ[i]? = some σ[i] := List.getElem?_eq_getElem li
    obtain ⟨a, vs, e, h1, h2, h3⟩ := R.slot i _ _ q ho
    rw [e] at ho
    exact ⟨a, vs, ho, h1, h2, h3, .of q rfl ho⟩
/-- one thing of a slot's own is changed -/
theorem Rel.own1 {s0 s1 : Sl} {a : Addr} {o1 : HO} (R : Rel K env σ G H) (hi : env[i]? = some s0) (hs0 : s0.lst = true) (ho : σ[i]? = some (some (.ref a))) (n : RS K G (upd H a o1) s1 (some (.ref a))) (hw : ∀ b, OwnS (upd H a o1) s1 (some (.ref a)) b → b = a) (pk : s1.pk = s0.pk) :
    Rel K (env.set i s1) σ G (upd H a o1) ∧ Fr env σ G H (env.set i s1) σ G (upd H a o1) := by
  have li : i < env.length := (List.getElem?_eq_some_iff.mp hi).1
  have o : OwnAt env σ H i a := .of hi hs0 ho
  obtain ⟨hne, h2⟩ := o.there R
  have k : ∀ j b, j ≠ i → OwnAt env σ H j b → upd H a o1 b = H b ∧ G b = none := fun j b ne w => ⟨upd_ne fun z => (by subst z; exact ne (R.dist j i b w o)), (w.there R).2⟩
  refine ⟨(R.put li rfl ho (fun _ _ => rfl) (fun b u hb => ?_) (Ex.refl _) k n fun b w j ne w2 => ?_).1, Fr.put (s1 := s1) (o1 := some (.ref a)) R li ho (fun _ _ => rfl) (Ex.refl _) k (fun b u hb hn => ?_) (fun b hb => ?_) (fun b hb => .inl hb) (fun b w => ?_) fun z => ⟨rfl, s0, hi, pk.symm⟩⟩
  · rw [upd_ne (fun z => by subst z; rw [h2] at hb; cases hb)]
    exact R.ex b u hb
  · rw [hw b w] at w2
    exact ne (R.dist j i a w2 o)
  · rw [upd_ne (fun z => by subst z; exact hn ⟨i, o⟩)]
    exact hb
  · by_cases c : b = a
    · subst c; rw [upd_same] at hb; cases hb
    · rw [upd_ne c] at hb; exact hb
  · rw [hw b w]
    exact .inl ⟨i, o⟩
/-- the list of slot i is changed -/
theorem own_put (R : Rel K env σ G H) (h : getL i env = some xs) {a : Addr} {vs vs' : List V} {ys : List D} (ho : σ[i]? = some (some (.ref a))) (h1 : H a = some (.lst vs)) (h2 : G a = none) (o : OwnAt env σ H i a) (dv : DvAll K G vs' ys) :
    Rel K (putL i ys env) σ G (upd H a (.lst vs')) ∧ Fr env σ G H (putL i ys env) σ G (upd H a (.lst vs')) := by
  unfold putL
  rcases getL_some h with q | q
  · rw [q]
    exact R.own1 (s1 := .l ys) q rfl ho ⟨a, vs', rfl, upd_same, h2, dv⟩ (fun b w => by cases w; rfl) rfl
  · rw [q]
    exact R.own1 (s1 := .p ys) q rfl ho ⟨a, vs', rfl, upd_same, h2, dv⟩ (fun b w => by cases w; rfl) rfl
end
def known (i : Nat) (env : DEnv) : Bool := match env[i]? with
  | some .no => false
  | some _ => true
  | none => false
def ixAt (i : Nat) (k : D) (e1 : DEnv) : Rs D := match e1[i]? with
  | some (.v d) => put (dIx d k) e1
  | some (.l xs) => put (dIx (.list xs) k) e1
  | some (.p xs) => put (dIx (.list xs) k) e1
  | _ => .stuck
def eIxN (i : Nat) (db : DE) : DE := fun env => if known i env then (db env).bind fun k e1 => ixAt i k e1 else .stuck
section
variable {X : Cx} {W : WX} {pos : Pos} {b e : Expr} {db de : DE}
/-- a name's value as it stands: data, or a list of the def's own (to be read at once) -/
theorem peekV {K : PySem.W.Frag} {env : DEnv} {σ : L2.St} {G H : Hp} {i : Nat} {s : Sl} (R : Rel K env σ G H) (h : env[i]? = some s) : ∃ o, σ[i]? = some o ∧ RS K G H s o := by
  have li : i < σ.length := by rw [← R.len]; exact (List.getElem?_eq_some_iff.mp h).1
  exact ⟨_, List.getElem?_eq_getElem li, R.slot i s _ h (List.getElem?_eq_getElem li)⟩
theorem known_v {K : PySem.W.Frag} {env : DEnv} {σ : L2.St} {G H : Hp} {i : Nat} (R : Rel K env σ G H) (h : known i env = true) : ∃ v, σ[i]? = some (some v) := by
  unfold known at h
  cases q : env[i]? with
  | none => rw [q] at h; cases h
  | some s =>
    rw [q] at h
    obtain ⟨o, ho, rs⟩ := peekV R q
    cases s with
    | no => cases h
    | v d => obtain ⟨v, e, _⟩ := rs; exact ⟨v, by rw [ho, e]⟩
    | l d => obtain ⟨v, _, e, _⟩ := rs; exact ⟨_, by rw [ho, e]⟩
    | p d => obtain ⟨v, _, e, _⟩ := rs; exact ⟨_, by rw [ho, e]⟩
    | n _ => obtain ⟨v, e, _⟩ := rs; exact ⟨_, by rw [ho, e]⟩
    | m d => obtain ⟨v, _, e, _⟩ := rs; exact ⟨_, by rw [ho, e]⟩
    | f d => exact ⟨_, by rw [ho, rs]⟩
    | a d _ _ => exact ⟨_, by rw [ho, rs.1]⟩
    | t d => obtain ⟨v, e, _⟩ := rs; exact ⟨_, by rw [ho, e]⟩
    | u d => obtain ⟨v, e, _⟩ := rs; exact ⟨_, by rw [ho, e]⟩
theorem ixAt_ok {K : PySem.W.Frag} {mg : Str → Option Value} {e1 : DEnv} {σ : L2.St} {G1 H1 : Hp} {i : Nat} {k : D} {v y : V} {Q : VK} (R1 : Rel K e1 σ G1 H1) (hv : σ[i]? = some (some v)) (dv : Dv K G1 y k) (h1 : RunE K mg W e1 σ G1 H1 (ixAt i k e1) Q) : rIx K v y H1 Q := by
  unfold ixAt at h1
  cases q : e1[i]? with
  | none => rw [q] at h1; exact h1.elim
  | some s =>
    rw [q] at h1
    obtain ⟨o, ho, rs⟩ := peekV R1 q
    rw [hv] at ho
    cases ho
    have own : ∀ xs : List D, (∃ a vs, some v = some (V.ref a) ∧ H1 a = some (.lst vs) ∧ G1 a = none ∧ DvAll K G1 vs xs) → RunE K mg W e1 σ G1 H1 (put (dIx (.list xs) k) e1) Q → rIx K v y H1 Q := fun xs rs h1 => by
      obtain ⟨a, vs, e, g1, g2, g3⟩ := rs
      cases e
      obtain ⟨z, ez, kk⟩ := RunE.put R1 h1
      cases k with
      | int n =>
        cases dv
        obtain ⟨u, hu, du⟩ := atI_dv g3 ez
        exact .inl ⟨a, vs, n, u, rfl, rfl, .inl (.inl g1), hu, kk u G1 H1 du (Grow.refl R1.ex)⟩
      | none => cases ez
      | bool _ => cases ez
      | str _ => cases ez
      | list _ => cases ez
      | tuple _ => cases ez
      | dict _ => cases ez
    cases s with
    | no => exact h1.elim
    | n _ => exact h1.elim
    | m xs => exact h1.elim
    | f xs => exact h1.elim
    | a xs _ _ => exact h1.elim
    | t xs => exact h1.elim
    | u xs => exact h1.elim
    | v d =>
      obtain ⟨w, e, dw⟩ := rs
      cases e
      obtain ⟨z, ez, kk⟩ := RunE.put R1 h1
      exact od_ix v y d k z G1 H1 Q dw dv R1.ex ez kk
    | l xs => exact own xs rs h1
    | p xs => exact own xs rs h1
theorem if_run {α : Type} {c : Bool} {r : Rs α} {P : Rs α → Prop} (h : P (if c = true then r else .stuck)) (hst : ¬ P .stuck) : c = true ∧ P r := by
  cases c with
  | true => exact ⟨rfl, h⟩
  | false => exact (hst h).elim
theorem ce_ixN (i : Nat) {x : Str} {p : Pos} (hb : CE X W b db) (hs : PlainIx b) (hN : X.N[i]? = some x := by rfl) (hv : Vis X.env.scope x := by first | exact Or.inl rfl | exact Or.inr (Or.inl rfl) | exact Or.inr (Or.inr rfl)) (hd : (x == ("__debug__" : Str)) = false := by decide)
    (hcd : (x == ("__classdict__" : Str)) = false := by decide) : CE X W (.Subscript (.Name x p) b pos) (eIxN i db) := pe_imp (pe_ix ix_seq (pe_var hN hv hd hcd) hb hs) fun σ H Q h => by
  obtain ⟨env, G, R, h⟩ := h
  obtain ⟨c, h⟩ := if_run (P := fun r => RunE X.K X.mg W env σ G H r Q) h fun z => z
  obtain ⟨v, hv⟩ := known_v R c
  exact ⟨v, hv, E_thenE R h fun k e1 y G1 H1 _ R1 dv F1 h1 => ixAt_ok R1 hv dv h1⟩
def sSetO (i : Nat) (dk dv : DE) : DS := fun env => (dv env).fl fun v e1 => if known i e1 then (dk e1).fl fun k e2 => match getL i e2, k with
  | some xs, .int n => match ixN xs.length n with
    | some j => .nx (putL i (xs.set j v) e2)
    | none => .stuck
  | _, _ => .stuck else .stuck
theorem cs_setO (i : Nat) {x : Str} {p p2 : Pos} (hk : CE X W b db) (he : CE X W e de) (hN : X.N[i]? = some x := by rfl) (hv : Vis X.env.scope x := by first | exact Or.inl rfl | exact Or.inr (Or.inl rfl) | exact Or.inr (Or.inr rfl)) (hd : (x == ("__debug__" : Str)) = false := by decide)
    (hcd : (x == ("__classdict__" : Str)) = false := by decide) (hs : swapsWithSole [.Subscript (.Name x p) b p2] e pos.line X.env = pure false := by rfl) (hw : swappedStores [.Subscript (.Name x p) b p2] e X.env = pure none := by rfl)
    (h1 : (assignEach [.Subscript (.Name x p) b p2] X.env).map (·.2) = [assign (.Subscript (.Name x p) b p2) X.env] := by rfl)
    (ha : ∀ v, assign (.Subscript (.Name x p) b p2) X.env v = (do
      let ov ← holding [v] (eval (.Name x p) X.env)
      let iv ← holding [v, ov] (eval b X.env)
      standAt p2
      holding [v, ov, iv] (setItem ov iv v)
      release [v, ov, iv] []) := by intro _; rfl) : CS X W (.Assign [.Subscript (.Name x p) b p2] e pos) (sSetO i db de) :=
  ps_imp (ps_asg he (pg_sub (pe_var hN hv hd hcd) hk set_list ha) hs hw h1) fun E σ H h => by
    obtain ⟨env, G, R, h⟩ := h
    refine E_thenS R h fun d e1 v G1 H1 _ R1 dv F1 h1 => ?_
    by_cases c : known i e1 = true
    · rw [if_pos c] at h1
      obtain ⟨o, ho⟩ := known_v R1 c
      refine ⟨o, ho, E_thenS R1 h1 fun k e2 y G2 H2 _ R2 dk F2 h2 => ?_⟩
      cases q : getL i e2 with
      | none => rw [q] at h2; exact h2.elim
      | some xs =>
        rw [q] at h2
        cases k with
        | int n =>
          cases dk
          obtain ⟨a, vs, x1, x2, x3, x4, x5⟩ := own_get R2 q
          rw [ho] at x1
          cases x1
          have h3 : RunS X.K X.mg W e2 σ G2 H2 (match ixN xs.length n with
            | some j => .nx (putL i (xs.set j d) e2)
            | none => .stuck) E := h2
          cases q2 : ixN xs.length n with
          | none => rw [q2] at h3; exact h3.elim
          | some j =>
            rw [q2] at h3
            obtain ⟨r1, r2⟩ := own_put R2 q ho x2 x3 x5 (x4.set (dv.up F2.gg) j)
            exact ⟨a, vs, n, j, rfl, rfl, x2, by rw [x4.length]; exact q2, h3 σ G2 _ r1 r2⟩
        | none => exact h2.elim
        | bool _ => exact h2.elim
        | str _ => exact h2.elim
        | list _ => exact h2.elim
        | tuple _ => exact h2.elim
        | dict _ => exact h2.elim
    · rw [if_neg c] at h1
      exact h1.elim
def OwnM (K : PySem.W.Frag) (r : V → List V → Hp → VK → Prop) (f : List D → List D → Option (D × List D)) : Prop := ∀ (l : Addr) (vs ws : List V) (xs args : List D) (z : D) (ys : List D) (G H : Hp) (Q : VK),
  H l = some (.lst vs) → DvAll K G vs xs → DvAll K G ws args → Ex G H → G l = none → f xs args = some (z, ys) → (∀ v vs', Dv K G v z → DvAll K G vs' ys → Q v (upd H l (.lst vs'))) → r (.ref l) ws H Q
def eMO (i : Nat) (f : List D → List D → Option (D × List D)) (da : DA) : DE := fun env => if (getL i env).isSome then (da env).bind fun args e1 => match getL i e1 with
  | some xs => match f xs args with
    | some (z, ys) => .ok z (putL i ys e1)
    | none => .stuck
  | none => .stuck else .stuck
theorem mo_ok {K : PySem.W.Frag} {mg : Str → Option Value} {r : V → List V → Hp → VK → Prop} {f : List D → List D → Option (D × List D)} (o : OwnM K r f) {i : Nat} {e1 : DEnv} {σ : L2.St} {G1 H1 : Hp} {args : List D} {ws : List V} {l : Addr} {Q : VK} (R1 : Rel K e1 σ G1 H1)
    (hl : σ[i]? = some (some (.ref l))) (dw : DvAll K G1 ws args) (h1 : RunE K mg W e1 σ G1 H1 (match getL i e1 with
      | some xs => match f xs args with
        | some (z, ys) => .ok z (putL i ys e1)
        | none => .stuck
      | none => .stuck) Q) : r (.ref l) ws H1 Q := by
  cases q : getL i e1 with
  | none => rw [q] at h1; exact h1.elim
  | some xs =>
    rw [q] at h1
    obtain ⟨a, vs, x1, x2, x3, x4, x5⟩ := own_get R1 q
    rw [hl] at x1
    cases x1
    have h2 : RunE K mg W e1 σ G1 H1 (match f xs args with
      | some (z, ys) => .ok z (putL i ys e1)
      | none => .stuck) Q := h1
    cases q2 : f xs args with
    | none => rw [q2] at h2; exact h2.elim
    | some p =>
      obtain ⟨z, ys⟩ := p
      rw [q2] at h2
      refine o l vs ws xs args z ys G1 H1 Q x2 x4 dw R1.ex x3 q2 fun v vs' dz dvs => ?_
      obtain ⟨r1, r2⟩ := own_put R1 q hl x2 x3 x5 dvs
      exact h2 v G1 _ r1 dz r2
theorem ce_mo (i : Nat) {x name : Str} {p apos : Pos} {id : String} {r : V → List V → Hp → VK → Prop} {f : List D → List D → Option (D × List D)} {es : List Expr} {da : DA} (o : OwnM X.K r f) (slot : Slot "list" name id) (hty : typeOf (.builtin id) = pure (.type "method_descriptor")) (hm : MtR X id r) (ha : CA X W (e :: es) da)
    (hN : X.N[i]? = some x := by rfl) (hv : Vis X.env.scope x := by first | exact Or.inl rfl | exact Or.inr (Or.inl rfl) | exact Or.inr (Or.inr rfl)) (hd : (x == ("__debug__" : Str)) = false := by decide) (hcd : (x == ("__classdict__" : Str)) = false := by decide)
    (hbase : attributeBase (.Name x p) name X.env (eval (.Name x p) X.env) = eval (.Name x p) X.env := by rfl)
    (hfew : ((backTo pos (starEach (e :: es) X.env)).all (fun x => !x.1) && (backToKw pos (keywordEach [] X.env)).all (fun x => x.1.isSome)
      && decide ((e :: es).length + ([] : List Keyword).length + (if ([] : List Keyword).isEmpty then 0 else 1) < 30)) = true := by rfl)
    (hline : (apos.endLine == pos.line) = true := by rfl) (hs : starEach (e :: es) X.env = (false, eval e X.env) :: starEach es X.env := by rfl) (hplain : (backTo pos (starEach es X.env)).any (·.1) = false := by rfl) :
    CE X W (.Call (.Attribute (.Name x p) name apos) (e :: es) [] pos) (eMO i f da) := pe_imp (pe_bm PySem.F.plainAttrs_list slot hty hm (pe_var hN hv hd hcd) ha hbase hfew hline hs hplain) fun σ H Q h => by
  obtain ⟨env, G, R, h⟩ := h
  obtain ⟨c, h⟩ := if_run (P := fun r => RunE X.K X.mg W env σ G H r Q) h fun z => z
  cases q : getL i env with
  | none => rw [q] at c; cases c
  | some xs =>
    obtain ⟨a, vs, x1, x2, x3, x4, x5⟩ := own_get R q
    exact ⟨_, x1, .inl ⟨rfl, _, .inl (.inl x2)⟩, A_thenE R h fun args e1 ws G1 H1 _ R1 dw F1 h1 => mo_ok o R1 x1 dw h1⟩
def mAppend : List D → List D → Option (D × List D)
  | xs, [d] => if xs.length < 100000 then some (.none, xs ++ [d]) else none
  | _, _ => none
noncomputable def mInsert : List D → List D → Option (D × List D)
  | xs, [.int i, d] => if xs.length < 100000 ∧ 0 ≤ i ∧ I63 i then some (.none, xs.take i.toNat ++ [d] ++ xs.drop i.toNat) else none
  | _, _ => none
def mPop : List D → List D → Option (D × List D)
  | xs, [] => match xs[xs.length - 1]? with
    | some y => some (y, xs.dropLast)
    | none => none
  | _, _ => none
noncomputable def mPopAt : List D → List D → Option (D × List D)
  | xs, [.int i] => if I63 i then match seqIndex? i xs.length with
      | some k => match xs[k]? with
        | some y => some (y, xs.eraseIdx k)
        | none => none
      | none => none
    else none
  | _, _ => none
theorem lt_size {n : Nat} (h : n < 100000) : n < sizeLine := Nat.lt_of_lt_of_le h (by decide)
theorem om_append {K : PySem.W.Frag} : OwnM K rAppend mAppend := fun l vs ws xs args z ys G H Q h1 h2 h3 ex hg hf k => by
  match args, h3, hf with
  | [d], .cons (v := v) a .nil, hf =>
    have hf' : (if xs.length < 100000 then some (PyData.none, xs ++ [d]) else none) = some (z, ys) := hf
    by_cases c : xs.length < 100000
    · rw [if_pos c] at hf'
      cases hf'
      exact ⟨l, vs, v, rfl, rfl, h1, by rw [h2.length]; exact lt_size c, k _ _ .non (h2.append (.one a))⟩
    · rw [if_neg c] at hf'; cases hf'
theorem om_insert {K : PySem.W.Frag} : OwnM K (fun x vs H Q => ∃ (l : Addr) (xs : List V) (i : Int) (y : V), x = .ref l ∧ vs = [.int i, y] ∧ H l = some (.lst xs) ∧ xs.length < sizeLine ∧ 0 ≤ i ∧ i < 2 ^ 63 ∧
    Q .non (upd H l (.lst (xs.take i.toNat ++ [y] ++ xs.drop i.toNat)))) mInsert := fun l vs ws xs args z ys G H Q h1 h2 h3 ex hg hf k => by
  match args, h3, hf with
  | [.int i, d], .cons (.int _) (.cons (v := v) a .nil), hf =>
    have hf' : (if xs.length < 100000 ∧ 0 ≤ i ∧ I63 i then some (PyData.none, xs.take i.toNat ++ [d] ++ xs.drop i.toNat) else none) = some (z, ys) := hf
    by_cases c : xs.length < 100000 ∧ 0 ≤ i ∧ I63 i
    · rw [if_pos c] at hf'
      cases hf'
      exact ⟨l, vs, i, v, rfl, rfl, h1, by rw [h2.length]; exact lt_size c.1, c.2.1, c.2.2.2, k _ _ .non (((h2.take _).append (.one a)).append (h2.drop _))⟩
    · rw [if_neg c] at hf'; cases hf'
theorem om_pop {K : PySem.W.Frag} : OwnM K rPop mPop := fun l vs ws xs args z ys G H Q h1 h2 h3 ex hg hf k => by
  match args, h3, hf with
  | [], .nil, hf =>
    have hf' : (match xs[xs.length - 1]? with
      | some y => some (y, xs.dropLast)
      | none => none) = some (z, ys) := hf
    cases q : xs[xs.length - 1]? with
    | none => rw [q] at hf'; cases hf'
    | some y =>
      rw [q] at hf'
      cases hf'
      obtain ⟨v, hv, dv⟩ := h2.get q
      exact ⟨l, vs, v, rfl, rfl, h1, by rw [h2.length]; exact hv, k _ _ dv h2.dropLast⟩
theorem om_popAt {K : PySem.W.Frag} : OwnM K rPopAt mPopAt := fun l vs ws xs args z ys G H Q h1 h2 h3 ex hg hf k => by
  match args, h3, hf with
  | [.int i], .cons (.int _) .nil, hf =>
    have hf' : (if I63 i then match seqIndex? i xs.length with
      | some k => match xs[k]? with
        | some y => some (y, xs.eraseIdx k)
        | none => none
      | none => none
      else none) = some (z, ys) := hf
    by_cases c : I63 i
    · rw [if_pos c] at hf'
      cases q : seqIndex? i xs.length with
      | none => rw [q] at hf'; cases hf'
      | some j =>
        rw [q] at hf'
        have hf2 : (match xs[j]? with
          | some y => some (y, xs.eraseIdx j)
          | none => none) = some (z, ys) := hf'
        cases q2 : xs[j]? with
        | none => rw [q2] at hf2; cases hf2
        | some y =>
          rw [q2] at hf2
          cases hf2
          obtain ⟨v, hv, dv⟩ := h2.get q2
          exact ⟨l, vs, i, j, v, rfl, rfl, h1, c.1, c.2, by rw [h2.length]; exact q, hv, k _ _ dv (h2.eraseIdx j)⟩
    · rw [if_neg c] at hf'; cases hf'
def seeL (i : Nat) (env : DEnv) : Option (List D) := match env[i]? with
  | some (.l xs) => some xs
  | some (.p xs) => some xs
  | some (.v (.list xs)) => some xs
  | _ => none
theorem see_list {K : PySem.W.Frag} {env : DEnv} {σ : L2.St} {G H : Hp} {i : Nat} {xs : List D} (R : Rel K env σ G H) (h : seeL i env = some xs) : ∃ a vs, σ[i]? = some (some (.ref a)) ∧ SqL K H a vs ∧ DvAll K G vs xs := by
  unfold seeL at h
  cases q : env[i]? with
  | none => rw [q] at h; cases h
  | some s =>
    rw [q] at h
    obtain ⟨o, ho, rs⟩ := peekV R q
    cases s with
    | l ys =>
      cases h
      obtain ⟨a, vs, e, h1, h2, h3⟩ := rs
      exact ⟨a, vs, by rw [ho, e], .inl (.inl h1), h3⟩
    | p ys =>
      cases h
      obtain ⟨a, vs, e, h1, h2, h3⟩ := rs
      exact ⟨a, vs, by rw [ho, e], .inl (.inl h1), h3⟩
    | no => cases h
    | n _ => cases h
    | m d => cases h
    | f d => cases h
    | a d _ _ => cases h
    | t d => cases h
    | u d => cases h
    | v d =>
      cases d with
      | list ys =>
        cases h
        obtain ⟨v, e, dv⟩ := rs
        cases dv with
        | @lst a ws _ h2 h3 => exact ⟨a, ws, by rw [ho, e], (R.ex.rl h2).sq, h3⟩
      | none => cases h
      | bool _ => cases h
      | int _ => cases h
      | str _ => cases h
      | dict _ => cases h
      | tuple _ => cases h
/-- len(x) -/
def eLenO (i : Nat) : DE := fun env => match seeL i env with
  | some xs => .ok (.int xs.length) env
  | none => .stuck
theorem ce_lenO (i : Nat) {x : Str} {p p2 : Pos} (hm : X.mg "len" = none) (hN : X.N[i]? = some x := by rfl) (hv : Vis X.env.scope x := by first | exact Or.inl rfl | exact Or.inr (Or.inl rfl) | exact Or.inr (Or.inr rfl)) (hd : (x == ("__debug__" : Str)) = false := by decide) (hcd : (x == ("__classdict__" : Str)) = false := by decide)
    (hg : Gl X "len" := by rfl) (hs : starEach [.Name x p] X.env = (false, eval (.Name x p) X.env) :: starEach [] X.env := by rfl) (hpl : (backTo pos (starEach [] X.env)).any (·.1) = false := by rfl) : CE X W (.Call (.Name "len" p2) [.Name x p] [] pos) (eLenO i) :=
  pe_imp (pe_callB call_len_seq hg hm PySem.boot_len (pa_cons (pe_var hN hv hd hcd) pa_nil hs) (by decide) (by decide) hs hpl) fun σ H Q h => by
    obtain ⟨env, G, R, h⟩ := h
    unfold eLenO at h
    cases q : seeL i env with
    | none => rw [q] at h; exact h.elim
    | some xs =>
      rw [q] at h
      obtain ⟨a, vs, x1, x2, x4⟩ := see_list R q
      exact ⟨_, x1, a, vs, rfl, .inl x2, by rw [x4.length]; exact h _ G H R (.int _) (Fr.refl _ _ _ _)⟩
/-- tuple(x) -/
def eTupO (i : Nat) : DE := fun env => match seeL i env with
  | some xs => .ok (.tuple xs) env
  | none => .stuck
theorem ce_tupO (i : Nat) {x : Str} {p p2 : Pos} (hm : X.mg "tuple" = none) (hN : X.N[i]? = some x := by rfl) (hv : Vis X.env.scope x := by first | exact Or.inl rfl | exact Or.inr (Or.inl rfl) | exact Or.inr (Or.inr rfl)) (hd : (x == ("__debug__" : Str)) = false := by decide) (hcd : (x == ("__classdict__" : Str)) = false := by decide)
    (hg : Gl X "tuple" := by rfl) (hs : starEach [.Name x p] X.env = (false, eval (.Name x p) X.env) :: starEach [] X.env := by rfl) (hpl : (backTo pos (starEach [] X.env)).any (·.1) = false := by rfl) : CE X W (.Call (.Name "tuple" p2) [.Name x p] [] pos) (eTupO i) :=
  pe_imp (pe_callTy call_tuple_ofF hg hm (by decide +kernel) (pa_cons (pe_var hN hv hd hcd) pa_nil hs) (by decide) (by decide) hs hpl) fun σ H Q h => by
    obtain ⟨env, G, R, h⟩ := h
    unfold eTupO at h
    cases q : seeL i env with
    | none => rw [q] at h; exact h.elim
    | some xs =>
      rw [q] at h
      obtain ⟨a, vs, x1, x2, x4⟩ := see_list R q
      refine ⟨_, x1, a, vs, rfl, .inl ⟨x2, fun l o hl hd => ?_⟩⟩
      have g : Grow G H (upd G l (.frz o (.tup vs))) (upd H l (.frz o (.tup vs))) := Grow.one R.ex hl
      exact h _ _ _ (R.grow g) (.tup (.inl ⟨o, upd_same, hd⟩) (x4.up g.gg)) (g.fr R)
end
end DL
set_option Elab.async false
set_option linter.all false
set_option maxRecDepth 100000
set_option autoImplicit false
namespace DL
open PySem L2
def cutD (xs : List D) (lo hi : Option Int) : List D := (xs.drop (HT.sIx xs.length 0 lo)).take (HT.sIx xs.length xs.length hi - HT.sIx xs.length 0 lo)
def dSl (d : D) (lo hi : Option Int) : Option D := match d with
  | .list xs => some (.list (cutD xs lo hi))
  | .tuple xs => some (.tuple (cutD xs lo hi))
  | .str z => if z.length ≤ 100000 then some (.str (cutS z lo hi)) else none
  | _ => none
/-- an end of a slice -/
inductive Pt where
  | no
  | of (de : DE)
def Pt.run (p : Pt) (env : DEnv) : Rs (Option Int) := match p with
  | .no => .ok none env
  | .of de => (de env).bind fun d e1 => match d with
    | .int i => .ok (some i) e1
    | _ => .stuck
def eSl (de : DE) (lo hi : Pt) : DE := fun env => (de env).bind fun d e1 => (lo.run e1).bind fun l e2 => (hi.run e2).bind fun u e3 => put (dSl d l u) e3
section
variable {K : PySem.W.Frag} {mg : Str → Option Value} {W : WX}
def RunO (env : DEnv) (σ : L2.St) (G H : Hp) (r : Rs (Option Int)) (Q : Option Int → Hp → Prop) (K : PySem.W.Frag) (mg : Str → Option Value) (W : WX) : Prop := match r with
  | .ok o env' => ∀ G' H', Rel K env' σ G' H' → Fr env σ G H env' σ G' H' → Q o H'
  | .ex x env' => RunX K mg W env σ G H x env'
  | .stuck => False
def rdO (K : PySem.W.Frag) (mg : Str → Option Value) (W : WX) (p : Pt) : TO := fun σ H Q => ∃ env G, Rel K env σ G H ∧ RunO env σ G H (p.run env) Q K mg W
theorem O_thenE {env : DEnv} {σ : L2.St} {G H : Hp} {p : Pt} {f : Option Int → DEnv → Rs D} {Q : VK} {R : Option Int → Hp → Prop} (hR : Rel K env σ G H) (h : RunE K mg W env σ G H ((p.run env).bind f) Q)
    (k : ∀ o e1 G1 H1, p.run env = .ok o e1 → Rel K e1 σ G1 H1 → Fr env σ G H e1 σ G1 H1 → RunE K mg W e1 σ G1 H1 (f o e1) Q → R o H1) : rdO K mg W p σ H R := by
  refine ⟨env, G, hR, ?_⟩
  cases q : p.run env with
  | ok d e1 =>
    rw [q] at h
    exact fun G1 H1 a c => k d e1 G1 H1 q a c (RunE.shift h c)
  | ex x e => rw [q] at h; exact h
  | stuck => rw [q] at h; exact h
def rSlAny (K : PySem.W.Frag) : V → Option Int → Option Int → Hp → VK → Prop := fun x lo hi H Q => rSlF K x lo hi H Q ∨ rSlL K x lo hi H Q ∨ rSlS x lo hi H Q
theorem sl_any {X : Cx} : SlR X (rSlAny X.K) := sl_tupF.or (sl_list.or sl_str)
theorem cut_dv {G : Hp} {xs : List V} {ds : List D} (dv : DvAll K G xs ds) (lo hi : Option Int) : DvAll K G (cutV xs lo hi) (cutD ds lo hi) := by
  unfold cutV cutD
  rw [dv.length]
  exact (dv.drop _).take _
theorem cut_whole (ds : List D) (lo hi : Option Int) (h : HT.sIx ds.length 0 lo = 0 ∧ HT.sIx ds.length ds.length hi = ds.length) : cutD ds lo hi = ds := by
  unfold cutD
  rw [h.1, h.2]
  simp
theorem sl_d {x : V} {d z : D} {lo hi : Option Int} {G H : Hp} {Q : VK} (hx : Dv K G x d) (ex : Ex G H) (hf : dSl d lo hi = some z) (k : ∀ v G' H', Dv K G' v z → Grow G H G' H' → Q v H') : rSlAny K x lo hi H Q := by
  cases hx with
  | @tup a xs ds h1 h2 =>
    cases hf
    refine .inl ⟨a, xs, rfl, (ex.n h1).t, fun w => ?_, fun w p o hp hd => ?_⟩
    · rw [h2.length] at w
      rw [cut_whole ds lo hi w] at k
      exact k _ G H (.tup h1 h2) (Grow.refl ex)
    · have g : Grow G H (upd G p (.frz o (.tup (cutV xs lo hi)))) (upd H p (.frz o (.tup (cutV xs lo hi)))) := Grow.one ex hp
      exact k _ _ _ (.tup (.inl ⟨o, upd_same, hd⟩) ((cut_dv h2 lo hi).up g.gg)) g
  | @lst a xs ds h1 h2 =>
    cases hf
    refine .inr (.inl ⟨a, xs, rfl, (ex.rl h1).sq, fun p hp => ?_⟩)
    have g : Grow G H (upd G p (.lst (cutV xs lo hi))) (upd H p (.lst (cutV xs lo hi))) := Grow.one ex hp
    exact k _ _ _ (.lst (.of upd_same) ((cut_dv h2 lo hi).up g.gg)) g
  | str s =>
    have hf' : (if s.length ≤ 100000 then some (PyData.str (cutS s lo hi)) else none) = some z := hf
    by_cases c : s.length ≤ 100000
    · rw [if_pos c] at hf'
      cases hf'
      exact .inr (.inr ⟨s, rfl, lim_size c, k _ G H (.str _) (Grow.refl ex)⟩)
    · rw [if_neg c] at hf'; cases hf'
  | non => cases hf
  | bl _ => cases hf
  | int _ => cases hf
  | dct _ _ => cases hf
end
section
variable {X : Cx} {W : WX} {pos : Pos} {e : Expr} {de : DE}
abbrev CO (X : Cx) (W : WX) (e : Option Expr) (p : Pt) : Prop := PO X e (rdO X.K X.mg W p)
theorem po_imp {e : Option Expr} {t t' : TO} (h : PO X e t) (k : ∀ σ H Q, t' σ H Q → t σ H Q) : PO X e t' := ⟨fun pins s σ H Q I w => h.run pins s σ H Q I (k σ H Q w)⟩
theorem co_none : CO X W none .no := po_imp po_none fun σ H Q h => by
  obtain ⟨env, G, R, h⟩ := h
  exact h G H R (Fr.refl _ _ _ _)
theorem co_some (h : CE X W e de) : CO X W (some e) (.of de) := po_imp (po_some h) fun σ H Q h => by
  obtain ⟨env, G, R, h⟩ := h
  refine ⟨env, G, R, ?_⟩
  have h' : RunO env σ G H ((de env).bind fun d e1 => match d with
    | .int i => .ok (some i) e1
    | _ => .stuck) Q X.K X.mg W := h
  cases q : de env with
  | stuck => rw [q] at h'; exact h'
  | ex x e => rw [q] at h'; exact h'
  | ok d e1 =>
    rw [q] at h'
    intro v G1 H1 R1 dv F1
    cases dv with
    | int i => exact ⟨i, rfl, h' G1 H1 R1 F1⟩
    | non => exact h'.elim
    | bl _ => exact h'.elim
    | str _ => exact h'.elim
    | lst _ _ => exact h'.elim
    | tup _ _ => exact h'.elim
    | dct _ _ => exact h'.elim
theorem ce_sl {lo hi : Option Expr} {pl ph : Pt} {p2 : Pos} (he : CE X W e de) (hl : CO X W lo pl) (hh : CO X W hi ph) : CE X W (.Subscript e (.Slice lo hi none p2) pos) (eSl de pl ph) := pe_imp (pe_slice sl_any he hl hh) fun σ H Q h => by
  obtain ⟨env, G, R, h⟩ := h
  refine E_thenE R h fun d e1 v G1 H1 _ R1 dv F1 h1 => O_thenE R1 h1 fun l e2 G2 H2 _ R2 F2 h2 => O_thenE R2 h2 fun u e3 G3 H3 _ R3 F3 h3 => ?_
  obtain ⟨z, ez, k⟩ := RunE.put R3 h3
  exact sl_d ((dv.up F2.gg).up F3.gg) R3.ex ez k
def tyD : D → String
  | .none => "NoneType"
  | .bool _ => "bool"
  | .int _ => "int"
  | .str _ => "str"
  | .list _ => "list"
  | .tuple _ => "tuple"
  | .dict _ => "dict"
def isiD (T : String) (d : D) : Option D := (kitB (tyD d) T).map .bool
def eIsi (T : String) (de : DE) : DE := fun env => (de env).bind fun d e1 => put (isiD T d) e1
theorem ty_dv {K : PySem.W.Frag} {G H : Hp} {x : V} {d : D} (hx : Dv K G x d) (ex : Ex G H) : TyX K H x (.type (tyD d)) := by
  cases hx with
  | non => exact .base .non
  | bl b => exact .base (.bl b)
  | int b => exact .base (.int b)
  | str b => exact .base (.str b)
  | lst a b =>
    rcases ex.rl a with (h | ⟨o, h⟩) | ⟨its, n, h, _⟩
    · exact .base (.lst h)
    · exact .base (.frz h)
    · exact .kList h rfl
  | tup a b =>
    rcases (ex.n a).t with (h | ⟨o, h⟩) | ⟨o, its, n, h1, h2, _⟩
    · exact .base (.tup h)
    · exact .fTuple h
    · exact .kTuple h1 h2
  | dct a b =>
    rcases ex.rd a with h | ⟨o, h⟩
    · exact .base (.dK h)
    · exact .fDict h
theorem ce_isi (T : String) {x : Str} {p p2 : Pos} (hT : bootBuiltins x = some (.type T)) (hmT : X.mg x = none) (hm : X.mg "isinstance" = none) (he : CE X W e de) (hb : bootBuiltins "isinstance" = some (.builtin "isinstance") := by decide +kernel) (hg : Gl X "isinstance" := by rfl) (hgT : Gl X x := by rfl) (hn : x ≠ "__name__" := by decide) (hd : (x == ("__debug__" : Str)) = false := by decide)
    (hs : starEach (e :: [.Name x p]) X.env = (false, eval e X.env) :: starEach [.Name x p] X.env := by rfl) (hs2 : starEach [.Name x p] X.env = (false, eval (.Name x p) X.env) :: starEach [] X.env := by rfl) (hpl : (backTo pos (starEach [.Name x p] X.env)).any (·.1) = false := by rfl) :
    CE X W (.Call (.Name "isinstance" p2) [e, .Name x p] [] pos) (eIsi T de) := pe_imp (pe_callB call_isi hg hm hb (pa_cons he (pa_cons (pe_bltn (v := .ty T) hgT hmT hT rfl hn hd) pa_nil hs2) hs) (by decide) (by decide) hs hpl) fun σ H Q h => by
  obtain ⟨env, G, R, h⟩ := h
  refine E_thenE R h fun d e1 v G1 H1 _ R1 dv F1 h1 => ?_
  obtain ⟨z, ez, k⟩ := RunE.put R1 h1
  unfold isiD at ez
  cases q : kitB (tyD d) T with
  | none => rw [q] at ez; cases ez
  | some b =>
    rw [q] at ez
    cases ez
    exact ⟨v, .ty T, .type (tyD d), .type T, b, rfl, .ty T, ty_dv dv R1.ex, kit_ty q, k _ G1 H1 (.bl b) (Grow.refl R1.ex)⟩
def eChain (f g : D → D → Option D) (da db dc : DE) : DE := fun env => (da env).bind fun x e1 => (db e1).bind fun y e2 => match f x y with
  | some (.bool true) => (dc e2).bind fun z e3 => put (g y z) e3
  | some (.bool false) => .ok (.bool false) e2
  | _ => .stuck
variable {a b c : Expr} {da db dc : DE}
theorem chain_ok {K : PySem.W.Frag} {mg : Str → Option Value} {r r' : R2} {f g : D → D → Option D} (o : OpD K r f) (o' : OpD K r' g) (σ : L2.St) (H : Hp) (Q : VK) (h : rdE K mg W (eChain f g da db dc) σ H Q) : tChain r r' (rdE K mg W da) (rdE K mg W db) (rdE K mg W dc) σ H Q := by
  obtain ⟨env, G, R, h⟩ := h
  refine E_thenE R h fun d e1 v G1 H1 _ R1 dv F1 h1 => E_thenE R1 h1 fun d2 e2 v2 G2 H2 _ R2 dv2 F2 h2 => ?_
  cases q : f d d2 with
  | none => rw [q] at h2; exact h2.elim
  | some z =>
    rw [q] at h2
    refine o v v2 d d2 z G2 H2 _ (dv.up F2.gg) dv2 R2.ex q fun u G3 H3 dz g3 => ?_
    cases z with
    | bool k =>
      cases dz
      refine ⟨k, rfl, ?_⟩
      cases k with
      | true =>
        have R3 := R2.grow g3
        have h3 := RunE.shift (env1 := e2) h2 (g3.fr R2)
        rw [if_pos rfl]
        refine E_thenE R3 h3 fun d4 e4 v4 G4 H4 _ R4 dv4 F4 h4 => ?_
        obtain ⟨z, ez, kk⟩ := RunE.put R4 h4
        exact o' v2 v4 d2 d4 z G4 H4 Q ((dv2.up g3.gg).up F4.gg) dv4 R4.ex ez kk
      | false =>
        rw [if_neg Bool.false_ne_true]
        exact h2 _ G3 H3 (R2.grow g3) (.bl false) (g3.fr R2)
    | none => exact h2.elim
    | int _ => exact h2.elim
    | str _ => exact h2.elim
    | list _ => exact h2.elim
    | tuple _ => exact h2.elim
    | dict _ => exact h2.elim
theorem ct_chain {op op' : CmpOp} {r r' : R2} {f g : D → D → Option D} (ho : OpR X (compareOp op) r) (o : OpD X.K r f) (ho' : OpR X (compareOp op') r') (o' : OpD X.K r' g) (ha : CE X W a da) (hb : CE X W b db) (hc : CE X W c dc)
    (hm : lastMarks [op, op'] [b, c] = false := by with_unfolding_all rfl) : CT X W (.Compare a [op, op'] [b, c] pos) (tTst (eChain f g da db dc)) := pt_imp (pt_chain ho ho' ha hb hc hm) fun σ H Q h => chain_ok o o' σ H _ (tst_ok _ σ H Q h)
theorem ce_globI {x : Str} {i : Int} {t : Tok} (hm : X.mg x = some (.int i t)) (hg : Gl X x := by rfl) (hd : (x == ("__debug__" : Str)) = false := by decide) : CE X W (.Name x pos) (eC (.int i)) := pe_imp (pe_glob (v := .int i) hg hm ⟨t, rfl⟩ hd) (c_ok fun _ => .int i)
end
section
variable {X : Cx} {K : PySem.W.Frag}
def rCatR (K : PySem.W.Frag) : R2 := fun x y H Q => ∃ l b xs zs, x = .ref l ∧ y = .ref b ∧ RL K H l xs ∧ RL K H b zs ∧ xs.length + zs.length ≤ sizeLine ∧ ∀ p, H p = none → Q (.ref p) (upd H p (.lst (xs ++ zs)))
theorem rd_lst {pins : List (Addr × Obj)} {σ : L2.St} {H : Hp} {s : Shared} {l : Addr} {xs : List V} (I : Inv X pins σ H s) (h : RL X.K H l xs) : xs.length ≤ sizeLine ∧ ∃ (its : List Value) (n : Nat), Vals xs its ∧ xs.length = its.length ∧ s.heap.get? l = some { cls := .type "list", data := .seq its.toArray n } := by
  rcases h with h | ⟨its, n, h1, h2, h3⟩
  · obtain ⟨z, its, n, r, e⟩ := h.ok I.hok
    exact ⟨z, its, n, r, r.length, e⟩
  · have e := h3.length
    exact ⟨by rw [e]; simpa using h2, its.toList, n, h3, e, by simpa using I.kIn _ _ h1⟩
theorem op_catR : OpR X (binaryOp .Add) (rCatR X.K) := by
  intro pins s σ H x y v u Q I rx ry h
  obtain ⟨l, b, xs, zs, rfl, rfl, hH, hB, hz, q⟩ := h
  cases rx
  cases ry
  obtain ⟨z, its, n, r, hl, e⟩ := rd_lst I hH
  obtain ⟨z2, its2, n2, r2, hl2, e2⟩ := rd_lst I hB
  refine PySem.P.add_list e e2 ?_ (by rw [List.size_toArray, List.size_toArray]; omega)
  have ea : its.toArray ++ its2.toArray = (its ++ its2).toArray := by simp
  rw [ea]
  exact ⟨.ref _, _, I.lnew (t' := s.toks) (r.append r2) (by rw [List.length_append]; omega), rfl, q _ I.fresh⟩
def dCat : D → D → Option (List D)
  | .list xs, .list ys => if xs.length + ys.length ≤ 100000 then some (xs ++ ys) else none
  | _, _ => none
theorem ol_cat : OlD K (rCatR K) dCat := fun x y d e zs G H Q hx hy ex h k => by
  cases d <;> cases e <;> first | (simp [dCat] at h; done) | skip
  rename_i xs ys
  have h' : (if xs.length + ys.length ≤ 100000 then some (xs ++ ys) else none) = some zs := h
  by_cases c : xs.length + ys.length ≤ 100000
  · rw [if_pos c] at h'
    cases h'
    cases hx with
    | @lst a vs _ h1 h2 =>
      cases hy with
      | @lst b ws _ h3 h4 => exact ⟨a, b, vs, ws, rfl, rfl, ex.rl h1, ex.rl h3, by rw [h2.length, h4.length]; exact lim_size c, fun p hp => k p _ hp (h2.append h4)⟩
  · rw [if_neg c] at h'; cases h'
/-- [x] * n: the list is one that was just made -/
def repD (xs : List D) (k : Int) : List D := (List.replicate k.toNat xs).flatten
theorem rep_dv {G : Hp} {vs : List V} {xs : List D} (h : DvAll K G vs xs) : ∀ n : Nat, DvAll K G (List.replicate n vs).flatten (List.replicate n xs).flatten
  | 0 => .nil
  | n + 1 => by
    rw [List.replicate_succ, List.flatten_cons, List.replicate_succ, List.flatten_cons]
    exact h.append (rep_dv h n)
noncomputable def lRep (dl : DA) (dk : DE) : DA := fun env => (dl env).bind fun xs e1 => (dk e1).bind fun k e2 => match k with
  | .int n => if I63 n ∧ xs.length * n.toNat ≤ 100000 then .ok (repD xs n) e2 else .stuck
  | _ => .stuck
end
section
variable {X : Cx} {W : WX} {pos : Pos} {a b e : Expr} {da db de : DE} {dl : DA}
theorem cl_rep (ha : CL X W a dl) (hb : CE X W b db) : CL X W (.BinOp a .Mult b pos) (lRep dl db) := pe_imp (pe_op op_rep ha hb) fun σ H Q h => by
  obtain ⟨env, G, R, h⟩ := h
  refine ⟨env, G, R, ?_⟩
  have h' : RunL X.K X.mg W env σ G H ((dl env).bind fun xs e1 => (db e1).bind fun k e2 => match k with
    | .int n => if I63 n ∧ xs.length * n.toNat ≤ 100000 then .ok (repD xs n) e2 else .stuck
    | _ => .stuck) Q := h
  cases q : dl env with
  | stuck => rw [q] at h'; exact h'
  | ex x e => rw [q] at h'; exact h'
  | ok xs e1 =>
    rw [q] at h'
    intro l vs G1 H1 R1 h1 h2 h3 h4 dv F1
    have h5 : RunL X.K X.mg W e1 σ G1 H1 ((db e1).bind fun k e2 => match k with
      | .int n => if I63 n ∧ xs.length * n.toNat ≤ 100000 then .ok (repD xs n) e2 else .stuck
      | _ => .stuck) Q := RunL.shift h' F1
    refine E_thenL R1 h5 fun k e2 y G2 H2 _ R2 dk F2 h6 => ?_
    cases dk with
    | int n =>
      have h7 : RunL X.K X.mg W e2 σ G2 H2 (if I63 n ∧ xs.length * n.toNat ≤ 100000 then .ok (repD xs n) e2 else .stuck) Q := h6
      by_cases c : I63 n ∧ xs.length * n.toNat ≤ 100000
      · rw [if_pos c] at h7
        have hl : H2 l = some (.lst vs) := F2.keep l _ h1 h4
        exact ⟨l, n, vs, rfl, rfl, hl, c.1.1, c.1.2, by rw [dv.length]; exact lim_size c.2, fun p hp => RunL.new R2 h7 hp (rep_dv (dv.up F2.gg) n.toNat)⟩
      · rw [if_neg c] at h7
        exact h7.elim
    | non => exact h6.elim
    | bl _ => exact h6.elim
    | str _ => exact h6.elim
    | lst _ _ => exact h6.elim
    | tup _ _ => exact h6.elim
    | dct _ _ => exact h6.elim
/-- list(range(n)) -/
noncomputable def lRange1 (de : DE) : DA := fun env => (de env).bind fun d e1 => match d with
  | .int n => if IRg n then .ok (rngD 0 n) e1 else .stuck
  | _ => .stuck
theorem rg_dv {K : PySem.W.Frag} {G : Hp} (a b : Int) : DvAll K G (rgV a b) (rngD a b) := by
  unfold rgV rngD
  generalize List.range (b - a).toNat = l
  induction l with
  | nil => exact .nil
  | cons x l ih => exact .cons (.int _) ih
theorem cl_listRg {p p2 p3 : Pos} (hc : X.calm = true) (hml : X.mg "list" = none) (hmr : X.mg "range" = none) (he : CE X W e de) (hgl : Gl X "list" := by rfl) (hgr : Gl X "range" := by rfl) (na : starEach [e] X.env = (false, eval e X.env) :: starEach [] X.env := by rfl)
    (nb : starEach [.Call (.Name "range" p2) [e] [] p3] X.env = (false, eval (.Call (.Name "range" p2) [e] [] p3) X.env) :: starEach [] X.env := by rfl) : CL X W (.Call (.Name "list" p) [.Call (.Name "range" p2) [e] [] p3] [] pos) (lRange1 de) :=
  pe_imp (pe_listRg hc hgl hml (prg_1 hgr hmr he na) nb) fun σ H Q h => by
    obtain ⟨env, G, R, h⟩ := h
    refine E_thenL R h fun k e1 y G1 H1 _ R1 dk F1 h1 => ?_
    cases dk with
    | int n =>
      have h2 : RunL X.K X.mg W e1 σ G1 H1 (if IRg n then .ok (rngD 0 n) e1 else .stuck) Q := h1
      by_cases c : IRg n
      · rw [if_pos c] at h2
        obtain ⟨c1, c2⟩ := c
        exact ⟨n, rfl, ⟨by omega, by omega, by omega, by omega, by omega⟩, fun q hq => RunL.new R1 h2 hq (rg_dv 0 n)⟩
      · rw [if_neg c] at h2
        exact h2.elim
    | non => exact h1.elim
    | bl _ => exact h1.elim
    | str _ => exact h1.elim
    | lst _ _ => exact h1.elim
    | tup _ _ => exact h1.elim
    | dct _ _ => exact h1.elim
end
end DL
set_option Elab.async false
set_option linter.all false
set_option maxRecDepth 100000
set_option autoImplicit false
namespace DL
open PySem L2
def kEq (d : D) (k : Key) : Bool := match d, k with
  | .int i, .inl j => i == j
  | .str x, .inr y => x == y
  | _, _ => false
def keyOf : D → Option Key
  | .int i => some (.inl i)
  | .str x => some (.inr x)
  | _ => none
def valD (kvs : List (D × D)) (k : Key) : Option D := (kvs.find? fun kv => kEq kv.1 k).map (·.2)
/-- a dict that nobody else holds -/
def RunM (K : PySem.W.Frag) (mg : Str → Option Value) (W : WX) (env : DEnv) (σ : L2.St) (G H : Hp) (r : Rs (List (D × D))) (Q : VK) : Prop := match r with
  | .ok ds env' => ∀ a vs G' H', Rel K env' σ G' H' → H' a = some (.dK vs) → G' a = none → H a = none → ¬ Own env' σ H' a → DvKv K G' vs ds → Fr env σ G H env' σ G' H' → Q (.ref a) H'
  | .ex x env' => RunX K mg W env σ G H x env'
  | .stuck => False
section
variable {K : PySem.W.Frag} {mg : Str → Option Value} {W : WX} {env : DEnv} {σ : L2.St} {G H : Hp}
theorem RunM.of {r : Rs (List (D × D))} {Q : VK} (h' : RunE K mg W env σ G H (r.bind fun xs e1 => .ok (.dict xs) e1) Q) : RunM K mg W env σ G H r Q := by
  cases r with
  | stuck => exact h'
  | ex x e => exact h'
  | ok ds e1 =>
    intro a vs G' H' R' h1 h2 h3 h4 dv F
    refine h' (.ref a) (upd G' a (.dK vs)) H' (R'.still h1 h2 h4) (.dct (.inl upd_same) (dv.up (Ex.new h2)))
      ⟨F.gg.trans (Ex.new h2), F.keep, F.dom, fun b hb => ?_, F.own, F.par⟩
    by_cases z : b = a
    · subst z; exact .inr (.inl h3)
    · rw [upd_ne z] at hb; exact F.fresh b hb
/-- pairs by data -/
inductive PrD (K : PySem.W.Frag) (G : Hp) : List (V × V) → List (D × D) → Prop
  | nil : PrD K G [] []
  | cons {k v : V} {dk dv : D} {xs : List (V × V)} {ys : List (D × D)} : Dv K G k dk → Dv K G v dv → PrD K G xs ys → PrD K G ((k, v) :: xs) ((dk, dv) :: ys)
theorem PrD.up {G G' : Hp} (e : Ex G G') : ∀ {xs : List (V × V)} {ys : List (D × D)}, PrD K G xs ys → PrD K G' xs ys
  | _, _, .nil => .nil
  | _, _, .cons a b c => .cons (a.up e) (b.up e) (PrD.up e c)
end
section
variable {X : Cx} {W : WX} {pos : Pos}
theorem RunM.new {K : PySem.W.Frag} {mg : Str → Option Value} {env : DEnv} {σ : L2.St} {G H : Hp} {zs : List (D × D)} {vs : List (Key × V)} {Q : VK} {a : Addr} (R : Rel K env σ G H) (h : RunM K mg W env σ G H (.ok zs env) Q) (ha : H a = none) (dv : DvKv K G vs zs) : Q (.ref a) (upd H a (.dK vs)) := by
  have ga : G a = none := R.ex.none ha
  obtain ⟨R2, m⟩ := R.laid1 (o := .dK vs) ha
  refine h a vs G _ R2 upd_same ga ha (fun ⟨i, w⟩ => (((m i a).1 w).there R).1 ha) dv ⟨Ex.refl _, fun b u hb _ => by rw [upd_ne (ne_of_none hb ha)]; exact hb, fun b hb => ?_, fun _ z => .inl z, fun b ⟨i, w⟩ => .inl ⟨i, (m i b).1 w⟩, fun _ s z _ => ⟨rfl, s, z, rfl⟩⟩
  by_cases z : b = a
  · subst z; exact ha
  · rw [upd_ne z] at hb; exact hb
variable {o e f : Expr} {dd dk dx : DE} {apos : Pos}
end
end DL
set_option Elab.async false
set_option linter.all false
set_option maxRecDepth 100000
set_option autoImplicit false
namespace DL
open PySem L2
/-- a def of the top, where it stands -/
abbrev FnT (K : PySem.W.Frag) (x : Str) (st : Stmt) (fd : FuncData) : Prop := FunD K x x (defArgs st) (defBody st) (defScope st) [] [] (He.ga K x) fd
/-- what a caller knows of a def -/
structure Cal (P : Program) (w : World) (K : PySem.W.Frag) (mg : Str → Option Value) (base : Heap) (k : Nat) (x : Str) (np : Nat) (F : Df) : Prop where
  ex : ∃ (fd : FuncData) (ps : List Str), ps.length = np ∧ FnOk P w K mg base (L2N.CX P w) k (He.ga K x) fd ps (spD K mg ps.length F) ∧ Binds K fd ps []
  mg_ : mg x = some (.ref (He.ga K x))
  kp : PySem.W.keepIn K (.ref (He.ga K x)) = true
section
variable {P : Program} {w : World} {K : PySem.W.Frag} {mg : Str → Option Value} {base : Heap}
theorem fn_bodyD {x : Str} {st : Stmt} {fd : FuncData} {N ps : List Str} {k : Nat} {ds : DS} (F : FnT K x st fd) (S : FnScope N ps (defScope st)) (hps : ps.length ≤ N.length)
    (hbody : ∀ (cdv : Value) (A : Around) (outer : List Env) (s : Shared) (H : Hp) (E : XK), Room k (A.deeper (PyProof.Rows.envOfC x (defScope st) s.heap.objs.size (He.ga K x) cdv)) →
      CSs (cxOf (L2N.CX P w) P w K mg base N x (defScope st) (He.ga K x) cdv A outer s H E) (fun cls d _ H => E cls d H) (defBody st) ds) :
    FnOk P w K mg base (L2N.CX P w) (k + 1) (He.ga K x) fd ps (spD K mg ps.length (bodyF N.length ds)) := by
  obtain ⟨oc, od, dV, kV, doc, pm, an, cdv, ct, osl, rfl, lk, hcd, _, _⟩ := F.ex
  refine fn_of lk hcd S (fun vs H Q E h => h.1) fun A outer s H vs Q E hr h => ⟨_, hbody cdv A outer s H E hr, ?_⟩
  obtain ⟨hl, args, G, R, h⟩ := h
  have hn : vs.length ≤ N.length := by omega
  refine ⟨_, G, rel_start (N := N) R hn, ?_⟩
  have h' : RunF K mg args (vs.map some) G H (match ds (args ++ List.replicate (N.length - args.length) Sl.no) with
    | .nx e => .ok .none (outsOf args e)
    | .rt d e => .ok d (outsOf args e)
    | .rl xs e => .okl xs (outsOf args e)
    | .ex x e => .ex x (outsOf args e)
    | _ => .stuck) Q E := h
  cases q : ds (args ++ List.replicate (N.length - args.length) Sl.no) with
  | nx e =>
    rw [q] at h'
    exact fun σ' G' H' R' F' => let ⟨a, b, _⟩ := ends_fr R hn R' F'; h' .non G' H' a .non b
  | rt d e =>
    rw [q] at h'
    exact fun v σ' G' H' R' dv F' => let ⟨a, b, _⟩ := ends_fr R hn R' F'; h' v G' H' a dv b
  | rl d e =>
    rw [q] at h'
    exact fun a vs' σ' G' H' R' h1 h2 h3 h4 dv F' => let ⟨r, b, c⟩ := ends_fr R hn R' F'; h' a vs' G' H' r h1 h2 h3 (fun z => h4 (c a z)) dv b
  | ex x e =>
    rw [q] at h'
    exact fun cls dd σ' G' H' xr R' F' => let ⟨a, b, _⟩ := ends_fr R hn R' F'; h' cls dd G' H' xr a b
  | bk e => rw [q] at h'; exact h'.elim
  | ct e => rw [q] at h'; exact h'.elim
  | stuck => rw [q] at h'; exact h'.elim
/-- THE RULE: a def of the top keeps what its function on data says -/
theorem cal_of {x : Str} {st : Stmt} {N ps : List Str} {k : Nat} {ds : DS} (D : ∃ fd, FnT K x st fd) (g : mg x = some (.ref (He.ga K x))) (S : FnScope N ps (defScope st)) (hps : ps.length ≤ N.length)
    (hb : ∀ (kV doc pm : Value) (an : Option Addr) (cdv ct : Value) (us : List Value), us.length = ps.length → bindArgs (PySem.W.fnOf x x (defArgs st) (defBody st) (defScope st) .none kV doc pm an cdv ct) ⟨us, []⟩ = pure (ps.zip us))
    (hbody : ∀ (cdv : Value) (A : Around) (outer : List Env) (s : Shared) (H : Hp) (E : XK), Room k (A.deeper (PyProof.Rows.envOfC x (defScope st) s.heap.objs.size (He.ga K x) cdv)) →
      CSs (cxOf (L2N.CX P w) P w K mg base N x (defScope st) (He.ga K x) cdv A outer s H E) (fun cls d _ H => E cls d H) (defBody st) ds) :
    Cal P w K mg base (k + 1) x ps.length (bodyF N.length ds) := by
  obtain ⟨fd, F⟩ := D
  exact ⟨⟨fd, ps, rfl, fn_bodyD F S hps hbody, F.bindsN hb⟩, g, F.kp⟩
theorem Cal.mono {j k : Nat} {x : Str} {np : Nat} {F : Df} (C : Cal P w K mg base j x np F) (h : j ≤ k) : Cal P w K mg base k x np F :=
  let ⟨fd, ps, e, f, b⟩ := C.ex
  ⟨⟨fd, ps, e, f.mono h, b⟩, C.mg_, C.kp⟩
end
section
variable {X : Cx} {W : WX} {pos p : Pos} {e : Expr} {es : List Expr} {da : DAr} {j k np : Nat} {F : Df} {x : Str}
theorem ce_callC (C : Cal X.prog X.w X.K X.mg X.base j x np F) (hr : Room k X.A) (hjk : j ≤ k) (tk : ∀ σ, PassesAt (L2N.CX X.prog X.w) X σ (WE W σ)) (ha : CR X W (e :: es) da) (hg : Gl X x := by rfl)
    (hdb : (x == ("__debug__" : Str)) = false := by decide) (he : starEach (e :: es) X.env = (false, eval e X.env) :: starEach es X.env := by rfl) (hpl : (backTo pos (starEach es X.env)).any (·.1) = false := by rfl) :
    CE X W (.Call (.Name x p) (e :: es) [] pos) (eCallN np F da) := by
  obtain ⟨fd, ps, rfl, f, b⟩ := C.ex
  exact ce_call f (hr.mono hjk) C.mg_ C.kp b tk ha hg hdb he hpl
theorem cl_callC (C : Cal X.prog X.w X.K X.mg X.base j x np F) (hr : Room k X.A) (hjk : j ≤ k) (tk : ∀ σ, PassesAt (L2N.CX X.prog X.w) X σ (WE W σ)) (ha : CR X W (e :: es) da) (hg : Gl X x := by rfl)
    (hdb : (x == ("__debug__" : Str)) = false := by decide) (he : starEach (e :: es) X.env = (false, eval e X.env) :: starEach es X.env := by rfl) (hpl : (backTo pos (starEach es X.env)).any (·.1) = false := by rfl) :
    CL X W (.Call (.Name x p) (e :: es) [] pos) (lCallN np F da) := by
  obtain ⟨fd, ps, rfl, f, b⟩ := C.ex
  exact cl_call f (hr.mono hjk) C.mg_ C.kp b tk ha hg hdb he hpl
end
/-- the script as data -/
def scriptD (ns : List Int) : D := .list (ns.map PyData.int)
theorem script_sp {K : PySem.W.Frag} {mg : Str → Option Value} {H : Hp} {a : Addr} {ns : List Int} {F : Df} {outs : DEnv} (h : RL K H a (ns.map V.int)) (e : F [.v (scriptD ns)] = .ok (.bool true) outs) : spD K mg 1 F [.ref a] H (fun v _ => v = .bl true) fun _ _ _ => False := by
  refine ⟨rfl, [.v (scriptD ns)], H, ⟨Ex.refl _, rfl, fun i s o h1 h2 => ?_, fun i j b ⟨s, o, h1, _, h2⟩ => ?_⟩, ?_⟩
  · match i, h1, h2 with
    | 0, h1, h2 =>
      cases h1
      cases h2
      exact ⟨_, rfl, .lst h (DvAll.of_ints ns)⟩
  · match i, h1 with
    | 0, h1 => cases h1; cases h2
  · rw [e]
    intro v G' H' R' dv F'
    cases dv
    rfl
theorem walk_ofR {l : PySem.W.OpenLaw} {n k : Nat} {q : Program} {loose : List Str} {XP : (Str → Option Value) → Heap → Prop} {YP : World → Heap → Prop} {d : DefRec} {F : Df}
    (hn : l.most = some n) (hn2 : n ≤ sizeLine) (hdf : d.params.defaults = []) (hr : Room k callerA) (hnm : d.name = "law")
    (hF : ∀ ns : List Int, ns.length ≤ n → ∃ outs, F [.v (scriptD ns)] = .ok (.bool true) outs)
    (hC : ∀ (w : World) (mg : Str → Option Value) (h : Heap), YP w h → h.Ns mainGlobals mg →
      ∃ (K : PySem.W.Frag) (fd : FuncData), K.In h ∧ mg "law" = some (.ref (He.ga K "law")) ∧ (∀ (s : Shared) (u : Value), BindsTo s fd ⟨[u], []⟩ [("script", u)]) ∧
        ∀ base : Heap, K.In base → base.Ns mainGlobals mg → FnOk l.prog w K mg base (L2N.CX l.prog w) k (He.ga K "law") fd ["script"] (spD K mg 1 F)) :
    PySem.W.WalkO q loose XP YP l.row.toRowW d [] (fun f vs => PySem.call f vs) := by
  refine Att.attach_call hn hdf fun w s0 s1 mg mb fa o pm cd doc a vs ns Gr Y ho hd hcd hmg hobj hints hlen hgen => ?_
  obtain ⟨K, fd, KX, hg, hb, hFn⟩ := hC w mg _ Y Gr.T.g
  rw [hnm, hg] at hmg
  cases hmg
  obtain ⟨outs, he⟩ := hF ns hlen
  refine law_call KX Gr.T.g Gr.T.b Gr.T.builtins Gr.T.nolimit hgen hobj hints (Nat.le_trans hlen hn2) hr hFn hb (fun H hO hS => script_sp ?_ he) fun H e s' hx => ?_
  · rcases hS with h | ⟨oo, its, m, h1, h2, h3, h4, h5, h6⟩
    · exact .inl h
    · have e1 := KX a oo h1
      rw [hobj] at e1
      cases e1
      exact .inr ⟨vs.toArray, _, h1, by cases h4; exact h5, by cases h4; exact h6⟩
  · obtain ⟨_, _, _, _, _, _, _, _, _, _, _, _, z⟩ := hx
    exact z
end DL
set_option Elab.async false
set_option linter.all false
set_option maxRecDepth 100000
set_option autoImplicit false
namespace DL
open PySem L2
def rLendC (i : Nat) (da : DAr) : DAr := fun env => if lent i env then (da env).bind fun xs e2 => if lent i e2 then .ok (.s i :: xs) e2 else .stuck else .stuck
/-- how many turns a while is given at most -/
theorem fuel_ex : ∃ n : Nat, 1000000 ≤ n := ⟨1000000, Nat.le_refl _⟩
/-- how often a loop may go on: nothing looks into it -/
noncomputable def FUEL : Nat := Classical.choose fuel_ex
theorem fuel_le : 1000000 ≤ FUEL := Classical.choose_spec fuel_ex
def obsB (n : Nat) (fa : List He.Fa) (fn : List He.DefD) (ex : PySem.W.Frag → Bool) (g : Addr → Option Obj) : He.AlD × Bool := (He.obsD fa fn (He.frG g (He.asD g n ++ [PySem.cStatics])), ex (He.frG g (He.asD g n ++ [PySem.cStatics])))
def hookB (n : Nat) (fa : List He.Fa) (fn : List He.DefD) (ex : PySem.W.Frag → Bool) : PySem.W.Hook where
  α := He.AlD × Bool
  obs := fun s => obsB n fa fn ex s.heap.get?
  val := fun _ => (He.valD fn, true)
  says := fun _ h => ∃ K : PySem.W.Frag, K.In h ∧ He.SaysD fa fn K ∧ ex K = true
  of := fun _ _ e => ⟨_, He.frG_in, congrArg (fun z : He.AlD × Bool => z.1) e, congrArg (fun z : He.AlD × Bool => z.2) e⟩
  keeps := fun _ _ _ ⟨K, hK, c⟩ k => ⟨K, PySem.W.Frag.In.keeps hK k, c⟩
theorem obsB_eq {n : Nat} {fa : List He.Fa} {fn : List He.DefD} {ex : PySem.W.Frag → Bool} {g : Addr → Option Obj} {s : Shared} (h : ∀ a, g a = s.heap.get? a) : obsB n fa fn ex g = (hookB n fa fn ex).obs s := by
  have e : g = s.heap.get? := funext h
  rw [e] <;> rfl
/-- a def of the top as the head's facts name it -/
def defD (x : Str) (st : Stmt) : He.DefD := ⟨(x, none), x, x, defArgs st, defBody st, defScope st, [], []⟩
end DL
set_option Elab.async false
set_option linter.all false
set_option maxRecDepth 100000
set_option autoImplicit false
namespace DL
open PySem L2
end DL
set_option Elab.async false
set_option linter.all false
set_option maxRecDepth 100000
set_option autoImplicit false
namespace DL
open PySem L2 PySem.Spec PyProof.Rows
def sRaise (x : Str) : DS := fun env => .ex ⟨x, none⟩ env
/-- what is known of an exception class of the program's own, without an own __init__ -/
structure ExC (K : PySem.W.Frag) (mg : Str → Option Value) (x : Str) : Prop where
  g : mg x = some (.ref (He.ga K x))
  e : PySem.W.excIn K (He.ga K x) He.veBase "ValueError.__new__" = true
  k : PySem.W.keepIn K (.ref (He.ga K x)) = true
  b : PySem.W.subIn K (.ref (He.ga K x)) (.type "BaseException") = some true
  t : PySem.W.typeIn K (.ref (He.ga K x)) = some (.type "type")
section
variable {X : Cx} {W : WX} {pos pos2 p p2 : Pos} {x m : Str} {j : Nat}
theorem cs_raise (T : ExC X.K X.mg x) (tk : L2N.Takes X W) (hc : X.calm = true := by rfl) (hg : Gl X x := by rfl) (hdb : (x == ("__debug__" : Str)) = false := by decide) :
    CS X W (.Raise (some (.Call (.Name x p) [.Constant (.str m) j p2] [] pos)) none pos2) (sRaise x) := ps_imp (L2N.ps_raise hc tk (L2N.pmk_own PySem.F.excBase_ValueError T.e T.g T.k (raises_own T.b T.t) hg hdb)) fun E σ H h => by
  obtain ⟨env, G, R, h⟩ := h
  exact h (.ref (He.ga X.K x)) none σ G H ⟨T.g, rfl⟩ R (Fr.refl _ _ _ _)
end
section
variable {X : Cx}
theorem flat_ints (ys : List Int) : (ys.map V.int).all flatV = true := by
  rw [List.all_map]
  exact List.all_eq_true.mpr fun _ _ => rfl
def rTupIndex (K : PySem.W.Frag) : V → List V → Hp → VK → Prop := fun x xs H Q => ∃ p, ∃ ys : List Int, ∃ z j, x = .ref p ∧ xs = [.int z] ∧ SqT K H p (ys.map V.int) ∧ ys[j]? = some z ∧ (∀ m, m < j → ys[m]? ≠ some z) ∧ Q (.int (j : Nat)) H
theorem mt_tup_indexI : MtR X "tuple.index" (rTupIndex X.K) := by
  intro pins s σ H x xs v us Q I rx rs h
  obtain ⟨p, ys, z, j, rfl, rfl, hq, hy, hno, q⟩ := h
  cases rx
  obtain ⟨u, rfl, t, rfl⟩ := vals1 rs
  obtain ⟨its, r, pl, hz⟩ := I.tuple hq
  obtain ⟨⟨cls, dd, dt, sl⟩, ho, hc, n, hd⟩ := pl
  simp only at hc hd
  subst hc
  subst hd
  have hl : its.toArray.size = ys.length := by rw [List.size_toArray, ← r.length, List.length_map]
  have hj : j < its.toArray.size := by rw [hl]; exact (List.getElem?_eq_some_iff.mp hy).1
  have at' : ∀ (m : Nat) (hm : m < its.toArray.size), ∃ y t', ys[m]? = some y ∧ its.toArray[m] = Value.int y t' := fun m hm => by
    have hm' : m < ys.length := by rw [← hl]; exact hm
    obtain ⟨w, hw, t', hw'⟩ := r.get (i := m) (x := .int ys[m]) (by simp [hm'])
    refine ⟨ys[m], t', List.getElem?_eq_getElem hm', ?_⟩
    have e := (List.getElem?_eq_some_iff.mp hw).2
    rw [← hw', ← e]
    simp
  refine call_meets PySem.F.slot_tuple_index ⟨_, ho, rfl⟩ PySem.F.entry_tuple_index (PySem.F.args_tuple_index_2 _ _) (TI.tuple_indexAt p its.toArray n dd sl (.int z t) (eqU (.int z)) j hj ?_ ?_)
    ⟨ho, fun w hw => mem_eqAt (x := .int z) ⟨t, rfl⟩ rfl r (flat_ints ys) w (by simpa using hw), ⟨.int (j : Nat), H, I.tok _, ⟨_, rfl⟩, q⟩⟩
  · obtain ⟨y, t', h1, h2⟩ := at' j hj
    rw [hy] at h1
    cases h1
    rw [h2]
    show (z == z) = true
    exact beq_self_eq_true z
  · intro m hm hmj
    obtain ⟨y, t', h1, h2⟩ := at' m hm
    rw [h2]
    show (y == z) = false
    exact beq_eq_false_iff_ne.mpr fun e => hno m hmj (e ▸ h1)
end
def intsOf : List D → Option (List Int)
  | [] => some []
  | .int i :: r => (intsOf r).map (i :: ·)
  | _ :: _ => none
theorem intsOf_dv {K : PySem.W.Frag} {G : Hp} : ∀ {vs : List V} {ds : List D} {ns : List Int}, DvAll K G vs ds → intsOf ds = some ns → vs = ns.map V.int ∧ ds = ns.map PyData.int
  | _, _, _, .nil, h => by cases h; exact ⟨rfl, rfl⟩
  | _, _, _, .cons (d := d) a b, h => by
    cases d with
    | int i =>
      cases a
      unfold intsOf at h
      cases q : intsOf _ with
      | none => rw [q] at h; cases h
      | some ns =>
        rw [q] at h
        cases h
        obtain ⟨e1, e2⟩ := intsOf_dv b q
        exact ⟨by rw [e1]; rfl, by rw [e2]; rfl⟩
    | none => cases h
    | bool _ => cases h
    | str _ => cases h
    | list _ => cases h
    | tuple _ => cases h
    | dict _ => cases h
def dIndex (d k : D) : Option D := match d, k with
  | .tuple xs, .int k => match intsOf xs with
    | some ns => (ns.findIdx? fun y => decide (y = k)).map fun (j : Nat) => .int (j : Int)
    | none => none
  | _, _ => none
def eIndex (dd dk : DE) : DE := fun env => (dd env).bind fun d e1 => match d with
  | .tuple xs => (dk e1).bind fun k e2 => put (dIndex (.tuple xs) k) e2
  | _ => .stuck
section
variable {X : Cx} {o e : Expr} {es : List Expr} {to : TE} {t : TA} {name : Str} {apos cpos : Pos} {id : String} {r : V → List V → Hp → VK → Prop}
theorem pe_bmN (slot : Slot "tuple" name id) (hty : typeOf (.builtin id) = pure (.type "method_descriptor")) (hm : MtR X id r) (ho : PE X o to) (ha : PA X (e :: es) t)
    (hbase : attributeBase o name X.env (eval o X.env) = eval o X.env := by rfl)
    (hfew : ((backTo cpos (starEach (e :: es) X.env)).all (fun x => !x.1) && (backToKw cpos (keywordEach [] X.env)).all (fun x => x.1.isSome)
      && decide ((e :: es).length + ([] : List Keyword).length + (if ([] : List Keyword).isEmpty then 0 else 1) < 30)) = true := by rfl)
    (hline : (apos.endLine == cpos.line) = true := by rfl) (hs : starEach (e :: es) X.env = (false, eval e X.env) :: starEach es X.env := by rfl) (hplain : (backTo cpos (starEach es X.env)).any (·.1) = false := by rfl) :
    PE X (.Call (.Attribute o name apos) (e :: es) [] cpos) (fun σ H Q => to σ H fun x H1 => (∃ p xs, x = .ref p ∧ SqN X.K H1 p xs) ∧ t σ H1 fun xs H2 => r x xs H2 Q) := by
  refine ⟨fun pins s σ H Q I h => ?_⟩
  refine wpAny_Call_method_late hbase hfew hline rfl (thn (ho.run pins s σ H _ I h) fun v s1 ⟨x, H1, I1, r1, ty, q1⟩ => ?_)
  obtain ⟨p, ys, rfl, hq⟩ := ty
  cases r1
  obtain ⟨h1, ob, h2, h3⟩ := hq.obj I1
  refine ⟨"tuple", id, PySem.F.plainAttrs_tuple, slot, hty, h1, fun a e => by cases e; exact ⟨ob, h2, h3⟩, ?_⟩
  have hA := ha.run cpos pins s1 σ H1 _ I1 q1
  rw [hs] at hA ⊢
  refine Calls.callWith_builtin (by show (false || (backTo cpos (starEach es X.env)).any (·.1)) = false; rw [hplain] <;> rfl) (Calls.evalArgs_plain ?_)
  exact thn hA fun us s2 ⟨vs, H2, I2, r2, q2⟩ => hm pins s2 σ H2 (.ref p) vs (.ref p) us Q I2 rfl r2 q2
end
section
variable {X : Cx} {W : WX} {pos apos : Pos} {o e : Expr} {dd dk : DE}
theorem ce_index (ho : CE X W o dd) (he : CE X W e dk)
    (hbase : attributeBase o "index" X.env (eval o X.env) = eval o X.env := by rfl)
    (hfew : ((backTo pos (starEach [e] X.env)).all (fun x => !x.1) && (backToKw pos (keywordEach [] X.env)).all (fun x => x.1.isSome)
      && decide (([e] : List Expr).length + ([] : List Keyword).length + (if ([] : List Keyword).isEmpty then 0 else 1) < 30)) = true := by rfl)
    (hline : (apos.endLine == pos.line) = true := by rfl) (hs : starEach [e] X.env = (false, eval e X.env) :: starEach [] X.env := by rfl) (hplain : (backTo pos (starEach [] X.env)).any (·.1) = false := by rfl) :
    CE X W (.Call (.Attribute o "index" apos) [e] [] pos) (eIndex dd dk) := pe_imp (pe_bmN PySem.F.slot_tuple_index PySem.F.type_tuple_index mt_tup_indexI ho (pa_cons he pa_nil hs) hbase hfew hline hs hplain) fun σ H Q h => by
  obtain ⟨env, G, R, h⟩ := h
  refine E_thenE R h fun d e1 v G1 H1 _ R1 dv F1 h1 => ?_
  cases dv with
  | @tup a xs ds h2 h3 =>
    refine ⟨⟨a, xs, rfl, R1.ex.n h2⟩, E_thenE R1 h1 fun k e2 w G2 H2 _ R2 dw F2 h4 => ?_⟩
    obtain ⟨z, ez, kk⟩ := RunE.put R2 h4
    show rTupIndex X.K (.ref a) [w] H2 Q
    cases k with
    | int n =>
      cases dw
      have ez' : (match intsOf ds with
        | some ns => (ns.findIdx? fun y => decide (y = n)).map fun (j : Nat) => PyData.int (j : Int)
        | none => none) = some z := ez
      cases q : intsOf ds with
      | none => rw [q] at ez'; cases ez'
      | some ns =>
        rw [q] at ez'
        simp only at ez'
        obtain ⟨e3, e4⟩ := intsOf_dv h3 q
        cases q2 : ns.findIdx? fun y => decide (y = n) with
        | none => rw [q2] at ez'; cases ez'
        | some j =>
          rw [q2] at ez'
          cases ez'
          rw [List.findIdx?_eq_some_iff_getElem] at q2
          obtain ⟨hj, hp, hno⟩ := q2
          refine ⟨a, ns, n, j, rfl, rfl, by rw [← e3]; exact (R2.ex.n (F2.gg.n h2)).t, ?_, fun m hm hc => ?_, kk _ G2 H2 (.int _) (Grow.refl R2.ex)⟩
          · rw [List.getElem?_eq_getElem hj]
            simpa using hp
          · have := hno m hm
            rw [List.getElem?_eq_getElem (by omega)] at hc
            simp at hc
            simp [hc] at this
    | none => cases ez
    | bool _ => cases ez
    | str _ => cases ez
    | list _ => cases ez
    | tuple _ => cases ez
    | dict _ => cases ez
  | non => exact h1.elim
  | bl _ => exact h1.elim
  | int _ => exact h1.elim
  | str _ => exact h1.elim
  | lst _ _ => exact h1.elim
  | dct _ _ => exact h1.elim
end
end DL
set_option Elab.async false
set_option linter.all false
set_option maxRecDepth 100000
set_option autoImplicit false
namespace PySem
open Sem (wp)
end PySem
namespace DL
open PySem L2 PySem.Spec PyProof.Rows
end DL
set_option Elab.async false
set_option linter.all false
set_option maxRecDepth 100000
set_option autoImplicit false
set_option maxHeartbeats 4000000
namespace PySem
open Sem (wp)
open AutoSeq1
end PySem
namespace DL
open PySem L2 PySem.Spec PyProof.Rows
end DL
namespace DL
open PySem L2 PySem.Spec PyProof.Rows RZ
end DL
namespace DL
open PySem L2 PySem.Spec PyProof.Rows RZ
end DL
set_option Elab.async false
set_option linter.all false
set_option maxRecDepth 100000
set_option autoImplicit false
set_option maxHeartbeats 4000000
namespace PySem
open PySem.W PySem.Calls PyProof.Rows PySem.Spec SrtO
end PySem
namespace DL
open PySem L2 PySem.Spec PyProof.Rows
end DL
set_option Elab.async false
set_option linter.all false
set_option maxRecDepth 100000
set_option autoImplicit false
set_option maxHeartbeats 4000000
namespace DL
open PySem L2 L2H HotX PySem.Spec PyProof.Rows
/-- a block's context that bears the handled exception -/
abbrev hblk (X : Cx) (p : Addr × Obj) (s : Shared) (H : Hp) (sc : Scope) (ce : Env) (fp : List Addr) : Cx := { X.blk s H sc ce fp with pn := [p] }
section
variable {X : Cx} {p : Addr × Obj}
theorem hblk_hot (hot : Hot1 X.A p) (s : Shared) (H : Hp) (sc : Scope) (ce : Env) (fp : List Addr) : HotC (hblk X p s H sc ce fp) := ⟨p, hot, List.mem_singleton.mpr rfl⟩
/-- the block starts: what block_start says, the pin kept -/
theorem hblk_start {pins : List (Addr × Obj)} {σ σ' : L2.St} {H : Hp} {s s' : Shared} {sc : Scope} {ce : Env} {fp : List Addr} (hp : p ∈ X.pn) (I : Inv X pins σ H s) (J : Inv (X.blk s H sc ce fp) [] σ' H s')
    (hk : ∀ b o, s.heap.get? b = some o → s'.heap.get? b = some o) (hl : ce.locals = s.heap.objs.size) : Inv (hblk X p s H sc ce fp) [] σ' H s' := by
  obtain ⟨a1, a2, a3, a4, a5⟩ := I.pin p (List.mem_append_left _ hp)
  have jo := J.ok
  refine ⟨⟨jo.mod, jo.kind, jo.glob, jo.blt, jo.above, jo.inj, jo.has, jo.cab, jo.hd, jo.frames, jo.stk, jo.exf, jo.bs, jo.bsz, jo.noex, jo.exfs, jo.funs, jo.frf⟩, J.os, J.bare, J.base, J.loc, J.cell, J.free, J.freeC, fun q hq => ?_, J.hok, J.len⟩
  have eq : q = p := by simpa using (show q ∈ [p] ++ ([] : List (Addr × Obj)) from hq)
  subst eq
  refine ⟨hk _ _ a1, a2, ?_, fun hm => ?_, a5⟩
  · show q.1 ≠ ce.locals
    rw [hl]
    exact Nat.ne_of_lt (Heap.lt_size a1)
  · rcases List.mem_cons.mp (I.stkSub q.1 hm) with z | z
    · exact a3 z
    · exact a4 z
section
variable {pins : List (Addr × Obj)} {s : Shared} {σ : L2.St} {H : Hp} {Q : VK} {elt tg iter : Expr} {ifs : List Expr} {sc : Scope} {own : List (Str × Nat)} {pos pos' : Pos} {wi : TI} {g : TG} {tt : TT} {te : TE} {use : Option (Value → Sem Unit)} {Qf : Value → Shared → Prop}
theorem hot_core (hot : Hot1 X.A p) (hpn : p ∈ X.pn) (hN : X.N.Nodup) (I : Inv X pins σ H s) (hi : PIH X tg iter wi) (ok : BlkOk X.N X.env.scope sc own)
    (hg : ∀ (s : Shared) (H : Hp) (C : Addr) (cl : List (Str × Addr)) (fp : List Addr), PG (hblk X p s H sc (compEnvC sc cl C X.env) fp) tg g)
    (ht : ∀ (s : Shared) (H : Hp) (C : Addr) (cl : List (Str × Addr)) (fp : List Addr), PTs (hblk X p s H sc (compEnvC sc cl C X.env) fp) ifs tt)
    (he : ∀ (s : Shared) (H : Hp) (C : Addr) (cl : List (Str × Addr)) (fp : List Addr), PE (hblk X p s H sc (compEnvC sc cl C X.env) fp) elt te)
    (hs : ∀ x, foldedSetIterable iter X.env x = pure x) (h : tLc wi g tt te (own.map (·.2)) σ H Q)
    (hRR : ∀ D C s' m H', Inv X pins σ H' s' → Q (.ref D) H' → s'.heap.Ns C m → FpOk X pins H' C → compPost (model X.prog X.w) X.A X.xe use Qf (.ref D) C (.ok .next) s') :
    wpAny (model X.prog X.w) X.A (comprehension (.ListComp elt [⟨tg, iter, ifs, 0⟩] sc pos) sc X.env pos' (newList []) false (eval iter X.env) use) Qf X.xe s := by
  have hfr : ∀ y ∈ sc.names, y.2 = .free → ∃ c, X.env.cells.lookup y.1 = some c := fun y hy e => by
    rcases ok.free y hy e with k | k
    · exact I.ok.has _ (.inl k)
    · exact I.ok.has _ (.inr k)
  refine wpAny_comprehension_free (use := use) rfl hs (closure_ok hfr) ok.kind (fun y hy e => by rw [ok.uniq y hy, e])
    (thn (hi.run pins s σ H _ I h) fun xv s1 hx => thn hx fun itv s2 h2 => ?_)
  obtain ⟨it, fp, tn, J, H2, e, I2, T, st2, f2, q⟩ := h2
  subst e
  refine wpAny_newObj_type (newEnv_comp ?_) (by show 0 ≤ sizeLine; decide)
  generalize hD : s2.heap.objs.size = D
  obtain ⟨W, ⟨m0, w0⟩, turn⟩ := q D (I2.hok.fresh (Nat.le_of_eq hD))
  generalize hs3 : ({ s2 with heap := s2.heap.push { cls := .type "list", data := .seq ([] : List Value).toArray } } : Shared) = s3
  have h3 : s3.heap = s2.heap.push { cls := .type "list", data := .seq ([] : List Value).toArray } := by rw [← hs3]
  have I3 : Inv X pins σ (upd H2 D (.lst [])) s3 := by
    subst hs3
    refine I2.laid (t' := s2.toks) (fun b o e => Heap.get?_push_of_some _ e) (Nat.le_of_eq hD) ⟨Nat.zero_le _, [], 0, .nil, ?_⟩
    subst hD
    exact Heap.get?_push_size _ rfl
  have sz : ∀ b ∈ fp, b < s2.heap.objs.size := fun b hb => let ⟨o, e, _⟩ := T.obj _ _ st2 b hb; Heap.lt_size e
  have f3 : ∀ b ∈ fp, FpOk X pins (upd H2 D (.lst [])) b ∧ b < s3.heap.objs.size := fun b hb =>
    ⟨⟨(upd_ne (by rw [← hD]; exact Nat.ne_of_lt (sz b hb))).trans (f2 b hb).1, (f2 b hb).2⟩, by rw [h3, Heap.size_push]; exact Nat.lt_succ_of_lt (sz b hb)⟩
  have st3 : tn 0 s3.heap := T.keep _ _ _ st2 fun b _ o e => (by rw [h3]; exact Heap.get?_push_of_some _ e)
  have I4 := block_start I3 ok hN f3
  have pg := hg s3 (upd H2 D (.lst [])) s3.heap.objs.size (cellsFrom (s3.heap.objs.size + 1) sc.names (cloFrom X.env.cells sc.names [])) fp
  have pt := ht s3 (upd H2 D (.lst [])) s3.heap.objs.size (cellsFrom (s3.heap.objs.size + 1) sc.names (cloFrom X.env.cells sc.names [])) fp
  have pe := he s3 (upd H2 D (.lst [])) s3.heap.objs.size (cellsFrom (s3.heap.objs.size + 1) sc.names (cloFrom X.env.cells sc.names [])) fp
  show codeAny _ _ (.compStart (.ListComp elt [⟨tg, iter, ifs, 0⟩] sc pos) 0 (.ref it) (.ref D) (compEnvC sc (cellsFrom (s3.heap.objs.size + 1) sc.names (cloFrom X.env.cells sc.names [])) s3.heap.objs.size X.env))
    (compPost (model X.prog X.w) X.A X.xe use Qf (.ref D) s3.heap.objs.size) { s3 with heap := pushCells (s3.heap.push { cls := .type "dict", data := .dict #[] }) sc.names }
  have nfp : ∀ b ∈ fp, (upd H2 D (.lst [])) b = none := fun b hb => (f3 b hb).1.1
  generalize hce : compEnvC sc (cellsFrom (s3.heap.objs.size + 1) sc.names (cloFrom X.env.cells sc.names [])) s3.heap.objs.size X.env = ce at I4 pg pt pe ⊢
  have cL : ce.locals = s3.heap.objs.size := by subst hce; rfl
  generalize hH3 : upd H2 D (.lst []) = H3 at I3 I4 pg pt pe w0 nfp f3
  generalize hs4 : ({ s3 with heap := pushCells (s3.heap.push { cls := .type "dict", data := .dict #[] }) sc.names } : Shared) = s4 at I4 ⊢
  have k4 : ∀ b o, s3.heap.get? b = some o → s4.heap.get? b = some o := fun b o e => by
    subst hs4
    exact pushCells_keeps _ _ _ _ (Heap.get?_push_of_some _ e)
  have st4 : tn 0 s4.heap := T.keep _ _ _ st3 fun b _ o e => k4 b o e
  have I4 : Inv (hblk X p s3 H3 sc ce fp) [] (wipe σ (own.map (·.2))) H3 s4 := hblk_start hpn I3 I4 k4 cL
  have hc := hblk_hot hot s3 H3 sc ce fp
  have stat : ∀ {σ' : L2.St} {H' : Hp} {s' : Shared}, Inv (hblk X p s3 H3 sc ce fp) [] σ' H' s' → (∀ b ∈ fp, H' b = none) → ∀ b ∈ fp, FpOk (hblk X p s3 H3 sc ce fp) [] H' b := fun {σ' H' s'} I' hn b hb =>
    ⟨hn b hb, (I'.ok.exf b hb).1, I'.ok.exfs b hb, .inl hb, fun x c e => (I'.ok.exf b hb).2 x c e, fun q hq => by
      have eq : q = p := by simpa using (show q ∈ [p] ++ ([] : List (Addr × Obj)) from hq)
      subst eq
      exact (f3 b hb).1.2.2.2.2.2 q (List.mem_append_left _ hpn)⟩
  have loop : codeAny (model X.prog X.w) X.A (.compLoop (.ListComp elt [⟨tg, iter, ifs, 0⟩] sc pos) 0 (.ref it) (.ref D) ce) (compPost (model X.prog X.w) X.A X.xe use Qf (.ref D) s3.heap.objs.size) s4 := by
    refine compLoop_any (fun n s' => ∃ i H', Inv (hblk X p s3 H3 sc ce fp) [] (wipe σ (own.map (·.2))) H' s' ∧ tn i s'.heap ∧ (∀ b ∈ fp, H' b = none) ∧ W i n H') ?_ m0 ⟨0, H3, I4, st4, nfp, w0⟩
    rintro n s5 ⟨i, H5, I5, st5, n5, w5⟩
    rcases turn i n H5 w5 with ⟨stop, qq⟩ | ⟨go, Nx, hNx, step⟩
    · refine thnF (T.done (hblk X p s3 H3 sc ce fp) rfl rfl rfl hc i [] s5 _ H5 (fun _ _ => False) I5 (stat I5 n5) st5 stop) fun r s6 ⟨hr, I6⟩ => ?_
      subst hr
      have I7 : Inv X pins σ H5 s6 := I3.call' (ch := fp) I6.os I6.base I6.hok I6.bare fun b hb => let z := (f3 b hb).1.2; ⟨z.2.2.1, z.1, z.2.2.2.1, z.2.2.2.2⟩
      have nC : H5 s3.heap.objs.size = none := cL ▸ (show H5 ce.locals = none from I6.free)
      obtain ⟨m, hn, _⟩ := I6.loc
      have hn : s6.heap.Ns s3.heap.objs.size m := cL ▸ (show s6.heap.Ns ce.locals m from hn)
      exact hRR D s3.heap.objs.size s6 m H5 I7 qq hn (I3.fpOk (Nat.le_refl _) nC)
    · refine thnF (T.item (hblk X p s3 H3 sc ce fp) rfl rfl rfl hc i [] s5 _ H5 (fun _ _ => False) I5 (stat I5 n5) st5 go) fun r s6 ⟨u, hr, h6⟩ => ?_
      subst hr
      refine thnF h6 fun _ s7 ⟨x, H7, I7, r7, y7, st7, n7⟩ => ?_
      have I7' := I7.pinned (stat I7 n7) (T.obj _ _ st7)
      refine thnF (pg.run _ s7 _ H7 x u _ I7' r7 (step x H7 y7)) fun _ s8 ⟨σ8, H8, I8, hw8, q8⟩ => ?_
      refine thnF (pt.run _ s8 σ8 H8 _ I8 q8) fun b s9 ⟨H9, I9, q9⟩ => ?_
      have fin : ∀ {s' : Shared} {H' : Hp}, Inv (hblk X p s3 H3 sc ce fp) ([] ++ pinsAt fp s7.heap) σ8 H' s' → Nx H' →
          ∃ m, m < n ∧ ∃ i H', Inv (hblk X p s3 H3 sc ce fp) [] (wipe σ (own.map (·.2))) H' s' ∧ tn i s'.heap ∧ (∀ b ∈ fp, H' b = none) ∧ W i m H' := fun {s' H'} I' nx => by
        obtain ⟨m', hm, w'⟩ := hNx H' nx
        have pin' : ∀ b ∈ fp, ∀ o, s7.heap.get? b = some o → s'.heap.get? b = some o ∧ H' b = none := fun b hb o e => by
          have z := I'.pin (b, o) (List.mem_append_right _ (List.mem_append_right _ (mem_pinsAt hb e)))
          exact ⟨z.1, z.2.1⟩
        refine ⟨m', hm, i + 1, H', (I'.unpinned (pins := [])).weak (by rw [← hw8, wipe_length]) (fun j v e => (wipe_some (hw8 ▸ e)).1), T.keep _ _ _ st7 fun b hb o e => (pin' b hb o e).1, fun b hb => ?_, w'⟩
        obtain ⟨o, e, _⟩ := T.obj _ _ st7 b hb
        exact (pin' b hb o e).2
      cases b with
      | false => exact fin I9 (by simpa using q9)
      | true =>
        simp only [if_true] at q9 ⊢
        refine thnF (pe.run _ s9 σ8 H9 _ I9 q9) fun z s10 ⟨yv, H10, I10, r10, acc, hD10, hz10, nx⟩ => ?_
        exact app_ok (X := hblk X p s3 H3 sc ce fp) I10 hD10 hz10 r10 fun s11 I11 => fin I11 nx
  exact codeAny_compStart_list loop (T.self X.A 0 _ _ _ st4 loop)
theorem pe_lcH (hot : Hot1 X.A p) (hpn : p ∈ X.pn) (hN : X.N.Nodup) (hi : PIH X tg iter wi) (ok : BlkOk X.N X.env.scope sc own)
    (hg : ∀ (s : Shared) (H : Hp) (C : Addr) (cl : List (Str × Addr)) (fp : List Addr), PG (hblk X p s H sc (compEnvC sc cl C X.env) fp) tg g)
    (ht : ∀ (s : Shared) (H : Hp) (C : Addr) (cl : List (Str × Addr)) (fp : List Addr), PTs (hblk X p s H sc (compEnvC sc cl C X.env) fp) ifs tt)
    (he : ∀ (s : Shared) (H : Hp) (C : Addr) (cl : List (Str × Addr)) (fp : List Addr), PE (hblk X p s H sc (compEnvC sc cl C X.env) fp) elt te)
    (hs : ∀ x, foldedSetIterable iter X.env x = pure x := by intro _; rfl) : PE X (.ListComp elt [⟨tg, iter, ifs, 0⟩] sc pos) (tLc wi g tt te (own.map (·.2))) := by
  refine ⟨fun pins s σ H Q I h => ?_⟩
  rw [eval_ListComp]
  refine hot_core hot hpn hN I hi ok hg ht he hs h fun D C s' m H' I' q hn f => ⟨m, hn, fun h'' sb => ?_⟩
  obtain ⟨f0, f1, f2, f3, f4, f5⟩ := f
  exact ⟨.ref D, H', I'.turned (t' := s'.toks) (fun b o hb e => (sb.2 b hb).trans e) f0 f1 f3 f4 f5, rfl, q⟩
end
abbrev CIH (X : Cx) (W : WX) (tg e : Expr) (di : DA) : Prop := PIH X tg e (rdI X.K X.mg W di)
theorem pih_imp {tg e : Expr} {wi wi' : TI} (h : PIH X tg e wi) (k : ∀ σ H R, wi' σ H R → wi σ H R) : PIH X tg e wi' := ⟨fun pins s σ H R I w => h.run pins s σ H R I (k σ H R w)⟩
end
end DL
set_option Elab.async false
set_option linter.all false
set_option maxRecDepth 100000
set_option autoImplicit false
set_option maxHeartbeats 4000000
namespace DL
open PySem L2 L2H HotX PySem.Spec PyProof.Rows
structure ExI (K : PySem.W.Frag) (C : Addr) : Prop where
  cl : (PySem.W.clsIn K C).isSome = true
  ga : PySem.W.findIn K (.ref C) "__getattribute__" = some (some (.builtin "BaseException.__getattribute__"))
  gt : PySem.W.findIn K (.ref C) "__getattr__" = some none
  sb : PySem.W.subIn K (.ref C) (.type "BaseException") = some true
  ca : PySem.W.findIn K (.ref C) "__class__" = some (some (.builtin "object.__class__"))
  gn : PySem.W.specialIn K (.builtin "object.__class__") "__get__" = some (some (.builtin "getset_descriptor.__get__"))
  tk : PySem.W.takesIn K (.builtin "object.__class__") = some true
  mr : PySem.W.mroIn K C (.type "object") = some true
def exiB (K : PySem.W.Frag) (C : Addr) : Bool :=
  (PySem.W.clsIn K C).isSome && (decide (PySem.W.findIn K (.ref C) "__getattribute__" = some (some (.builtin "BaseException.__getattribute__"))) && (decide (PySem.W.findIn K (.ref C) "__getattr__" = some none) &&
    (decide (PySem.W.subIn K (.ref C) (.type "BaseException") = some true) && (decide (PySem.W.findIn K (.ref C) "__class__" = some (some (.builtin "object.__class__"))) &&
      (decide (PySem.W.specialIn K (.builtin "object.__class__") "__get__" = some (some (.builtin "getset_descriptor.__get__"))) && (decide (PySem.W.takesIn K (.builtin "object.__class__") = some true) && decide (PySem.W.mroIn K C (.type "object") = some true)))))))
theorem exiB_ok {K : PySem.W.Frag} {C : Addr} (h : exiB K C = true) : ExI K C := by
  unfold exiB at h
  simp only [Bool.and_eq_true, decide_eq_true_eq] at h
  obtain ⟨h1, h2, h3, h4, h5, h6, h7, h8⟩ := h
  exact ⟨h1, h2, h3, h4, h5, h6, h7, h8⟩
def rIsX (K : PySem.W.Frag) (C a : Addr) (d : Option Addr) : List V → Hp → VK → Prop := fun xs H Q =>
  ∃ (c : V) (cv : Value) (b : Bool), xs = [.ref a, c] ∧ (∀ u, RelV c u → u = cv) ∧ PySem.W.kitOne K (.ref C) cv = some b ∧ (∀ dx, d = some dx → ∃ fs, H dx = some (.xd fs)) ∧ Q (.bl b) H
theorem cr_isX {X : Cx} {a C : Addr} {d : Option Addr} {oe : Obj} (T : ExI X.K C) (hp : (a, oe) ∈ X.pn) (hz : Zc (.ref C) d oe) (hf : ∃ vs, oe.data = .fields vs) : CallR X (.builtin "isinstance") (rIsX X.K C a d) := by
  intro pins s σ H xs us Q I r h
  obtain ⟨c, cv, b, rfl, hcv, e, xd, q⟩ := h
  cases r with
  | cons rx rr =>
    cases rr with
    | cons rt rr =>
      cases rr
      cases rx
      cases hcv _ rt
      have hget := (I.pin (a, oe) (List.mem_append_left _ hp)).1
      obtain ⟨vs, hv⟩ := hf
      have nc : PySem.W.notCls oe = true := by unfold PySem.W.notCls; rw [hv]
      have J : ∃ od, PySem.W.InstAt s.heap a oe C od := by
        cases d with
        | none => exact ⟨none, hget, hz.1, nc, by rw [hz.2]; trivial⟩
        | some dx =>
          obtain ⟨fs, hx⟩ := xd dx rfl
          have ho : ObjOk X.prog X.w H s.heap dx (.xd fs) := I.hok dx _ hx
          obtain ⟨mA, hns, _⟩ := ho
          obtain ⟨o, es, ep, h1, _⟩ := hns
          exact ⟨some o, hget, hz.1, nc, by rw [hz.2]; exact h1⟩
      obtain ⟨od, J⟩ := J
      exact PySem.W.kia_one (PySem.W.kitx_exc T.cl T.ga T.gt T.sb T.ca T.gn T.tk T.mr) I.kIn J e (fun z => nomatch z) fun tk => ⟨.bl b, H, I.kept (t' := tk) fun _ _ z => z, rfl, q⟩
structure FnX (P : Program) (w : World) (K : PySem.W.Frag) (mg : Str → Option Value) (base : Heap) (k : Nat) (f : Addr) (fd : FuncData) (ps : List Str) (p : Addr × Obj) (sp : Sp) : Prop where
  len : ∀ vs H Q E, sp vs H Q E → vs.length = ps.length
  run : ∀ (A : Around) (outer : List Env) (s : Shared) (H : Hp) (args : Args) (us : List Value) (vs : List V) (Q : VK), RoomH k A → Hot1 A p → PinOk outer H s p → Env0 P w K mg base A outer s H →
    BindsTo s fd args (ps.zip us) → Vals vs us → sp vs H Q (fun _ _ _ => False) → codeAny (model P w) A (.call (.ref f) args) (L2.CR (L2N.CX P w) outer P w H s Q fun _ _ _ => False) s
abbrev cxX (P : Program) (w : World) (K : PySem.W.Frag) (mg : Str → Option Value) (base : Heap) (N : List Str) (qual : Str) (sc : Scope) (f : Addr) (cd : Value) (A : Around) (outer : List Env) (s : Shared) (H : Hp) (p : Addr × Obj) : Cx :=
  cxH (L2N.CX P w) P w K mg base N qual sc f cd A outer s H (fun _ _ _ => False) p
section
variable {P : Program} {w : World} {K : PySem.W.Frag} {mg : Str → Option Value} {base : Heap} {k : Nat} {f : Addr} {name qual : Str} {params : Arguments} {body : List Stmt} {sc : Scope} {dV kV doc pm cdv ct oc : Value} {an od : Option Addr} {osl : Array (Option Value)} {N ps : List Str} {sp : Sp} {p : Addr × Obj}
theorem fnX_of (lk : K.lookup f = some ⟨oc, od, .func (PySem.W.fnOf name qual params body sc dV kV doc pm an cdv ct), osl⟩) (hcd : PySem.W.codeIn K cdv qual = true) (S : FnScope N ps sc) (len : ∀ vs H Q E, sp vs H Q E → vs.length = ps.length)
    (hbody : ∀ (A : Around) (outer : List Env) (s : Shared) (H : Hp) (vs : List V) (Q : VK), Hot1 A p → RoomH k (A.deeper (envOfC qual sc s.heap.objs.size f cdv)) → sp vs H Q (fun _ _ _ => False) →
      ∃ t, PSs (cxX P w K mg base N qual sc f cdv A outer s H p) body t ∧ t { nx := fun _ H' => Q .non H', rt := Q } (L2.start N vs) H) :
    FnX P w K mg base (k + 1) f (PySem.W.fnOf name qual params body sc dV kV doc pm an cdv ct) ps p sp := by
  refine ⟨len, fun A outer s H args us vs Q hr hot hpin e0 hb r hsp => ?_⟩
  have keeps : ∀ b o, base.get? b = some o → s.heap.get? b = some o := fun b o e => (e0.bs b o e).1
  have KX := e0.mod.kin.keeps keeps
  have hkind : ∀ y ∈ ps.zip us, sc.names.lookup y.1 = some .local ∨ (sc.names.lookup y.1 = some .cell ∧ ((cellsFrom (s.heap.objs.size + 1) sc.names []).lookup y.1).isSome = true) := by
    rintro ⟨n, v⟩ hy
    rcases S.par n (List.of_mem_zip hy).1 with q | q
    · exact .inl q
    · exact .inr ⟨q, PySem.W.cellsFrom_some _ _ _ (.inl q)⟩
  refine codeAny_call_function hr.depth (KX _ _ lk) rfl S.co S.gen rfl (PySem.W.codeRec_of KX hcd) (hb _ _ _ _ (wpAny_newFunctionEnv_cells S.kind hkind fun env he s1 x => ?_))
  subst he
  refine ⟨(e0.mod.nolimit.keeps keeps).keeps x.toInCall.keep, codeAny_func ?_⟩
  obtain ⟨t, ht, hq⟩ := hbody A outer s H vs Q hot (hr.deeper _) hsp
  have I : Inv (cxX P w K mg base N qual sc f cdv A outer s H p) [] (L2.start N vs) H s1 := inv_startH S hpin e0 (len _ _ _ _ hsp) r x
  refine wpAny_mono (ht.run [] s1 (L2.start N vs) H _ I hq) (fun fl s' hs => ?_) fun e s' hs => hs
  have fin : ∀ {σ' : L2.St} {H' : Hp} {v : V} {u : Value}, Inv (cxX P w K mg base N qual sc f cdv A outer s H p) [] σ' H' s' → RelV v u → Q v H' → L2.CE outer P w H s Q u s' :=
    fun {σ' H' v u} J rv q => ⟨v, H', J.os, J.bare, J.base, J.hok, rv, q⟩
  match fl, hs with
  | .ret u, ⟨v, σ', H', J, rv, q⟩ => exact fin J rv q
  | .next, ⟨σ', H', J, q⟩ => exact fin (v := V.non) (u := Value.none) J rfl q
  | .brk, ⟨_, _, _, q⟩ => exact q.elim
  | .cont, ⟨_, _, _, q⟩ => exact q.elim
end
section
variable {X : Cx} {k : Nat} {f : Addr} {fd : FuncData} {ps : List Str} {sp : Sp} {x : Str} {q pos : Pos} {e : Expr} {es : List Expr} {t : TA} {p : Addr × Obj}
def tCallX (sp : Sp) (t : TA) : TE := fun σ H Q => t σ H fun vs H1 => sp vs H1 Q fun _ _ _ => False
theorem pe_callX (F : FnX X.prog X.w X.K X.mg X.base k f fd ps p sp) (hr : RoomH k X.A) (hot : Hot1 X.A p) (hp : p ∈ X.pn) (hg : Gl X x) (hm : X.mg x = some (.ref f)) (hk : PySem.W.keepIn X.K (.ref f) = true) (hb : Binds X.K fd ps []) (ha : PA X (e :: es) t)
    (hdb : (x == ("__debug__" : Str)) = false := by decide) (he : starEach (e :: es) X.env = (false, eval e X.env) :: starEach es X.env := by rfl) (hpl : (backTo pos (starEach es X.env)).any (·.1) = false := by rfl) :
    PE X (.Call (.Name x q) (e :: es) [] pos) (tCallX sp t) := by
  refine ⟨fun pins s σ H Q I h => wpAny_Call_Name_kw (ld_glob I hg hm ?_ hdb)⟩
  refine PySem.W.callWith_K (h₀ := X.base) I.ok.mod.kin hk (thn (ha.run pos pins s σ H _ I h) fun us s1 ⟨vs, H1, I1, r, q⟩ => ⟨I1.kIn, ?_⟩) he hpl
  have hl : us.length = ps.length := by rw [← r.length]; exact F.len _ _ _ _ q
  have b := hb s1 us I1.kIn (by rw [List.append_nil]; exact hl)
  rw [List.append_nil] at b
  obtain ⟨a1, a2, a3, a4, a5⟩ := I1.pin p (List.mem_append_left _ hp)
  have hpin : PinOk X.stack H1 s1 p := ⟨a1, a2, fun hm => (List.mem_cons.mp (I1.stkSub p.1 hm)).elim a3 a4, a5⟩
  refine wpAny_call (codeAny_mono (F.run X.A X.stack s1 H1 ⟨us, []⟩ us vs Q hr hot hpin I1.env0 b r q) fun r s' hq => ?_)
  match r, hq with
  | .error e, hq =>
    obtain ⟨_, _, _, _, _, _, _, _, _, _, _, _, z⟩ := hq
    exact z.elim
  | .ok (.ret u), hq => exact I1.after hq
  | .ok .next, hq => exact hq.elim
  | .ok .brk, hq => exact hq.elim
  | .ok .cont, hq => exact hq.elim
end
abbrev Ends.lose (D : Ends) (i : Nat) : Ends := { nx := fun σ H => D.nx (σ.set i none) H, rt := D.rt, bk := fun σ H => D.bk (σ.set i none) H, ct := fun σ H => D.ct (σ.set i none) H }
abbrev Hd := Value × (Addr → Value → Option Addr → TS)
def wAsM (K : PySem.W.Frag) (i : Nat) (W : WX) (D : Ends) : List Hd → WX
  | [] => W
  | (c, ts) :: r => fun cls d σ H => ∃ b, PySem.W.exmOne K cls c = some b ∧ (b = true → ∀ a, H a = none → ts a cls d (Ends.lose D i) (σ.set i (some (.ref a))) H) ∧ (b = false → wAsM K i W D r cls d σ H)
inductive HdsAs (X : Cx) (n : Str) : List ExceptHandler → List Hd → Prop
  | nil : HdsAs X n [] []
  | cons {x : Str} {c : Value} {ts : Addr → Value → Option Addr → TS} {b₀ : Stmt} {su : List Stmt} {np pos' : Pos} {hds : List ExceptHandler} {l : List Hd} (hc : Names X x c)
      (hsu : ∀ (a : Addr) (oe : Obj) (cls : Value) (d : Option Addr) (pn : List (Addr × Obj)), L2N.Zn cls d oe → (∃ vs, oe.data = .fields vs) → PSs (X.suite a ((a, oe) :: pn)) (b₀ :: su) (ts a cls d)) (r : HdsAs X n hds l) :
      HdsAs X n (.ExceptHandler (some (.Name x np)) (some n) (b₀ :: su) pos' :: hds) ((c, ts) :: l)
section
variable {X : Cx} {body : List Stmt} {hd0 : ExceptHandler} {hds : List ExceptHandler} {l : List Hd} {pos : Pos} {tb : WX → TS} {W : WX} {n : Str} {i : Nat}
theorem ps_tryAs (hs : X.stack = X.env :: X.outer) (hf : X.env.frame = some X.env.locals) (hN : X.N.Nodup) (hi : X.N[i]? = some n) (hln : X.env.kindOf n = some .local) (tk : L2N.Takes X W)
    (hb : ∀ (W : WX) (pn : List (Addr × Obj)) (xe : Value → Shared → Prop), L2N.Takes (X.tr pn xe) W → PassesOwn (model X.prog X.w) X.A X.env xe → PSs (X.tr pn xe) body (tb W))
    (hh : HdsAs X n (hd0 :: hds) l) : PS X (.Try body (hd0 :: hds) [] [] pos) (fun D σ H => tb (wAsM X.K i W D l) D σ H) := by
  refine ⟨fun pins s σ H D I h => ?_⟩
  have ok := I.ok
  have hfr : X.A.frames = some (X.env :: X.outer) := ok.frames.trans (congrArg some hs)
  have hloc : Loc X.env.scope n := .inl hln
  let xe' : Value → Shared → Prop := fun e s₁ => wpAny (model X.prog X.w) X.A (noteFrame e X.env)
    (fun _ s₂ => wpAny (model X.prog X.w) X.A (setFlight e none) (fun _ s₃ => wpAny (model X.prog X.w) X.A (handleBy e X.env (hd0 :: hds)) (SP X pins D) X.xe s₃) X.xe s₂) X.xe s₁
  have pw : PassesOwn (model X.prog X.w) X.A X.env xe' := PassesOwn.looking
  refine wpAny_Try_except (wpAny_mono ((hb (wAsM X.K i W D l) (X.pn ++ pins) xe' (fun u s' xx => ?_) pw).run [] s σ H D (I.toTry _) h) (fun fl s1 hsp => ?_) (fun e s1 he => he))
  · obtain ⟨a, B, sI, pins', σ', H', cls, d, rfl, J', nb, up, sky, na, os, ag, w⟩ := xx
    have J : Inv X pins σ' H' sI := J'.ofTry ok
    refine L2N.Sky.land L2N.Zn.steady hfr hf (hs ▸ sky) fun h3 fl3 up3 => ?_
    have J3 : Inv X pins σ' H' { s' with heap := h3 } := J.landed nb fl3.1 (up.trans up3) os ag
    obtain ⟨oe3, vs3, he3, hz3, hd3⟩ := fl3.there
    have nfr : a ∉ frs (X.env :: X.outer) := fun hm => by
      obtain ⟨_, o', e', hnf⟩ := fl3.2.2.1.mem hm
      rw [he3] at e'
      cases e'
      exact hnf _ hd3
    have nL : a ≠ X.env.locals := fun z => nfr (List.mem_filterMap.mpr ⟨X.env, List.mem_cons_self, by rw [hf, z]⟩)
    have nF : a ∉ X.fs := fun hm => let ⟨e, he, q⟩ := List.mem_filterMap.mp hm; nfr (List.mem_filterMap.mpr ⟨e, List.mem_cons_of_mem _ he, q⟩)
    have S3 := J3.suite he3 hd3 na nL nF
    have go : ∀ {hds' : List ExceptHandler} {l' : List Hd}, HdsAs X n hds' l' → wAsM X.K i W D l' cls d σ' H' → wpAny (model X.prog X.w) X.A (handleBy (.ref a) X.env hds') (SP X pins D) X.xe { s' with heap := h3 } := by
      intro hds' l' hk
      induction hk with
      | nil =>
        intro w
        obtain ⟨k1, k2, k3, oe, vs, T, oT, ts', he, hz, hd, h1, hr⟩ := id fl3
        refine wpAny_handleBy_nil ?_
        unfold PySem.passOn
        refine wpAny_bind (wpAny_field he hd h1 ?_)
        rw [if_neg (show ¬ ((Value.ref T == Value.none) = true) from by simp)]
        have fin : wpAny (model X.prog X.w) X.A (setFlight (.ref a) X.env.frame) (fun _ s4 => wpAny (model X.prog X.w) X.A (throw (.ref a) : Sem Flow) (SP X pins D) X.xe s4) X.xe { s' with heap := h3 } := by
          rw [hf]
          exact HandSPX.setFlight_upZ fl3 fun h4 hh4 up4 => wpAny_throw (tk _ _ ⟨a, B, sI, pins, σ', H', cls, d, rfl, J, nb, (up.trans up3).trans up4, .inr (.inr (by rw [hs]; exact hh4)), na, os, ag, w⟩)
        first
          | exact wpAny_bind (wpAny_pure (wpAny_bind fin))
          | exact wpAny_bind fin
      | @cons x c ts b₀ su np pos' hds2 l2 hc hsu r ih =>
        intro w
        obtain ⟨b, hb1, hyes, hno⟩ := w
        have LT : PySem.W.Looks (model X.prog X.w) h3 (typeOf (.ref a)) cls := fun A Q E s k q => wpAny_typeOf_ref (k _ _ he3) (hz3.1.symm ▸ q)
        have test : ∀ {Q : Value → Shared → Prop} {E : Value → Shared → Prop}, Q c { s' with heap := h3 } → wpAny (model X.prog X.w) (X.A.mark (some (.ref a))) (eval (.Name x np) X.env) Q E { s' with heap := h3 } := fun {Q E} q => by
          obtain ⟨hg, hdbg, hm | ⟨hm, hv, hnn⟩⟩ := hc
          · exact ld_glob (X := X.suite a ((a, oe3) :: (X.pn ++ pins))) S3 hg hm q hdbg
          · exact ld_blt (X := X.suite a ((a, oe3) :: (X.pn ++ pins))) S3 hg hm hv q hnn hdbg
        refine wpAny_handleBy_cons (codeAny_handlers_test (test ((PySem.W.exm_one (M := model X.prog X.w) J3.kIn LT hb1).here ?_))) (by intro q; cases q)
        cases b with
        | false => exact ih (hno rfl)
        | true =>
          refine codeAny_handlers_suite_as (HandSPX.lands_againZ fl3 fun h4 fl4 up4 => ?_)
          have J4 : Inv X pins σ' H' { s' with heap := h4 } := J.landed nb fl4.1 ((up.trans up3).trans up4) os ag
          obtain ⟨oe4, vs4, he4, hz4, hd4⟩ := fl4.there
          have S4 := J4.suite he4 hd4 na nL nF
          refine store_ok (X := X.suite a ((a, oe4) :: (X.pn ++ pins))) (v := .ref a) S4 hN hi hloc rfl (fun s5 S5 => ?_) (.inr hln)
          refine wpAny_mono ((hsu a oe4 cls d (X.pn ++ pins) hz4 ⟨_, hd4⟩).run [] s5 _ H' _ S5 (hyes rfl a na)) (fun fl s6 hsp => ?_) (fun _ _ z => False.elim z)
          have end_ : ∀ {σ6 : L2.St} {H6 : Hp} {Q : Shared → Prop}, Inv (X.suite a ((a, oe4) :: (X.pn ++ pins))) [] σ6 H6 s6 → (∀ s7, Inv X pins (σ6.set i none) H6 s7 → Q s7) →
              wpAny (model X.prog X.w) X.A (do bindName X.env n .none; unbindBehindTheSuite X.env n pos') (fun _ s7 => Q s7) X.xe s6 := fun {σ6 H6 Q} S6 hq => gone_ok (S6.unsuite ok) hN hi hln hq
          match fl, hsp with
          | .next, ⟨σ6, H6, S6, q6⟩ => exact end_ S6 fun s7 J7 => ⟨_, _, J7, q6⟩
          | .brk, ⟨σ6, H6, S6, q6⟩ => exact end_ S6 fun s7 J7 => ⟨_, _, J7, q6⟩
          | .cont, ⟨σ6, H6, S6, q6⟩ => exact end_ S6 fun s7 J7 => ⟨_, _, J7, q6⟩
          | .ret u, ⟨v6, σ6, H6, S6, r6, q6⟩ => exact end_ S6 fun s7 J7 => ⟨_, _, _, J7, r6, q6⟩
    exact go hh w
  · match fl, hsp with
    | .next, ⟨σ', H', J', q⟩ => exact wpAny_execs_nil ⟨σ', H', J'.ofTry ok, q⟩
    | .brk, ⟨σ', H', J', q⟩ => exact ⟨σ', H', J'.ofTry ok, q⟩
    | .cont, ⟨σ', H', J', q⟩ => exact ⟨σ', H', J'.ofTry ok, q⟩
    | .ret u, ⟨v, σ', H', J', r, q⟩ => exact ⟨v, σ', H', J'.ofTry ok, r, q⟩
end
end DL
set_option Elab.async false
set_option linter.all false
set_option maxRecDepth 100000
set_option autoImplicit false
set_option maxHeartbeats 4000000
namespace DL
open PySem L2 L2H HotX PySem.Spec PyProof.Rows
def strsD : List D → Option (List Str)
  | [] => some []
  | .str x :: r => (strsD r).map (x :: ·)
  | _ :: _ => none
theorem strsD_some : ∀ {ds : List D} {ys : List Str}, strsD ds = some ys → ds = ys.map PyData.str
  | [], _, h => by cases h; rfl
  | .str x :: r, _, h => by
    cases q : strsD r with
    | none => simp [strsD, q] at h
    | some zs =>
      simp [strsD, q] at h
      subst h
      rw [strsD_some q]
      rfl
  | .none :: _, _, h => by cases h
  | .bool _ :: _, _, h => by cases h
  | .int _ :: _, _, h => by cases h
  | .list _ :: _, _, h => by cases h
  | .tuple _ :: _, _, h => by cases h
  | .dict _ :: _, _, h => by cases h
theorem dv_strs {K : PySem.W.Frag} {G : Hp} : ∀ {vs : List V} {ys : List Str}, DvAll K G vs (ys.map PyData.str) → vs = ys.map V.str
  | _, [], h => by cases h; rfl
  | _, y :: ys, h => by
    cases h with
    | cons a b => cases a; rw [dv_strs b]; rfl
def joinG (a : Str) (ys : List Str) : Prop := (ys.map (·.length)).sum + ys.length * a.length ≤ 16777216
instance (a : Str) (ys : List Str) : Decidable (joinG a ys) := by unfold joinG; infer_instance
def dJoin (a : Str) : D → Option D
  | .list xs => match strsD xs with
    | some ys => if joinG a ys then some (.str (Txt.join a ys)) else none
    | none => none
  | .tuple xs => match strsD xs with
    | some ys => if joinG a ys then some (.str (Txt.join a ys)) else none
    | none => none
  | _ => none
def eJoin (da db : DE) : DE := fun env => (da env).bind fun x e1 => match x with
  | .str a => (db e1).bind fun y e2 => put (dJoin a y) e2
  | _ => .stuck
section
variable {X : Cx} {W : WX} {pos apos : Pos} {o e : Expr} {da db : DE}
theorem ce_join (ho : CE X W o da) (he : CE X W e db) (hs : starEach [e] X.env = [(false, eval e X.env)] := by rfl) (hbase : attributeBase o "join" X.env (eval o X.env) = eval o X.env := by rfl) (hline : (apos.endLine == pos.line) = true := by rfl) :
    CE X W (.Call (.Attribute o "join" apos) [e] [] pos) (eJoin da db) := pe_imp (pe_join ho he hs hbase hline) fun σ H Q h => by
  obtain ⟨env, G, R, h⟩ := h
  refine E_thenE R h fun d e1 v G1 H1 _ R1 dv F1 h1 => ?_
  cases dv with
  | str a =>
    refine ⟨⟨a, rfl⟩, E_thenE R1 h1 fun y e2 w G2 H2 _ R2 dw F2 h2 => ?_⟩
    obtain ⟨z, ez, k⟩ := RunE.put R2 h2
    have fin : ∀ {p : Addr} {vs : List V} {xs : List D}, (SqL X.K H2 p vs ∨ SqT X.K H2 p vs) → DvAll X.K G2 vs xs → (match strsD xs with
        | some ys => if joinG a ys then some (PyData.str (Txt.join a ys)) else none
        | none => none) = some z → ∃ a' p', ∃ ys : List Str, V.str a = .str a' ∧ [V.ref p] = [.ref p'] ∧ (SqL X.K H2 p' (ys.map V.str) ∨ SqT X.K H2 p' (ys.map V.str)) ∧ (ys.map (·.length)).sum + ys.length * a'.length ≤ 16777216 ∧ Q (.str (Txt.join a' ys)) H2 := fun {p vs xs} hq dvs ez => by
      cases q : strsD xs with
      | none => rw [q] at ez; cases ez
      | some ys =>
        rw [q] at ez
        by_cases c : joinG a ys
        · simp only [if_pos c] at ez
          cases ez
          rw [strsD_some q] at dvs
          rw [dv_strs dvs] at hq
          exact ⟨a, p, ys, rfl, rfl, hq, c, k _ G2 H2 (.str _) (Grow.refl R2.ex)⟩
        · simp only [if_neg c] at ez
          cases ez
    cases dw with
    | lst x y => exact fin (.inl (R2.ex.rl x).sq) y ez
    | tup x y => exact fin (.inr (R2.ex.n x).t) y ez
    | non => cases ez
    | bl _ => cases ez
    | int _ => cases ez
    | str _ => cases ez
    | dct _ _ => cases ez
  | non => exact h1.elim
  | bl _ => exact h1.elim
  | int _ => exact h1.elim
  | lst _ _ => exact h1.elim
  | tup _ _ => exact h1.elim
  | dct _ _ => exact h1.elim
end
section
variable {X : Cx} {W : WX} {pos : Pos} {p : Addr × Obj}
theorem ci_range1H {tg a : Expr} {da : DA} {q : Pos} (hm : X.mg "range" = none) (ha : CA X W [a] da) (hg : Gl X "range" := by rfl) (hs : starEach [a] X.env = [(false, eval a X.env)] := by rfl) : CIH X W tg (.Call (.Name "range" q) [a] [] pos) (iRng1 da) :=
  pih_imp (pi_range1H hg hm ha hs) fun σ H R h => by
    obtain ⟨env, G, R0, h⟩ := h
    refine A_thenI R0 h fun ds e1 vs G1 H1 _ R1 dv F1 h1 => ?_
    cases q2 : int1 ds with
    | none => rw [q2] at h1; exact h1.elim
    | some j =>
      rw [q2] at h1
      have e := int1_some q2
      subst e
      obtain ⟨v, rfl, dv1⟩ := dv.inv1
      obtain rfl : v = .int j := by cases dv1; rfl
      have h2 : RunI X.K X.mg W e1 σ G1 H1 (if I62 j then .ok (rngD 0 j) e1 else .stuck) R := h1
      by_cases c : I62 j
      · rw [if_pos c] at h2
        have w := walk_rng (K := X.K) (G := G1) 0 j
        rw [Int.sub_zero] at w
        exact ⟨j, rfl, c.1, c.2, h2 _ G1 H1 R1 w (Fr.refl _ _ _ _)⟩
      · rw [if_neg c] at h2
        exact h2.elim
theorem cl_compH {elt tg iter : Expr} {ifs : List Expr} {sc : Scope} {own : List (Str × Nat)} {di : DA} {g : DG} {ws : List Nat} {t : DT} {de : DE} (hot : Hot1 X.A p) (hpn : p ∈ X.pn) (hN : X.N.Nodup) (hi : CIH X W tg iter di) (ok : BlkOk X.N X.env.scope sc own)
    (hg : ∀ (s : Shared) (H : Hp) (C : Addr) (cl : List (Str × Addr)) (fp : List Addr), CG (hblk X p s H sc (compEnvC sc cl C X.env) fp) tg g ws)
    (ht : ∀ (s : Shared) (H : Hp) (C : Addr) (cl : List (Str × Addr)) (fp : List Addr), PTs (hblk X p s H sc (compEnvC sc cl C X.env) fp) ifs (rdT X.K X.mg WF t))
    (he : ∀ (s : Shared) (H : Hp) (C : Addr) (cl : List (Str × Addr)) (fp : List Addr), CE (hblk X p s H sc (compEnvC sc cl C X.env) fp) WF elt de)
    (hws : ∀ j ∈ ws, j ∈ own.map (·.2) := by decide) (hs : ∀ x, foldedSetIterable iter X.env x = pure x := by intro _; rfl) : CL X W (.ListComp elt [⟨tg, iter, ifs, 0⟩] sc pos) (lComp di g t de (own.map (·.2))) :=
  pe_imp (pe_lcH hot hpn hN hi ok hg ht he hs) fun σ H Q h => lc_ok hws σ H Q h
end
def kNames : List Str := ["Harm", "NoHalf", "NoMarks", "NoPlain", "NoRim", "NoRow", "NoSkin", "NoText", "NothingLeft", "TooMany", "Unfit", "Unlike"]
def mtC (n c : Str) : Bool := n == ("SkinError" : Str) || c == n
structure Kx (K : PySem.W.Frag) (mg : Str → Option Value) : Prop where
  g : ∀ c ∈ kNames, mg c = some (.ref (He.ga K c))
  gs : mg "SkinError" = some (.ref (He.ga K "SkinError"))
  i : ∀ c ∈ kNames, ExI K (He.ga K c)
  kk : ∀ c ∈ kNames, ∀ n ∈ kNames, PySem.W.kitOne K (.ref (He.ga K c)) (.ref (He.ga K n)) = some (c == n)
  kv : ∀ c ∈ kNames, PySem.W.kitOne K (.ref (He.ga K c)) (.type "ValueError") = some true
  xk : ∀ c ∈ kNames, ∀ n ∈ ("SkinError" : Str) :: kNames, PySem.W.exmOne K (.ref (He.ga K c)) (.ref (He.ga K n)) = some (mtC n c)
  xf : ∀ c ∈ kNames, XfC K (He.ga K c) ∧ PySem.W.findIn K (.ref (He.ga K c)) "word" = some none ∧ PySem.W.findIn K (.ref (He.ga K c)) "half" = some none
def kxB (K : PySem.W.Frag) : Bool := kNames.all fun c => exiB K (He.ga K c) && (kNames.all (fun n => decide (PySem.W.kitOne K (.ref (He.ga K c)) (.ref (He.ga K n)) = some (c == n))) && (decide (PySem.W.kitOne K (.ref (He.ga K c)) (.type "ValueError") = some true) &&
  ((("SkinError" : Str) :: kNames).all (fun n => decide (PySem.W.exmOne K (.ref (He.ga K c)) (.ref (He.ga K n)) = some (mtC n c))) && (xfB K (He.ga K c) && (decide (PySem.W.findIn K (.ref (He.ga K c)) "word" = some none) && decide (PySem.W.findIn K (.ref (He.ga K c)) "half" = some none))))))
theorem kxB_ok {K : PySem.W.Frag} {mg : Str → Option Value} (h : kxB K = true) (g : ∀ c ∈ kNames, mg c = some (.ref (He.ga K c))) (gs : mg "SkinError" = some (.ref (He.ga K "SkinError"))) : Kx K mg := by
  have h' := fun c hc => List.all_eq_true.mp h c hc
  simp only [Bool.and_eq_true, decide_eq_true_eq] at h'
  exact ⟨g, gs, fun c hc => exiB_ok (h' c hc).1, fun c hc n hn => by simpa using List.all_eq_true.mp (h' c hc).2.1 n hn, fun c hc => (h' c hc).2.2.1, fun c hc n hn => by simpa using List.all_eq_true.mp (h' c hc).2.2.2.1 n hn,
    fun c hc => ⟨xfB_ok (h' c hc).2.2.2.2.1, (h' c hc).2.2.2.2.2.1, (h' c hc).2.2.2.2.2.2⟩⟩
/-- isinstance(e, C): the answer is b -/
def eIsE (a : Addr) (d : Option Addr) (i : Nat) (b : Bool) : DE := fun env => match env[i]? with
  | some (.a a' d' _) => if a' = a ∧ d' = d then .ok (.bool b) env else .stuck
  | _ => .stuck
/-- e.n -/
def eFld (a : Addr) (d : Option Addr) (i : Nat) (n : Str) : DE := fun env => match env[i]? with
  | some (.a a' d' (some (m, x))) => if a' = a ∧ d' = d ∧ m = n then .ok x env else .stuck
  | _ => .stuck
/-- _law_kinds(e) -/
def eKinds (a : Addr) (d : Option Addr) (c : Str) (i : Nat) : DE := fun env => match env[i]? with
  | some (.a a' d' _) => if a' = a ∧ d' = d then .ok (.str (c ++ "+")) env else .stuck
  | _ => .stuck
theorem a_slot {K : PySem.W.Frag} {env : DEnv} {σ : L2.St} {G H : Hp} {i : Nat} {a : Addr} {d : Option Addr} {f : Option (Str × D)} (R : Rel K env σ G H) (h : env[i]? = some (.a a d f)) : σ[i]? = some (some (.ref a)) ∧ XD K G d f := by
  have li : i < σ.length := by rw [← R.len]; exact (List.getElem?_eq_some_iff.mp h).1
  have ho : σ[i]? = some σ[i] := List.getElem?_eq_getElem li
  have q := R.slot i _ _ h ho
  exact ⟨by rw [ho]; exact congrArg some q.1, q.2⟩
theorem xd_there {K : PySem.W.Frag} {G H : Hp} {d : Option Addr} {f : Option (Str × D)} (e : Ex G H) (h : XD K G d f) : ∀ dx, d = some dx → ∃ fs, H dx = some (.xd fs) := fun dx q => by
  cases f with
  | none => rw [show d = none from h] at q; cases q
  | some p =>
    obtain ⟨a, v, h1, h2, _⟩ := h
    rw [q] at h1
    cases h1
    exact ⟨_, e _ _ h2⟩
section
variable {X : Cx} {W : WX} {pos p1 p2 p3 : Pos} {a : Addr} {d : Option Addr} {oe : Obj} {c : Str} {i : Nat} {x n : Str}
theorem isE_core {cv : Value} {v2 : V} {b : Bool} {e2 : Expr} (T : Kx X.K X.mg) (hc : c ∈ kNames) (hp : (a, oe) ∈ X.pn) (hz : Zc (.ref (He.ga X.K c)) d oe) (hf : ∃ vs, oe.data = .fields vs) (he2 : PE X e2 (tC v2)) (hv2 : ∀ u, RelV v2 u → u = cv)
    (hk : PySem.W.kitOne X.K (.ref (He.ga X.K c)) cv = some b) (hm : X.mg "isinstance" = none) (hb : bootBuiltins "isinstance" = some (.builtin "isinstance")) (hg : Gl X "isinstance") (hN : X.N[i]? = some x)
    (hv : Vis X.env.scope x) (hd : (x == ("__debug__" : Str)) = false) (hcd : (x == ("__classdict__" : Str)) = false)
    (hs : starEach (.Name x p1 :: [e2]) X.env = (false, eval (.Name x p1) X.env) :: starEach [e2] X.env) (hs2 : starEach [e2] X.env = (false, eval e2 X.env) :: starEach [] X.env) (hpl : (backTo pos (starEach [e2] X.env)).any (·.1) = false) :
    CE X W (.Call (.Name "isinstance" p3) [.Name x p1, e2] [] pos) (eIsE a d i b) := pe_imp (pe_callB (cr_isX (T.i c hc) hp hz hf) hg hm hb (pa_cons (pe_var hN hv hd hcd) (pa_cons he2 pa_nil hs2) hs) (by decide) (by decide) hs hpl) fun σ H Q h => by
  obtain ⟨env, G, R, h⟩ := h
  unfold eIsE at h
  split at h
  · rename_i a' d' f' q
    split at h
    · rename_i z
      obtain ⟨rfl, rfl⟩ := z
      obtain ⟨s1, s2⟩ := a_slot R q
      exact ⟨_, s1, v2, cv, b, rfl, hv2, hk, xd_there R.ex s2, h (.bl b) G H R (.bl b) (Fr.refl _ _ _ _)⟩
    · exact h.elim
  · exact h.elim
/-- isinstance(e, C), C a class of the program's own -/
theorem ce_isK (n : Str) (T : Kx X.K X.mg) (hc : c ∈ kNames) (hn : n ∈ kNames) (hp : (a, oe) ∈ X.pn) (hz : Zc (.ref (He.ga X.K c)) d oe) (hf : ∃ vs, oe.data = .fields vs) (hm : X.mg "isinstance" = none) (hgn : Gl X n := by rfl) (hdn : (n == ("__debug__" : Str)) = false := by decide) (hb : bootBuiltins "isinstance" = some (.builtin "isinstance") := by decide +kernel) (hg : Gl X "isinstance" := by rfl) (hN : X.N[i]? = some x := by rfl)
    (hv : Vis X.env.scope x := by first | exact Or.inl rfl | exact Or.inr (Or.inl rfl) | exact Or.inr (Or.inr rfl)) (hd : (x == ("__debug__" : Str)) = false := by decide) (hcd : (x == ("__classdict__" : Str)) = false := by decide)
    (hs : starEach (.Name x p1 :: [.Name n p2]) X.env = (false, eval (.Name x p1) X.env) :: starEach [.Name n p2] X.env := by rfl) (hs2 : starEach [.Name n p2] X.env = (false, eval (.Name n p2) X.env) :: starEach [] X.env := by rfl) (hpl : (backTo pos (starEach [.Name n p2] X.env)).any (·.1) = false := by rfl) :
    CE X W (.Call (.Name "isinstance" p3) [.Name x p1, .Name n p2] [] pos) (eIsE a d i (c == n)) :=
  isE_core (v2 := .ref (He.ga X.K n)) T hc hp hz hf (pe_glob hgn (T.g n hn) rfl hdn) (fun _ h => h) (T.kk c hc n hn) hm hb hg hN hv hd hcd hs hs2 hpl
/-- isinstance(e, ValueError) -/
theorem ce_isV (T : Kx X.K X.mg) (hc : c ∈ kNames) (hp : (a, oe) ∈ X.pn) (hz : Zc (.ref (He.ga X.K c)) d oe) (hf : ∃ vs, oe.data = .fields vs) (hm : X.mg "isinstance" = none) (hmv : X.mg "ValueError" = none) (hgn : Gl X "ValueError" := by rfl) (hb : bootBuiltins "isinstance" = some (.builtin "isinstance") := by decide +kernel) (hg : Gl X "isinstance" := by rfl) (hN : X.N[i]? = some x := by rfl)
    (hv : Vis X.env.scope x := by first | exact Or.inl rfl | exact Or.inr (Or.inl rfl) | exact Or.inr (Or.inr rfl)) (hd : (x == ("__debug__" : Str)) = false := by decide) (hcd : (x == ("__classdict__" : Str)) = false := by decide)
    (hs : starEach (.Name x p1 :: [.Name "ValueError" p2]) X.env = (false, eval (.Name x p1) X.env) :: starEach [.Name "ValueError" p2] X.env := by rfl) (hs2 : starEach [.Name "ValueError" p2] X.env = (false, eval (.Name "ValueError" p2) X.env) :: starEach [] X.env := by rfl) (hpl : (backTo pos (starEach [.Name "ValueError" p2] X.env)).any (·.1) = false := by rfl) :
    CE X W (.Call (.Name "isinstance" p3) [.Name x p1, .Name "ValueError" p2] [] pos) (eIsE a d i true) :=
  isE_core (v2 := .ty "ValueError") T hc hp hz hf (pe_bltn hgn hmv PyProof.Rows.Boot.«ValueError» rfl (by decide) (by decide)) (fun _ h => h) (T.kv c hc) hm hb hg hN hv hd hcd hs hs2 hpl
end
end DL
set_option Elab.async false
set_option linter.all false
set_option maxRecDepth 100000
set_option autoImplicit false
set_option maxHeartbeats 4000000
namespace DL
open PySem L2 L2H HotX PySem.Spec PyProof.Rows
abbrev DfX := Addr → Option Addr → Str → Df
abbrev DsX := Addr → Option Addr → Str → DS
/-- the def that tells an exception's classes -/
structure CalK (P : Program) (w : World) (K : PySem.W.Frag) (mg : Str → Option Value) (base : Heap) (k : Nat) (x : Str) (F : DfX) : Prop where
  ex : ∃ (fd : FuncData) (ps : List Str), ps.length = 1 ∧ Binds K fd ps [] ∧ ∀ (a : Addr) (oe : Obj) (d : Option Addr) (c : Str), c ∈ kNames → Zc (.ref (He.ga K c)) d oe → (∃ vs, oe.data = .fields vs) →
    FnX P w K mg base k (He.ga K x) fd ps (a, oe) (spD K mg 1 (F a d c))
  mg_ : mg x = some (.ref (He.ga K x))
  kp : PySem.W.keepIn K (.ref (He.ga K x)) = true
section
variable {P : Program} {w : World} {K : PySem.W.Frag} {mg : Str → Option Value} {base : Heap}
theorem calK_of {x : Str} {st : Stmt} {N ps : List Str} {k : Nat} {ds : DsX} (D : ∃ fd, FnT K x st fd) (g : mg x = some (.ref (He.ga K x))) (S : FnScope N ps (defScope st)) (h1 : ps.length = 1) (hps : ps.length ≤ N.length)
    (hb : ∀ (kV doc pm : Value) (an : Option Addr) (cdv ct : Value) (us : List Value), us.length = ps.length → bindArgs (PySem.W.fnOf x x (defArgs st) (defBody st) (defScope st) .none kV doc pm an cdv ct) ⟨us, []⟩ = pure (ps.zip us))
    (hbody : ∀ (cdv : Value) (A : Around) (outer : List Env) (s : Shared) (H : Hp) (a : Addr) (oe : Obj) (d : Option Addr) (c : Str), c ∈ kNames → Zc (.ref (He.ga K c)) d oe → (∃ vs, oe.data = .fields vs) → Hot1 A (a, oe) → RoomH k (A.deeper (PyProof.Rows.envOfC x (defScope st) s.heap.objs.size (He.ga K x) cdv)) →
      CSs (cxX P w K mg base N x (defScope st) (He.ga K x) cdv A outer s H (a, oe)) (fun _ _ _ _ => False) (defBody st) (ds a d c)) :
    CalK P w K mg base (k + 1) x fun a d c => bodyF N.length (ds a d c) := by
  obtain ⟨fd, F⟩ := D
  refine ⟨⟨fd, ps, h1, F.bindsN hb, fun a oe d c hc hz hf => ?_⟩, g, F.kp⟩
  obtain ⟨oc, od, dV, kV, doc, pm, an, cdv, ct, osl, rfl, lk, hcd, _, _⟩ := F.ex
  refine fnX_of lk hcd S (fun vs H Q E h => by rw [h1]; exact h.1) fun A outer s H vs Q hot hr h => ⟨_, hbody cdv A outer s H a oe d c hc hz hf hot hr, ?_⟩
  obtain ⟨hl, args, G, R, h⟩ := h
  have hn : vs.length ≤ N.length := by omega
  refine ⟨_, G, rel_start (N := N) R hn, ?_⟩
  unfold bodyF at h
  cases q : ds a d c (args ++ List.replicate (N.length - args.length) Sl.no) with
  | nx e =>
    rw [q] at h
    exact fun σ' G' H' R' F' => let ⟨a, b, _⟩ := ends_fr R hn R' F'; h .non G' H' a .non b
  | rt d e =>
    rw [q] at h
    exact fun v σ' G' H' R' dv F' => let ⟨a, b, _⟩ := ends_fr R hn R' F'; h v G' H' a dv b
  | rl d e =>
    rw [q] at h
    exact fun a vs' σ' G' H' R' h1 h2 h3 h4 dv F' => let ⟨r, b, c⟩ := ends_fr R hn R' F'; h a vs' G' H' r h1 h2 h3 (fun z => h4 (c a z)) dv b
  | ex x e =>
    rw [q] at h
    exact fun cls dd σ' G' H' xr R' F' => let ⟨a, b, _⟩ := ends_fr R hn R' F'; h cls dd G' H' xr a b
  | bk e => rw [q] at h; exact h.elim
  | ct e => rw [q] at h; exact h.elim
  | stuck => rw [q] at h; exact h.elim
end
/-- its function on data tells the class's word -/
def KindsF (F : DfX) : Prop := ∀ (a : Addr) (d : Option Addr) (f : Option (Str × D)) (c : Str), c ∈ kNames → F a d c [.a a d f] = .ok (.str (c ++ "+")) [.no]
theorem hot_suite {X : Cx} {a : Addr} {oe : Obj} {pn : List (Addr × Obj)} {cls : Value} {d : Option Addr} (hz : L2N.Zn cls d oe) (hf : ∃ vs, oe.data = .fields vs) : Hot1 (X.suite a ((a, oe) :: pn)).A (a, oe) :=
  let ⟨vs, e⟩ := hf
  ⟨rfl, vs, e, hz.2.2 vs e⟩
section
variable {X : Cx} {W : WX} {pos p1 p2 : Pos} {a : Addr} {d : Option Addr} {oe : Obj} {c : Str} {i k j : Nat} {x e : Str} {pn : List (Addr × Obj)} {F : DfX}
/-- _law_kinds(e) in the suite -/
theorem ce_kinds (C : CalK X.prog X.w X.K X.mg X.base j x F) (hF : KindsF F) (hc : c ∈ kNames) (hz : L2N.Zn (.ref (He.ga X.K c)) d oe) (hf : ∃ vs, oe.data = .fields vs) (hr : Room k X.A) (hjk : j ≤ k) (hg : Gl X x := by rfl) (hN : X.N[i]? = some e := by rfl)
    (hv : Vis X.env.scope e := by first | exact Or.inl rfl | exact Or.inr (Or.inl rfl) | exact Or.inr (Or.inr rfl)) (hd : (e == ("__debug__" : Str)) = false := by decide) (hcd : (e == ("__classdict__" : Str)) = false := by decide) (hdb : (x == ("__debug__" : Str)) = false := by decide)
    (hs : starEach [.Name e p1] X.env = (false, eval (.Name e p1) X.env) :: starEach [] X.env := by rfl) (hpl : (backTo pos (starEach [] X.env)).any (·.1) = false := by rfl) :
    CE (X.suite a ((a, oe) :: pn)) W (.Call (.Name x p2) [.Name e p1] [] pos) (eKinds a d c i) := by
  obtain ⟨fd, ps, h1, hb, Fn⟩ := C.ex
  have hr2 : RoomH j (X.suite a ((a, oe) :: pn)).A := ⟨(hr.mono hjk).dp, (hr.mono hjk).un⟩
  refine pe_imp (pe_callX (X := X.suite a ((a, oe) :: pn)) (Fn a oe d c hc hz.zc hf) hr2 (hot_suite hz hf) (List.mem_cons_self) hg C.mg_ C.kp hb (pa_cons (pe_var (i := i) hN hv hd hcd) pa_nil hs) hdb hs hpl) fun σ H Q h => ?_
  obtain ⟨env, G, R, h⟩ := h
  unfold eKinds at h
  split at h
  · rename_i a' d' f q
    split at h
    · rename_i z
      obtain ⟨rfl, rfl⟩ := z
      obtain ⟨s1, s2⟩ := a_slot R q
      refine ⟨_, s1, rfl, [.a a' d' f], G, ⟨R.ex, rfl, fun m s o e1 e2 => ?_, fun m1 m2 b ⟨s, o, e1, _, e2⟩ => ?_⟩, ?_⟩
      · match m, e1, e2 with
        | 0, e1, e2 => cases e1; cases e2; exact ⟨rfl, s2⟩
      · match m1, e1 with
        | 0, e1 => cases e1; exact e2.elim
      · show RunF X.K X.mg _ _ G H (F a' d' c [.a a' d' f]) Q _
        rw [hF a' d' f c hc]
        intro v G' H' R' dv F'
        have g : Grow G H G' H' := ⟨F'.gg, fun b o hb => F'.keep b o hb (fun ⟨m, s, o, e1, _, e2⟩ => by
          match m, e1 with
          | 0, e1 => cases e1; exact e2.elim), R'.ex, fun b hb => by
            rcases F'.fresh b hb with z | z | ⟨m, s, o, e1, _, e2⟩
            · exact .inl z
            · exact .inr z
            · match m, e1 with
              | 0, e1 => cases e1; exact e2.elim⟩
        exact h v G' H' (R.grow g) dv (g.fr R)
    · exact h.elim
  · exact h.elim
end
/-- a clause's text: the class's word, and the field's behind it -/
def kindD (x : Xc) : Option Str → Option D
  | none => some (.str (x.c ++ "+"))
  | some w => match x.f with
    | some (n, y) => if n = w then dAdd (.str (x.c ++ "+")) y else none
    | none => none
/-- what a clause assigns -/
def eHd (a : Addr) (d : Option Addr) (c : Str) (i : Nat) : Option Str → DE
  | none => eKinds a d c i
  | some w => eBin dAdd (eKinds a d c i) (eFld a d i w)
def tryH (iE iK : Nat) (x : Xc) : List (Str × Option Str) → DS
  | [] => fun e => .ex x e
  | (n, w) :: r => fun e => if mtC n x.c = true then (match setV iE .no e with
    | some e1 => match kindD x w with
      | some y => match setV iK (.v y) e1 with
        | some e2 => .nx e2
        | none => .stuck
      | none => .stuck
    | none => .stuck) else tryH iE iK x r e
def sTryK (ds : DS) (iE iK : Nat) (l : List (Str × Option Str)) : DS := fun env => match ds env with
  | .ex x e => if x.c ∈ kNames then tryH iE iK x l e else .stuck
  | r => r
inductive HsD (X : Cx) (nE : Str) (iE iK : Nat) : List ExceptHandler → List (Str × Option Str) → Prop
  | nil : HsD X nE iE iK [] []
  | cons {n : Str} {w : Option Str} {b₀ : Stmt} {su : List Stmt} {np pos' : Pos} {hds : List ExceptHandler} {l : List (Str × Option Str)} (hn : n ∈ ("SkinError" : Str) :: kNames) (hg : Gl X n) (hdb : (n == ("__debug__" : Str)) = false)
      (hsu : ∀ (c : Str), c ∈ kNames → mtC n c = true → ∀ (a : Addr) (oe : Obj) (d : Option Addr) (pn : List (Addr × Obj)), L2N.Zn (.ref (He.ga X.K c)) d oe → (∃ vs, oe.data = .fields vs) →
        CSs (X.suite a ((a, oe) :: pn)) WF (b₀ :: su) (sAsg (eHd a d c iE w) (gN iK))) (r : HsD X nE iE iK hds l) :
      HsD X nE iE iK (.ExceptHandler (some (.Name n np)) (some nE) (b₀ :: su) pos' :: hds) ((n, w) :: l)
section
variable {K : PySem.W.Frag} {env : DEnv} {σ : L2.St} {G H : Hp}
theorem own_set_no {i : Nat} {o : Option V} {a : Addr} {j : Nat} (h : OwnAt (env.set i .no) (σ.set i o) H j a) : OwnAt env σ H j a := by
  obtain ⟨s, o', e1, e3, e2⟩ := h
  by_cases z : i = j
  · subst z
    by_cases l : i < env.length
    · rw [List.getElem?_set_self l] at e1
      cases e1
      exact e2.elim
    · rw [List.getElem?_eq_none (by simpa using l)] at e1
      cases e1
  · rw [List.getElem?_set_ne z] at e1 e3
    exact ⟨s, o', e1, e3, e2⟩
theorem Rel.lose (R : Rel K env σ G H) (i : Nat) : Rel K (env.set i .no) (σ.set i none) G H := by
  refine ⟨R.ex, by rw [List.length_set, List.length_set]; exact R.len, fun j s o e1 e2 => ?_, fun j k a x y => R.dist j k a (own_set_no x) (own_set_no y)⟩
  by_cases z : i = j
  · subst z
    by_cases l : i < env.length
    · rw [List.getElem?_set_self l] at e1
      cases e1
      trivial
    · rw [List.getElem?_eq_none (by simpa using l)] at e1
      cases e1
  · rw [List.getElem?_set_ne z] at e1 e2
    exact R.slot j s o e1 e2
theorem Fr.lose (env : DEnv) (σ : L2.St) (G H : Hp) (i : Nat) : Fr env σ G H (env.set i .no) (σ.set i none) G H := by
  refine ⟨Ex.refl _, fun _ _ h _ => h, fun _ h => h, fun _ h => .inl h, fun a ⟨j, h⟩ => .inl ⟨j, own_set_no h⟩, fun j xs e n => ?_⟩
  by_cases z : i = j
  · subst z
    by_cases l : i < env.length
    · rw [List.getElem?_set_self l] at e
      cases e
      exact absurd rfl n
    · rw [List.getElem?_eq_none (by simpa using l)] at e
      cases e
  · rw [List.getElem?_set_ne z] at e
    exact ⟨List.getElem?_set_ne z, xs, e, rfl⟩
theorem set_around {α : Type} (l : List α) {i j : Nat} (a b c : α) (h : i ≠ j) : ((l.set i a).set j b).set i c = (l.set i c).set j b := by
  rw [List.set_comm _ _ (Ne.symm h), List.set_set]
theorem setV_no {i : Nat} {e e1 : DEnv} (h : setV i .no e = some e1) (s : Sl) : setV i s e = some (e.set i s) ∧ e1 = e.set i .no ∧ ∃ s0, e[i]? = some s0 ∧ ∀ xs, s0 ≠ .p xs := by
  obtain ⟨s0, a1, a2, rfl⟩ := setV_some h
  refine ⟨?_, rfl, s0, a1, a2⟩
  unfold setV
  rw [a1]
  cases s0 with
  | p xs => exact (a2 xs rfl).elim
  | _ => rfl
end
section
variable {X : Cx} {W : WX} {pos : Pos} {body : List Stmt} {hd0 : ExceptHandler} {hds : List ExceptHandler} {l : List (Str × Option Str)} {nE : Str} {iE iK : Nat} {db : DS}
def tsOf (K : PySem.W.Frag) (mg : Str → Option Value) (iE iK : Nat) (n : Str) (w : Option Str) : Addr → Value → Option Addr → TS := fun a cls d D σ H => ∃ c, c ∈ kNames ∧ mtC n c = true ∧ cls = .ref (He.ga K c) ∧ rdS K mg WF (sAsg (eHd a d c iE w) (gN iK)) D σ H
def hdOf (K : PySem.W.Frag) (mg : Str → Option Value) (iE iK : Nat) (p : Str × Option Str) : Hd := (.ref (He.ga K p.1), tsOf K mg iE iK p.1 p.2)
theorem glo_any (T : Kx X.K X.mg) {n : Str} (h : n ∈ ("SkinError" : Str) :: kNames) : X.mg n = some (.ref (He.ga X.K n)) := by
  rcases List.mem_cons.mp h with e | h
  · subst e; exact T.gs
  · exact T.g n h
theorem HsD.as (T : Kx X.K X.mg) : ∀ {hds : List ExceptHandler} {l : List (Str × Option Str)}, HsD X nE iE iK hds l → HdsAs X nE hds (l.map (hdOf X.K X.mg iE iK))
  | _, _, .nil => .nil
  | _, _, .cons hn hg hdb hsu r => .cons ⟨hg, hdb, .inl (glo_any T hn)⟩ (fun a oe cls d pn hz hf => ⟨fun pins s σ H D I h => by
      obtain ⟨c, hc, hm, rfl, h⟩ := h
      exact (hsu c hc hm a oe d pn hz hf).run pins s σ H D I h⟩) (r.as T)
theorem HsD.names : ∀ {hds : List ExceptHandler} {l : List (Str × Option Str)}, HsD X nE iE iK hds l → ∀ p ∈ l, p.1 ∈ ("SkinError" : Str) :: kNames
  | _, _, .nil, _, h => by cases h
  | _, _, .cons hn _ _ _ r, p, h => by
    rcases List.mem_cons.mp h with e | h
    · subst e; exact hn
    · exact r.names p h
/-- what a clause assigns, where it stands -/
theorem hd_runs {a : Addr} {d : Option Addr} {x : Xc} {w : Option Str} {y : D} {e : DEnv} (h : kindD x w = some y) (l : iE < e.length) : eHd a d x.c iE w (e.set iE (.a a d x.f)) = .ok y (e.set iE (.a a d x.f)) := by
  have q : (e.set iE (.a a d x.f))[iE]? = some (.a a d x.f) := List.getElem?_set_self l
  have k : eKinds a d x.c iE (e.set iE (.a a d x.f)) = .ok (.str (x.c ++ "+")) (e.set iE (.a a d x.f)) := by
    unfold eKinds
    rw [q]
    simp
  cases w with
  | none =>
    cases h
    exact k
  | some w =>
    unfold kindD at h
    cases qf : x.f with
    | none => rw [qf] at h; cases h
    | some p =>
      obtain ⟨n, z⟩ := p
      rw [qf] at h q k
      by_cases c : n = w
      · simp only [if_pos c] at h
        show (eKinds a d x.c iE _).bind _ = _
        rw [k]
        show (eFld a d iE w _).bind _ = _
        have f : eFld a d iE w (e.set iE (.a a d (some (n, z)))) = .ok z (e.set iE (.a a d (some (n, z)))) := by
          unfold eFld
          rw [q]
          simp [c]
        rw [f]
        show put (dAdd _ _) _ = _
        rw [h]
        rfl
      · simp only [if_neg c] at h
        cases h
theorem cs_tryK (T : Kx X.K X.mg) (tk : L2N.Takes X W) (nd : X.N.Nodup) (hb : ∀ (W' : WX) (pn : List (Addr × Obj)) (xe : Value → Shared → Prop), L2N.Takes (X.tr pn xe) W' → PassesOwn (model X.prog X.w) X.A X.env xe → CSs (X.tr pn xe) W' body db)
    (hh : HsD X nE iE iK (hd0 :: hds) l) (hne : iE ≠ iK := by decide) (hs : X.stack = X.env :: X.outer := by rfl) (hf : X.env.frame = some X.env.locals := by rfl) (hi : X.N[iE]? = some nE := by rfl) (hln : X.env.kindOf nE = some .local := by rfl) :
    CS X W (.Try body (hd0 :: hds) [] [] pos) (sTryK db iE iK l) := ps_imp (ps_tryAs (i := iE) (tb := fun W1 => rdS X.K X.mg W1 db) hs hf nd hi hln tk hb (hh.as T)) fun E σ H h => by
  obtain ⟨env, G, R, h⟩ := h
  refine ⟨env, G, R, ?_⟩
  unfold sTryK at h
  cases q : db env with
  | nx e => rw [q] at h; exact h
  | bk e => rw [q] at h; exact h
  | ct e => rw [q] at h; exact h
  | rt d e => rw [q] at h; exact h
  | rl d e => rw [q] at h; exact h
  | stuck => rw [q] at h; exact h
  | ex x e =>
    rw [q] at h
    intro cls dd σ' G' H' xr R' F'
    obtain ⟨hc, xf⟩ := xr
    by_cases hk : x.c ∈ kNames
    · have h : RunS X.K X.mg W env σ G H (tryH iE iK x l e) E := by
        simp only [if_pos hk] at h
        exact h
      rw [T.g x.c hk] at hc
      cases hc
      have nm := hh.names
      rename_i hold
      clear hh q hold
      induction l with
      | nil => exact h _ dd σ' G' H' ⟨T.g x.c hk, xf⟩ R' F'
      | cons p r ih =>
        obtain ⟨n, w⟩ := p
        refine ⟨mtC n x.c, T.xk x.c hk n (nm _ List.mem_cons_self), fun hm a ha => ?_, fun hm => ?_⟩
        · have h : RunS X.K X.mg W env σ G H (match setV iE .no e with
              | some e1 => match kindD x w with
                | some y => match setV iK (.v y) e1 with
                  | some e2 => .nx e2
                  | none => .stuck
                | none => .stuck
              | none => .stuck) E := by
            have z := h
            unfold tryH at z
            rw [if_pos hm] at z
            exact z
          cases q1 : setV iE .no e with
          | none => rw [q1] at h; exact h.elim
          | some e1 =>
            rw [q1] at h
            obtain ⟨b1, b2, s0, b3, b4⟩ := setV_no q1 (.a a dd x.f)
            subst b2
            cases q2 : kindD x w with
            | none => simp only [q2] at h; exact h.elim
            | some y =>
              simp only [q2] at h
              cases q3 : setV iK (.v y) (e.set iE .no) with
              | none => rw [q3] at h; exact h.elim
              | some e2 =>
                rw [q3] at h
                obtain ⟨s1, c1, c2, rfl⟩ := setV_some q3
                have li : iE < e.length := (List.getElem?_eq_some_iff.mp b3).1
                have c1' : (e.set iE (.a a dd x.f))[iK]? = some s1 := by
                  rw [List.getElem?_set_ne hne] at c1 ⊢
                  exact c1
                have R1 : Rel X.K (e.set iE (.a a dd x.f)) (σ'.set iE (some (.ref a))) G' H' := R'.set b3 b4 ⟨rfl, xf⟩ (fun _ z => nomatch z) fun z => nomatch z
                have F1 := Fr.set (s := .a a dd x.f) (v := .ref a) R' b3 b4 (fun _ z => nomatch z) rfl
                refine ⟨x.c, hk, hm, rfl, _, G', R1, ?_⟩
                show RunS X.K X.mg WF _ _ G' H' ((eHd a dd x.c iE w (e.set iE (.a a dd x.f))).fl fun d e1 => match gN iK d e1 with
                  | some e2 => .nx e2
                  | none => .stuck) _
                rw [hd_runs q2 li, fl_ok]
                have g : gN iK y (e.set iE (.a a dd x.f)) = some ((e.set iE (.a a dd x.f)).set iK (.v y)) := by
                  show setV iK (.v y) _ = _
                  unfold setV
                  rw [c1']
                  cases s1 with
                  | p xs => exact (c2 xs rfl).elim
                  | _ => rfl
                rw [g]
                intro σ2 G2 H2 R2 F2
                have R3 := R2.lose iE
                have F3 := Fr.lose ((e.set iE (.a a dd x.f)).set iK (.v y)) σ2 G2 H2 iE
                rw [set_around e _ _ _ hne] at R3 F3
                exact h _ G2 H2 R3 (F'.trans (F1.trans (F2.trans F3)))
        · refine ih (by
            have z := h
            unfold tryH at z
            rw [if_neg (by rw [hm]; exact Bool.false_ne_true)] at z
            exact z) fun p hp => nm p (List.mem_cons_of_mem _ hp)
    · simp only [if_neg hk] at h
      exact h.elim
end
end DL
set_option Elab.async false
set_option linter.all false
set_option maxRecDepth 100000
set_option autoImplicit false
set_option maxHeartbeats 4000000
namespace DL
open PySem L2 PySem.Spec PyProof.Rows
end DL
set_option Elab.async false
set_option linter.all false
set_option maxRecDepth 100000
set_option autoImplicit false
set_option maxHeartbeats 4000000
namespace DL
open PySem L2 PySem.Spec PyProof.Rows
def clsBody (s : Stmt) : List Stmt := match s with
  | .ClassDef _ _ _ b _ _ _ _ _ _ _ => b
  | _ => []
end DL
set_option Elab.async false
set_option linter.all false
set_option maxRecDepth 100000
set_option autoImplicit false
set_option maxHeartbeats 8000000
namespace PySem
open PySem.W PySem.Calls PyProof.Rows PySem.Spec SrtO L2
end PySem
set_option Elab.async false
set_option linter.all false
set_option maxRecDepth 100000
set_option autoImplicit false
set_option maxHeartbeats 8000000
namespace PySem
open PySem.W PySem.Calls PyProof.Rows PySem.Spec SrtO L2
section
variable {P : Program} {w : World} {A : Around} {E : Value → Shared → Prop} {s : Shared}
/-- a set's ints, in the order in which it tells them -/
def Told (S : Int → Bool) (out : List Value) : Prop := ∃ ns : List Int, IntsAre out ns ∧ ns.Nodup ∧ ∀ k, k ∈ ns ↔ S k = true
end
end PySem
namespace DL
open PySem L2 PySem.Spec PyProof.Rows
end DL
set_option Elab.async false
set_option linter.all false
set_option maxRecDepth 100000
set_option autoImplicit false
set_option maxHeartbeats 8000000
namespace DL
open PySem L2 PySem.Spec PyProof.Rows
end DL
set_option Elab.async false
set_option linter.all false
set_option maxRecDepth 100000
set_option autoImplicit false
set_option maxHeartbeats 8000000
namespace DL
open PySem L2 PySem.Spec PyProof.Rows
section
variable {X : Cx} {W : WX} {pos : Pos}
def seeA (i : Nat) (env : DEnv) : Option (List D) := match env[i]? with
  | some (.l xs) => some xs
  | some (.p xs) => some xs
  | some (.v (.list xs)) => some xs
  | some (.v (.tuple xs)) => some xs
  | _ => none
theorem see_any {K : PySem.W.Frag} {env : DEnv} {σ : L2.St} {G H : Hp} {i : Nat} {xs : List D} (R : Rel K env σ G H) (h : seeA i env = some xs) : ∃ a vs, σ[i]? = some (some (.ref a)) ∧ (SqL K H a vs ∨ SqT K H a vs) ∧ DvAll K G vs xs := by
  by_cases q : seeL i env = some xs
  · obtain ⟨a, vs, h1, h2, h3⟩ := see_list R q
    exact ⟨a, vs, h1, .inl h2, h3⟩
  · unfold seeA at h
    unfold seeL at q
    split at h <;> rename_i e
    · rw [e] at q; exact absurd h q
    · rw [e] at q; exact absurd h q
    · rw [e] at q; exact absurd h q
    · cases h
      obtain ⟨o, ho, rs⟩ := peekV R e
      obtain ⟨v, e2, dv⟩ := rs
      cases dv with
      | @tup a ws _ h2 h3 => exact ⟨a, ws, by rw [ho, e2], .inr (R.ex.n h2).t, h3⟩
    · cases h
def lListA (i : Nat) : DA := fun env => match seeA i env with
  | some xs => .ok xs env
  | none => .stuck
theorem cl_listA (i : Nat) {x : Str} {p p2 : Pos} (hm : X.mg "list" = none) (hN : X.N[i]? = some x := by rfl) (hv : Vis X.env.scope x := by first | exact Or.inl rfl | exact Or.inr (Or.inl rfl) | exact Or.inr (Or.inr rfl)) (hd : (x == ("__debug__" : Str)) = false := by decide) (hcd : (x == ("__classdict__" : Str)) = false := by decide)
    (hg : Gl X "list" := by rfl) (hs : starEach [.Name x p] X.env = (false, eval (.Name x p) X.env) :: starEach [] X.env := by rfl) (hpl : (backTo pos (starEach [] X.env)).any (·.1) = false := by rfl) : CL X W (.Call (.Name "list" p2) [.Name x p] [] pos) (lListA i) :=
  pe_imp (pe_callTy call_list_of hg hm (by decide +kernel) (pa_cons (pe_var hN hv hd hcd) pa_nil hs) (by decide) (by decide) hs hpl) fun σ H Q h => by
    obtain ⟨env, G, R, h⟩ := h
    unfold lListA at h
    cases q : seeA i env with
    | none => rw [q] at h; exact h.elim
    | some xs =>
      rw [q] at h
      obtain ⟨a, vs, x1, x2, x4⟩ := see_any R q
      exact ⟨_, x1, a, vs, rfl, x2, fun l hl => RunL.new R h hl x4⟩
end
end DL
set_option Elab.async false
set_option linter.all false
set_option maxRecDepth 100000
set_option autoImplicit false
set_option maxHeartbeats 8000000
namespace DL
open PySem L2 PySem.Spec PyProof.Rows
def sgn (z : Str) : List Str := z.cps.toList.map fun c => ⟨#[c]⟩
def seqS : D → Option (List D)
  | .list xs => some xs
  | .tuple xs => some xs
  | .str z => some ((sgn z).map PyData.str)
  | _ => none
def iSeqS (de : DE) : DA := fun env => (de env).bind fun d e1 => put (seqS d) e1
theorem walk_str {K : PySem.W.Frag} {G : Hp} (z : Str) : WalkD K (Its z) ((sgn z).map PyData.str) G := fun i G' H' e1 e2 => by
  have hl : ((sgn z).map PyData.str).length = z.cps.size := by simp [sgn]
  refine ⟨fun d hd => ?_, fun hl' => by rw [hl] at hl'; exact hl'⟩
  have h1 : i < z.cps.size := by rw [← hl]; exact (List.getElem?_eq_some_iff.mp hd).1
  refine ⟨h1, fun x H'' ⟨e, c, hc, y⟩ => ?_⟩
  subst e
  have ed : d = .str ⟨#[c]⟩ := by
    simp only [sgn, List.getElem?_map, Array.getElem?_toList, hc, Option.map_some, Option.some.injEq] at hd
    exact hd.symm
  subst ed
  rw [y]
  exact ⟨G', Grow.refl e2, .str _⟩
section
variable {X : Cx} {W : WX} {pos : Pos} {tg e : Expr} {de : DE}
theorem ci_seqS (he : CE X W e de) : CI X W tg e (iSeqS de) := pi_imp (pi_or (ci_seq he) (pi_str he)) fun σ H R h => by
  obtain ⟨env, G, R0, h⟩ := h
  have h' : RunI X.K X.mg W env σ G H ((de env).bind fun d e1 => put (seqS d) e1) R := h
  cases q : de env with
  | stuck => rw [q] at h'; exact h'.elim
  | ex x e => rw [q] at h'; exact .inr ⟨env, G, R0, by rw [q]; exact h'⟩
  | ok d e1 =>
    rw [q] at h'
    cases d with
    | list xs =>
      refine .inl ⟨env, G, R0, ?_⟩
      unfold iSeq
      rw [q]
      exact h'
    | tuple xs =>
      refine .inl ⟨env, G, R0, ?_⟩
      unfold iSeq
      rw [q]
      exact h'
    | str z =>
      refine .inr ⟨env, G, R0, ?_⟩
      rw [q]
      intro v G1 H1 R1 dv F1
      cases dv
      exact ⟨z, rfl, h' _ G1 H1 R1 (walk_str z) F1⟩
    | none => exact h'.elim
    | bool b => exact h'.elim
    | int b => exact h'.elim
    | dict b => exact h'.elim
end
def inStr (x z : Str) : Option Bool := match x.cps.toList with
  | [c] => some (decide (c ∈ z.cps.toList))
  | _ => none
theorem inStr_some {x z : Str} {b : Bool} (h : inStr x z = some b) : ∃ c, x = ⟨#[c]⟩ ∧ b = decide (c ∈ z.cps.toList) := by
  unfold inStr at h
  split at h
  · rename_i c q
    refine ⟨c, ?_, (Option.some.inj h).symm⟩
    apply Str.ext'
    apply Array.toList_inj.mp
    rw [q]
  · cases h
def dInS (x s : D) : Option D := match s with
  | .str z => match x with
    | .str y => (inStr y z).map PyData.bool
    | _ => none
  | s => dIn x s
def dNotInS (x s : D) : Option D := match s with
  | .str z => match x with
    | .str y => (inStr y z).map fun b => PyData.bool (!b)
    | _ => none
  | s => dNotIn x s
def rInSt (neg : Bool) : R2 := fun x y H Q => ∃ (c : Nat) (z : Str), x = .str ⟨#[c]⟩ ∧ y = .str z ∧ Q (.bl (if neg then !decide (c ∈ z.cps.toList) else decide (c ∈ z.cps.toList))) H
section
variable {X : Cx} {K : PySem.W.Frag}
theorem op_inA : OpR X (compareOp .In) (fun x y H Q => rIn X.K false x y H Q ∨ rInSt false x y H Q) := op_in_seq.or op_in_sign
theorem op_notInA : OpR X (compareOp .NotIn) (fun x y H Q => rIn X.K true x y H Q ∨ rInSt true x y H Q) := op_notIn_seq.or op_notIn_sign
theorem od_inS : OpD K (fun x y H Q => rIn K false x y H Q ∨ rInSt false x y H Q) dInS := fun x y d e z G H Q hx hy ex h k => by
  by_cases hs : ∃ t, e = .str t
  · obtain ⟨t, rfl⟩ := hs
    right
    cases hy
    cases d with
    | str u =>
      cases hx
      have h' : (inStr u t).map PyData.bool = some z := h
      cases q : inStr u t with
      | none => rw [q] at h'; cases h'
      | some b =>
        rw [q] at h'
        cases h'
        obtain ⟨c, rfl, rfl⟩ := inStr_some q
        exact ⟨c, t, rfl, rfl, k _ G H (.bl _) (Grow.refl ex)⟩
    | _ => cases h
  · left
    have h' : dIn d e = some z := by
      cases e <;> first | exact h | exact absurd ⟨_, rfl⟩ hs
    exact od_in x y d e z G H Q hx hy ex h' k
theorem od_notInS : OpD K (fun x y H Q => rIn K true x y H Q ∨ rInSt true x y H Q) dNotInS := fun x y d e z G H Q hx hy ex h k => by
  by_cases hs : ∃ t, e = .str t
  · obtain ⟨t, rfl⟩ := hs
    right
    cases hy
    cases d with
    | str u =>
      cases hx
      have h' : (inStr u t).map (fun b => PyData.bool (!b)) = some z := h
      cases q : inStr u t with
      | none => rw [q] at h'; cases h'
      | some b =>
        rw [q] at h'
        cases h'
        obtain ⟨c, rfl, rfl⟩ := inStr_some q
        exact ⟨c, t, rfl, rfl, k _ G H (.bl _) (Grow.refl ex)⟩
    | _ => cases h
  · left
    have h' : dNotIn d e = some z := by
      cases e <;> first | exact h | exact absurd ⟨_, rfl⟩ hs
    exact od_notIn x y d e z G H Q hx hy ex h' k
def mulStr (x : Str) (n : Int) : Option Str := if x.length ≤ 100 ∧ 0 ≤ n ∧ n ≤ 1000 then some (Txt.mul x n) else none
def dMulS (a b : D) : Option D := match a, b with
  | .str x, .int n => (mulStr x n).map PyData.str
  | a, b => dMul a b
def rMulS : R2 := fun x y H Q => ∃ u n, x = .str u ∧ y = .int n ∧ u.length ≤ 100 ∧ 0 ≤ n ∧ n ≤ 1000 ∧ Q (.str (Txt.mul u n)) H
theorem mulOk_small {u : Str} {n : Int} (h1 : u.length ≤ 100) (h2 : 0 ≤ n) (h3 : n ≤ 1000) : MulOk u n := by
  refine ⟨?_, fun h4 _ => ?_, fun h4 _ => ?_⟩
  · rw [Bool.or_eq_false_iff, decide_eq_false_iff_not, decide_eq_false_iff_not]
    constructor <;> omega
  · have h5 : (0 : Int) < n := by omega
    have h6 : n ≤ (2 ^ 63 - 1) / 100000 := by omega
    have h7 : (100000 : Int) ≤ (2 ^ 63 - 1) / n := by
      rw [Int.le_ediv_iff_mul_le h5]
      have : 100000 * n ≤ 100000 * 1000 := Int.mul_le_mul_of_nonneg_left h3 (by decide)
      omega
    omega
  · obtain ⟨m, rfl⟩ := Int.eq_ofNat_of_zero_le h2
    have hm : m ≤ 1000 := by omega
    have : u.length * m ≤ 100 * 1000 := Nat.mul_le_mul h1 hm
    rw [Int.toNat_natCast]
    unfold Builtin.Str.tooLong
    rw [decide_eq_false_iff_not]
    have := lim_size (n := u.length * m) (by omega)
    omega
theorem op_mulSt : OpR X (binaryOp .Mult) rMulS := by
  intro pins s σ H x y v u Q I rx ry h
  obtain ⟨a, n, rfl, rfl, h1, h2, h3, q⟩ := h
  obtain ⟨t, rfl⟩ := rx
  obtain ⟨t', rfl⟩ := ry
  exact SB.mul (mulOk_small h1 h2 h3) fun t2 k => ⟨.str (Txt.mul a n), H, I.tok _, ⟨t2, rfl⟩, q⟩
theorem op_mulAS : OpR X (binaryOp .Mult) (fun x y H Q => rMulA x y H Q ∨ rMulS x y H Q) := op_mulA.or op_mulSt
theorem od_mulS : OpD K (fun x y H Q => rMulA x y H Q ∨ rMulS x y H Q) dMulS := fun x y d e z G H Q hx hy ex h k => by
  by_cases hs : ∃ u n, d = .str u ∧ e = .int n
  · obtain ⟨u, n, rfl, rfl⟩ := hs
    right
    cases hx
    cases hy
    have h' : (mulStr u n).map PyData.str = some z := h
    unfold mulStr at h'
    by_cases c : u.length ≤ 100 ∧ 0 ≤ n ∧ n ≤ 1000
    · rw [if_pos c] at h'
      cases h'
      exact ⟨u, n, rfl, rfl, c.1, c.2.1, c.2.2, k _ G H (.str _) (Grow.refl ex)⟩
    · rw [if_neg c] at h'
      cases h'
  · left
    have h' : dMul d e = some z := by
      cases d <;> first | exact h | (cases e <;> first | exact h | exact absurd ⟨_, _, rfl, rfl⟩ hs)
    exact od_mul x y d e z G H Q hx hy ex h' k
end
end DL
set_option Elab.async false
set_option linter.all false
set_option maxRecDepth 100000
set_option autoImplicit false
set_option maxHeartbeats 8000000
namespace DL
open PySem L2 PySem.Spec PyProof.Rows
end DL
set_option Elab.async false
set_option linter.all false
set_option maxRecDepth 100000
set_option autoImplicit false
namespace DL
open PySem L2 PySem.Spec PyProof.Rows
def repT (xs : List D) (n : Int) : Option D := if xs ≠ [] ∧ 2 ≤ n ∧ n ≤ 1000 ∧ xs.length ≤ 1000 then some (.tuple (List.replicate n.toNat xs).flatten) else none
def dMulT (a b : D) : Option D := match a, b with
  | .tuple xs, .int n => repT xs n
  | a, b => dMulS a b
def rRepF (K : PySem.W.Frag) : R2 := fun x y H Q => ∃ l k xs, x = .ref l ∧ y = .int k ∧ SqT K H l xs ∧ xs ≠ [] ∧ 2 ≤ k ∧ k ≤ 1000 ∧ xs.length ≤ 1000 ∧ ∀ (p : Addr) (o : Obj), H p = none → o.dict = none → Q (.ref p) (upd H p (.frz o (.tup (List.replicate k.toNat xs).flatten)))
theorem many_ok {a b : Nat} (h1 : a ≤ 1000) (h2 : b ≤ 1000) : a * b ≤ sizeLine := by
  have : a * b ≤ 1000 * 1000 := Nat.mul_le_mul h1 h2
  have e : sizeLine = _ := sizeLine_eq
  omega
section
variable {X : Cx} {K : PySem.W.Frag}
theorem op_repF : OpR X (binaryOp .Mult) (rRepF X.K) := by
  intro pins s σ H x y v u Q I rx ry hh
  obtain ⟨l, k, xs, rfl, rfl, hT, hne, h1, h2, hz, hq⟩ := hh
  cases rx
  obtain ⟨tk, rfl⟩ := ry
  obtain ⟨its, rr, ⟨⟨kl, dd, dat, sl⟩, ho, e1, n, e2⟩, _⟩ := I.tuple hT
  simp only at e1 e2
  subst e1 e2
  have le : its.length = xs.length := rr.length.symm
  have ne : its.toArray.isEmpty = false := by
    cases its with
    | nil => exact absurd (List.eq_nil_of_length_eq_zero le.symm) hne
    | cons _ _ => rfl
  have sz : its.toArray.size = xs.length := List.size_toArray.trans le
  have mm : ((its.toArray.size : Nat) : Int) * k ≤ 1000000 := by
    rw [sz]
    have := Int.mul_le_mul_of_nonneg_right (show ((xs.length : Nat) : Int) ≤ 1000 by omega) (show 0 ≤ k by omega)
    omega
  have fl : (List.replicate k.toNat its).flatten.length ≤ sizeLine := by
    rw [PyProof.Rows.lm_len_rep_flat, le]
    exact many_ok (by omega) hz
  have fx : (List.replicate k.toNat xs).flatten.length ≤ sizeLine := by
    rw [PyProof.Rows.lm_len_rep_flat]
    exact many_ok (by omega) hz
  refine wpAny_binaryOp_repeat_ref (T := "tuple") (U := "int") (by decide) ⟨_, ho, rfl⟩ (fun z => typeIs_int z k tk) noFill_tuple_mul F.fills_int_mul F.slot_int_rmul repeat_tuple F.slot_int_index.lookup ?_
  refine call_meets F.slot_int_rmul (typeIs_int s k tk) F.entry_int_rmul (F.args_int_rmul_2 _ _) (int_rmul_tuple k tk l its.toArray n dd sl) ⟨ho, rfl, ⟨_, ho, rfl⟩, ?_⟩
  refine call_meets F.slot_tuple_mul ⟨_, ho, rfl⟩ F.entry_tuple_mul (F.args_tuple_mul_2 _ _) (tuple_mulW l its.toArray n dd sl k tk ?_ ?_ ?_ (by omega) ?_ ?_) ⟨ho, ?_⟩
  · rw [Bool.or_eq_false_iff, decide_eq_false_iff_not, decide_eq_false_iff_not]
    constructor <;> omega
  · rw [ne]
    exact beq_eq_false_iff_ne.mpr (by omega)
  · rw [ne, Bool.or_false]
    exact decide_eq_false (by omega)
  · unfold Builtin.Tuple.tupleTooMany
    have e : sizeLine = _ := sizeLine_eq
    exact decide_eq_false (by omega)
  · rw [size_rep]
    exact fl
  · rw [size_rep]
    refine ⟨.ref s.heap.objs.size, _, I.laid (t' := s.toks) (o := .frz { cls := .type "tuple", data := .seq (List.replicate k.toNat its).flatten.toArray } (.tup (List.replicate k.toNat xs).flatten)) (fun b ob q => Heap.get?_push_of_some _ q) (Nat.le_refl _) ?_, rfl, hq _ _ (I.hok.fresh (Nat.le_refl _)) rfl⟩
    exact ⟨Heap.get?_push_size _ rfl, fx, _, rr.rep k.toNat, IsTup.new _ _⟩
theorem DvAll.rep {G : Hp} {vs : List V} {ds : List D} (h : DvAll K G vs ds) : ∀ m, DvAll K G (List.replicate m vs).flatten (List.replicate m ds).flatten
  | 0 => .nil
  | m + 1 => by
    rw [List.replicate_succ, List.replicate_succ, List.flatten_cons, List.flatten_cons]
    exact h.append (DvAll.rep h m)
def rMulT (K : PySem.W.Frag) : R2 := fun x y H Q => (rMulA x y H Q ∨ rMulS x y H Q) ∨ rRepF K x y H Q
theorem op_mulAT : OpR X (binaryOp .Mult) (rMulT X.K) := op_mulAS.or op_repF
theorem od_mulT : OpD K (rMulT K) dMulT := fun x y d e z G H Q hx hy ex h k => by
  by_cases hs : ∃ u n, d = .tuple u ∧ e = .int n
  · obtain ⟨u, n, rfl, rfl⟩ := hs
    right
    cases hy
    have h' : repT u n = some z := h
    unfold repT at h'
    by_cases c : u ≠ [] ∧ 2 ≤ n ∧ n ≤ 1000 ∧ u.length ≤ 1000
    · rw [if_pos c] at h'
      cases h'
      cases hx with
      | @tup a vs _ h1 h2 =>
        refine ⟨a, n, vs, rfl, rfl, (ex.n h1).t, fun q => ?_, c.2.1, c.2.2.1, by rw [h2.length]; exact c.2.2.2, fun p o hp hd => ?_⟩
        · subst q
          cases h2
          exact c.1 rfl
        · have g : Grow G H (upd G p (.frz o (.tup (List.replicate n.toNat vs).flatten))) (upd H p (.frz o (.tup (List.replicate n.toNat vs).flatten))) := Grow.one ex hp
          exact k _ _ _ (.tup (.inl ⟨o, upd_same, hd⟩) ((h2.rep n.toNat).up g.gg)) g
    · rw [if_neg c] at h'
      cases h'
  · left
    have h' : dMulS d e = some z := by
      cases d <;> first | exact h | (cases e <;> first | exact h | exact absurd ⟨_, _, rfl, rfl⟩ hs)
    exact od_mulS x y d e z G H Q hx hy ex h' k
end
end DL
set_option Elab.async false
set_option linter.all false
set_option maxRecDepth 100000
set_option autoImplicit false
namespace DL
open PySem L2 PySem.Spec PyProof.Rows
end DL
set_option Elab.async false
set_option linter.all false
set_option maxRecDepth 100000
set_option autoImplicit false
namespace DL
open PySem L2 PySem.Spec PyProof.Rows
end DL
set_option Elab.async false
set_option linter.all false
set_option maxRecDepth 100000
set_option autoImplicit false
namespace DL
open PySem L2
/-- a def that makes a dict, by data: the dict, what comes back -/
abbrev DfM := DEnv → Option (List (D × D) × DEnv)
section
variable (K : PySem.W.Frag) (mg : Str → Option Value)
def RunFM (args : DEnv) (σ : L2.St) (G H : Hp) (r : Option (List (D × D) × DEnv)) (Q : VK) : Prop := match r with
  | some (kvs, outs) => ∀ a ws G' H', Rel K outs σ G' H' → H' a = some (.dK ws) → G' a = none → H a = none → ¬ Own outs σ H' a → DvKv K G' ws kvs → Fr args σ G H outs σ G' H' → Q (.ref a) H'
  | none => False
def spM (np : Nat) (F : DfM) : L2.Sp := fun vs H Q E => vs.length = np ∧ ∃ args G, Rel K args (vs.map some) G H ∧ RunFM K args (vs.map some) G H (F args) Q
end
/-- what a caller knows of such a def -/
structure CalM (P : Program) (w : World) (K : PySem.W.Frag) (mg : Str → Option Value) (base : Heap) (k : Nat) (x : Str) (np : Nat) (F : DfM) : Prop where
  ex : ∃ (fd : FuncData) (ps : List Str), ps.length = np ∧ FnOk P w K mg base (L2N.CX P w) k (He.ga K x) fd ps (spM K ps.length F) ∧ Binds K fd ps []
  mg_ : mg x = some (.ref (He.ga K x))
  kp : PySem.W.keepIn K (.ref (He.ga K x)) = true
section
variable {P : Program} {w : World} {K : PySem.W.Frag} {mg : Str → Option Value} {base : Heap}
theorem CalM.mono {j k : Nat} {x : Str} {np : Nat} {F : DfM} (C : CalM P w K mg base j x np F) (h : j ≤ k) : CalM P w K mg base k x np F :=
  let ⟨fd, ps, e, f, b⟩ := C.ex
  ⟨⟨fd, ps, e, f.mono h, b⟩, C.mg_, C.kp⟩
end
section
variable {X : Cx} {W : WX} {pos p : Pos} {e : Expr} {es : List Expr} {da : DAr} {j k np : Nat} {F : DfM} {x : Str}
theorem RunM.shift {K : PySem.W.Frag} {mg : Str → Option Value} {env env1 : DEnv} {σ : L2.St} {G H G1 H1 : Hp} {r : Rs (List (D × D))} {Q : VK} (h : RunM K mg W env σ G H r Q) (f : Fr env σ G H env1 σ G1 H1) : RunM K mg W env1 σ G1 H1 r Q := by
  cases r with
  | stuck => exact h
  | ex x e => exact RunX.shift h f
  | ok ds e2 => exact fun p vs G' H' R' h1 h2 h3 h4 dv F => h p vs G' H' R' h1 h2 (f.dom p h3) h4 dv (f.trans F)
end
end DL
set_option Elab.async false
set_option linter.all false
set_option maxRecDepth 100000
set_option autoImplicit false
set_option maxHeartbeats 4000000
namespace DL
open PySem L2 PySem.Spec PyProof.Rows
abbrev Rows := List (List Int)
/-- lists within a list, apart from one another -/
structure NL (H : Hp) (r : Addr) (bs : List Addr) (rows : Rows) : Prop where
  out : H r = some (.lst (bs.map V.ref))
  len : bs.length = rows.length
  inn : ∀ (j : Nat) (b : Addr) (row : List Int), bs[j]? = some b → rows[j]? = some row → H b = some (.lst (row.map V.int))
  nd : (r :: bs).Nodup
theorem NL.all {H : Hp} {r : Addr} {bs : List Addr} {rows : Rows} (h : NL H r bs rows) {a : Addr} (ha : a ∈ r :: bs) : H a ≠ none := by
  rcases List.mem_cons.1 ha with rfl | ha
  · rw [h.out]; exact fun z => by cases z
  · obtain ⟨j, hj, e⟩ := List.getElem_of_mem ha
    have hj2 : j < rows.length := by rw [← h.len]; exact hj
    rw [← e, h.inn j _ _ (List.getElem?_eq_getElem hj) (List.getElem?_eq_getElem hj2)]
    exact fun z => by cases z
theorem NL.keep {H H' : Hp} {r : Addr} {bs : List Addr} {rows : Rows} (h : NL H r bs rows) (k : ∀ a, a ∈ r :: bs → H' a = H a) : NL H' r bs rows :=
  ⟨by rw [k r (List.mem_cons_self ..)]; exact h.out, h.len, fun j b row hb hr => by rw [k b (List.mem_cons_of_mem _ (List.mem_of_getElem? hb))]; exact h.inn j b row hb hr, h.nd⟩
def putRows : Rows → Int → Int → Int → Option Rows
  | [], _, _, _ => none
  | row :: rows, name, new, more => if name ∈ row then (if row.length ≤ 100000 ∧ 0 ≤ (row.idxOf name : Int) + more ∧ (row.idxOf name : Int) + more ≤ 200000 then some ((row.take ((row.idxOf name : Int) + more).toNat ++ [new] ++ row.drop ((row.idxOf name : Int) + more).toNat) :: rows) else none)
    else (putRows rows name new more).map (row :: ·)
def spP : L2.Sp := fun vs H Q _ => ∃ r bs rows name new more rows', vs = [.ref r, .int name, .int new, .int more] ∧ NL H r bs rows ∧ putRows rows name new more = some rows' ∧ ∀ H', NL H' r bs rows' → (∀ a, a ∉ bs → H' a = H a) → Q .non H'
structure CalP (P : Program) (w : World) (K : PySem.W.Frag) (mg : Str → Option Value) (base : Heap) (k : Nat) (x : Str) : Prop where
  ex : ∃ (fd : FuncData) (ps : List Str), ps.length = 4 ∧ FnOk P w K mg base (L2N.CX P w) k (He.ga K x) fd ps spP ∧ Binds K fd ps []
  mg_ : mg x = some (.ref (He.ga K x))
  kp : PySem.W.keepIn K (.ref (He.ga K x)) = true
end DL
namespace DL
open PySem L2 PySem.Spec PyProof.Rows
section
variable {P : Program} {w : World} {K : PySem.W.Frag} {mg : Str → Option Value} {base : Heap}
theorem CalP.mono {j k : Nat} {x : Str} (C : CalP P w K mg base j x) (h : j ≤ k) : CalP P w K mg base k x :=
  let ⟨fd, ps, e, f, b⟩ := C.ex
  ⟨⟨fd, ps, e, f.mono h, b⟩, C.mg_, C.kp⟩
end
/-- a def that makes lists within a list -/
abbrev DfN := DEnv → Option (Rows × DEnv)
section
variable (K : PySem.W.Frag)
def spN (np : Nat) (F : DfN) : L2.Sp := fun vs H Q _ => vs.length = np ∧ ∃ args G, Rel K args (vs.map some) G H ∧ match F args with
  | some (rows, outs) => ∀ a bs G' H', Rel K outs (vs.map some) G' H' → NL H' a bs rows → (∀ z, z ∈ a :: bs → H z = none ∧ G' z = none ∧ ¬ Own outs (vs.map some) H' z) → Fr args (vs.map some) G H outs (vs.map some) G' H' → Q (.ref a) H'
  | none => False
end
structure CalN (P : Program) (w : World) (K : PySem.W.Frag) (mg : Str → Option Value) (base : Heap) (k : Nat) (x : Str) (np : Nat) (F : DfN) : Prop where
  ex : ∃ (fd : FuncData) (ps : List Str), ps.length = np ∧ FnOk P w K mg base (L2N.CX P w) k (He.ga K x) fd ps (spN K ps.length F) ∧ Binds K fd ps []
  mg_ : mg x = some (.ref (He.ga K x))
  kp : PySem.W.keepIn K (.ref (He.ga K x)) = true
section
variable {P : Program} {w : World} {K : PySem.W.Frag} {mg : Str → Option Value} {base : Heap}
theorem CalN.mono {j k : Nat} {x : Str} {np : Nat} {F : DfN} (C : CalN P w K mg base j x np F) (h : j ≤ k) : CalN P w K mg base k x np F :=
  let ⟨fd, ps, e, f, b⟩ := C.ex
  ⟨⟨fd, ps, e, f.mono h, b⟩, C.mg_, C.kp⟩
end
end DL
set_option Elab.async false
set_option linter.all false
set_option maxRecDepth 100000
set_option autoImplicit false
set_option maxHeartbeats 4000000
namespace DL
open PySem L2
/-- the lists are the def's own, and new -/
def NS (H0 G H : Hp) (env : DEnv) (σ : L2.St) (r : Addr) (rows : Rows) : Prop := ∃ bs, NL H r bs rows ∧ ∀ z, z ∈ r :: bs → H0 z = none ∧ G z = none ∧ ¬ Own env σ H z
theorem NS.fr {H0 G H G' H' : Hp} {env env' : DEnv} {σ σ' : L2.St} {r : Addr} {rows : Rows} (h : NS H0 G H env σ r rows) (F : Fr env σ G H env' σ' G' H') : NS H0 G' H' env' σ' r rows := by
  obtain ⟨bs, nl, k⟩ := h
  have kp : ∀ z, z ∈ r :: bs → H' z = H z := fun z hz => by
    cases q : H z with
    | none => exact absurd q (nl.all hz)
    | some o => exact F.keep z o q (k z hz).2.2
  refine ⟨bs, nl.keep kp, fun z hz => ⟨(k z hz).1, ?_, fun o => ?_⟩⟩
  · cases q : G' z with
    | none => rfl
    | some o =>
      rcases F.fresh z (by rw [q]; exact fun w => by cases w) with w | w | w
      · exact absurd (k z hz).2.1 w
      · exact absurd w (nl.all hz)
      · exact absurd w (k z hz).2.2
  · rcases F.own z o with w | w
    · exact (k z hz).2.2 w
    · exact nl.all hz w
end DL
set_option Elab.async false
set_option linter.all false
set_option maxRecDepth 100000
set_option autoImplicit false
set_option maxHeartbeats 4000000
namespace PySem
open PySem.W PySem.Calls PyProof.Rows PySem.Spec SrtO L2
end PySem
namespace DL
open PySem L2 PySem.Spec PyProof.Rows
end DL
set_option Elab.async false
set_option linter.all false
set_option maxRecDepth 100000
set_option autoImplicit false
set_option maxHeartbeats 4000000
namespace DL
open PySem L2 PySem.Spec PyProof.Rows
/-- rows that stand still, and one new row of the def's own behind them -/
structure PL (K : PySem.W.Frag) (H0 G H : Hp) (env : DEnv) (σ : L2.St) (r b : Addr) (vs : List V) (rs : List D) (acc : List Int) : Prop where
  out : H r = some (.lst (vs ++ [.ref b]))
  inn : H b = some (.lst (acc.map V.int))
  dv : DvAll K G vs rs
  ne : r ≠ b
  new : ∀ z, z ∈ [r, b] → H0 z = none ∧ G z = none ∧ ¬ Own env σ H z
theorem PL.fr {K : PySem.W.Frag} {H0 G H G' H' : Hp} {env env' : DEnv} {σ σ' : L2.St} {r b : Addr} {vs : List V} {rs : List D} {acc : List Int} (h : PL K H0 G H env σ r b vs rs acc) (F : Fr env σ G H env' σ' G' H') : PL K H0 G' H' env' σ' r b vs rs acc := by
  have hr := h.new r (by simp)
  have hb := h.new b (by simp)
  have kr := F.keep r _ h.out hr.2.2
  have kb := F.keep b _ h.inn hb.2.2
  have all : ∀ z, z ∈ [r, b] → H z ≠ none := fun z hz => by
    simp only [List.mem_cons, List.not_mem_nil, or_false] at hz
    rcases hz with rfl | rfl
    · rw [h.out]; exact fun w => nomatch w
    · rw [h.inn]; exact fun w => nomatch w
  refine ⟨kr, kb, h.dv.up F.gg, h.ne, fun z hz => ⟨(h.new z hz).1, ?_, fun o => ?_⟩⟩
  · cases q : G' z with
    | none => rfl
    | some o =>
      rcases F.fresh z (by rw [q]; exact fun w => by cases w) with w | w | w
      · exact absurd (h.new z hz).2.1 w
      · exact absurd w (all z hz)
      · exact absurd w (h.new z hz).2.2
  · rcases F.own z o with w | w
    · exact (h.new z hz).2.2 w
    · exact all z hz w
end DL
set_option Elab.async false
set_option linter.all false
set_option maxRecDepth 100000
set_option autoImplicit false
set_option maxHeartbeats 4000000
namespace DL
open PySem L2 PySem.Spec PyProof.Rows
end DL
set_option Elab.async false
set_option linter.all false
set_option maxRecDepth 100000
set_option autoImplicit false
set_option maxHeartbeats 4000000
namespace DL
open PySem L2 PySem.Spec PyProof.Rows
end DL
set_option Elab.async false
set_option linter.all false
set_option maxRecDepth 100000
set_option autoImplicit false
set_option maxHeartbeats 4000000
namespace DL
open PySem L2 PySem.Spec PyProof.Rows
end DL
set_option Elab.async false
set_option linter.all false
set_option maxRecDepth 100000
set_option autoImplicit false
set_option maxHeartbeats 8000000
namespace PySem
open PySem.W PySem.Calls PyProof.Rows PySem.Spec SrtO L2 HT
end PySem
set_option Elab.async false
set_option linter.all false
set_option maxRecDepth 100000
set_option autoImplicit false
set_option maxHeartbeats 4000000
namespace DL
open PySem L2 PySem.Spec PyProof.Rows
end DL
namespace DL
open PySem L2 PySem.Spec PyProof.Rows
end DL
set_option Elab.async false
set_option linter.all false
set_option maxRecDepth 100000
set_option autoImplicit false
set_option maxHeartbeats 8000000
namespace PySem
open PySem.W PySem.Calls PyProof.Rows PySem.Spec SrtO L2
end PySem
namespace DL
open PySem L2 PySem.Spec PyProof.Rows
end DL
set_option Elab.async false
set_option linter.all false
set_option maxRecDepth 100000
set_option autoImplicit false
namespace DL
open PySem L2
end DL
set_option Elab.async false
set_option linter.all false
set_option maxRecDepth 100000
set_option autoImplicit false
namespace DL
open PySem L2 PySem.Spec PyProof.Rows
end DL
set_option Elab.async false
set_option linter.all false
set_option maxRecDepth 100000
set_option autoImplicit false
set_option maxHeartbeats 4000000
namespace DL
open PySem L2 PySem.Spec PyProof.Rows
section
variable {X : Cx} {W : WX} {pos : Pos}
def treeN (i : Nat) (env : DEnv) : Option LO := match env[i]? with
  | some (.t (.n kvs)) => some kvs
  | _ => none
end
/-- comparable, not too deep -/
structure CmpOk (ds : List D) : Prop where
  al : ∀ d, d ∈ ds → ∀ e, e ∈ ds → W.alike d e = true
  nn : ∀ d, d ∈ ds → d ≠ PyData.none
  cl : PyData.canLayAll0 ds = true
  dp : PyData.depthAll ds ≤ 60
  sz : ds.length ≤ 100000
noncomputable instance (ds : List D) : Decidable (CmpOk ds) := Classical.propDecidable _
/-- all are tuples with something in them, or none is a tuple -/
structure SrtOk (ds : List D) : Prop where
  c : CmpOk ds
  s : W.Sortable ds
noncomputable instance (ds : List D) : Decidable (SrtOk ds) := Classical.propDecidable _
end DL
set_option Elab.async false
set_option linter.all false
set_option maxRecDepth 100000
set_option autoImplicit false
set_option maxHeartbeats 4000000
namespace PySem.W
open PySem PySem.Calls PyProof.Rows
end PySem.W
namespace DL
open PySem L2 PySem.Spec PyProof.Rows
end DL
set_option Elab.async false
set_option linter.all false
set_option maxRecDepth 100000
set_option autoImplicit false
set_option maxHeartbeats 4000000
namespace DL
open PySem L2 PySem.Spec PyProof.Rows
section
variable {K : PySem.W.Frag} {G H G' H' : Hp}
theorem treesK_iff : ∀ (vs : List V) (fs : List (Str × Tr)), TreesK K G H vs fs ↔ TreesAt K G H vs (fs.map (·.2))
  | [], [] => by simp [TreesK, TreesAt]
  | [], _ :: _ => by simp [TreesK, TreesAt]
  | _ :: _, [] => by simp [TreesK, TreesAt]
  | v :: vs, (x, t) :: fs => by
    simp only [TreesK, TreesAt, List.map_cons, treesK_iff vs fs]
theorem reachK_eq : ∀ (vs : List V) (fs : List (Str × Tr)), reachK H vs fs = reachL H vs (fs.map (·.2))
  | [], [] => by simp [reachK, reachL]
  | [], _ :: _ => by simp [reachK, reachL]
  | _ :: _, [] => by simp [reachK, reachL]
  | v :: vs, (x, t) :: fs => by
    simp only [reachK, reachL, List.map_cons, reachK_eq vs fs]
/-- the part at place j -/
theorem trees_get : ∀ {ts : List Tr} {vs : List V} {j : Nat} {t : Tr}, TreesAt K G H vs ts → ts[j]? = some t → ∃ v, vs[j]? = some v ∧ TreeAt K G H v t ∧ ∀ a, a ∈ reach H v t → a ∈ reachL H vs ts
  | [], _, _, _, _, e => by simp at e
  | t0 :: ts, [], _, _, h, _ => by simp [TreesAt] at h
  | t0 :: ts, v0 :: vs, 0, t, h, e => by
    simp only [TreesAt] at h
    simp at e
    subst e
    exact ⟨v0, rfl, h.1, fun a ha => by simp only [reachL, List.mem_append]; exact .inl ha⟩
  | t0 :: ts, v0 :: vs, j + 1, t, h, e => by
    simp only [TreesAt] at h
    obtain ⟨v, q1, q2, q3⟩ := trees_get (j := j) h.2 (by simpa using e)
    exact ⟨v, by simpa using q1, q2, fun a ha => by simp only [reachL, List.mem_append]; exact .inr (q3 a ha)⟩
/-- the part at place j is another one now, all else stays -/
theorem trees_focus (e : Ex G G') {t' : Tr} {v' : V} {t : Tr} {v : V} (h' : TreeAt K G' H' v' t') (nd' : (reach H' v' t').Nodup) (sb : ∀ a, a ∈ reach H' v' t' → a ∈ reach H v t ∨ H a = none) :
    ∀ (ts : List Tr) (vs : List V) (j : Nat), TreesAt K G H vs ts → ts[j]? = some t → vs[j]? = some v → (reachL H vs ts).Nodup → (∀ a, a ∈ reachL H vs ts → a ∉ reach H v t → H' a = H a) →
      TreesAt K G' H' (vs.set j v') (ts.set j t') ∧ (reachL H' (vs.set j v') (ts.set j t')).Nodup ∧ ∀ a, a ∈ reachL H' (vs.set j v') (ts.set j t') → a ∈ reachL H vs ts ∨ H a = none
  | [], _, _, _, e1, _, _, _ => by simp at e1
  | _ :: _, [], _, h, _, _, _, _ => by simp [TreesAt] at h
  | t0 :: ts, v0 :: vs, 0, h, e1, e2, nd, k => by
    simp only [TreesAt] at h
    simp at e1 e2
    subst e1 e2
    simp only [reachL] at nd k
    obtain ⟨n1, n2, n3⟩ := List.nodup_append.1 nd
    have kr := trees_keep (H' := H') e ts vs h.2 fun a ha => k a (List.mem_append.2 (.inr ha)) fun z => n3 a z a ha rfl
    simp only [List.set_cons_zero, TreesAt, reachL]
    refine ⟨⟨h', kr.1⟩, ?_, fun a ha => ?_⟩
    · rw [kr.2]
      refine List.nodup_append.2 ⟨nd', n2, fun a ha b hb z => ?_⟩
      subst z
      rcases sb a ha with q | q
      · exact n3 a q a hb rfl
      · exact trees_all ts vs h.2 a hb q
    · rw [kr.2] at ha
      rcases List.mem_append.1 ha with q | q
      · exact (sb a q).imp (fun z => List.mem_append.2 (.inl z)) id
      · exact .inl (List.mem_append.2 (.inr q))
  | t0 :: ts, v0 :: vs, j + 1, h, e1, e2, nd, k => by
    simp only [TreesAt] at h
    simp only [reachL] at nd k
    obtain ⟨n1, n2, n3⟩ := List.nodup_append.1 nd
    have e1 : ts[j]? = some t := by simpa using e1
    have e2 : vs[j]? = some v := by simpa using e2
    obtain ⟨w, q1, _, q3⟩ := trees_get h.2 e1
    rw [e2] at q1
    cases q1
    have kr := tree_keep (H' := H') e t0 v0 h.1 fun a ha => k a (List.mem_append.2 (.inl ha)) fun z => n3 a ha a (q3 a z) rfl
    obtain ⟨i1, i2, i3⟩ := trees_focus e h' nd' sb ts vs j h.2 e1 e2 n2 fun a ha hn => k a (List.mem_append.2 (.inr ha)) hn
    simp only [List.set_cons_succ, TreesAt, reachL]
    refine ⟨⟨kr.1, i1⟩, ?_, fun a ha => ?_⟩
    · rw [kr.2]
      refine List.nodup_append.2 ⟨n1, i2, fun a ha b hb z => ?_⟩
      subst z
      rcases i3 a hb with q | q
      · exact n3 a ha a q rfl
      · exact tree_all t0 v0 h.1 a ha q
    · rw [kr.2] at ha
      rcases List.mem_append.1 ha with q | q
      · exact .inl (List.mem_append.2 (.inl q))
      · exact (i3 a q).imp (fun z => List.mem_append.2 (.inr z)) id
end
section
variable {α β : Type}
def fIx (x : Str) : List (Str × α) → Option Nat
  | [] => none
  | (k, _) :: r => if k = x then some 0 else (fIx x r).map (· + 1)
theorem fIx_keys {x : Str} : ∀ {l : List (Str × α)} {l' : List (Str × β)}, l.map (·.1) = l'.map (·.1) → fIx x l = fIx x l'
  | [], [], _ => rfl
  | [], _ :: _, h => by simp at h
  | _ :: _, [], h => by simp at h
  | (k, v) :: r, (k', v') :: r', h => by
    simp only [List.map_cons, List.cons.injEq] at h
    obtain ⟨rfl, h⟩ := h
    unfold fIx
    rw [fIx_keys h]
theorem fIx_at {x : Str} : ∀ {l : List (Str × α)} {j : Nat}, fIx x l = some j → ∃ v, l[j]? = some (x, v) ∧ l.lookup x = some v
  | [], _, h => by cases h
  | (k, v) :: r, j, h => by
    unfold fIx at h
    by_cases c : k = x
    · rw [if_pos c] at h
      cases h
      subst c
      exact ⟨v, rfl, by rw [List.lookup_cons]; simp⟩
    · rw [if_neg c] at h
      obtain ⟨i, q, rfl⟩ := Option.map_eq_some_iff.1 h
      obtain ⟨w, a, b⟩ := fIx_at q
      have hb : (x == k) = false := by simpa using fun z : x = k => c z.symm
      exact ⟨w, by simpa using a, by rw [List.lookup_cons, hb]; exact b⟩
theorem fIx_none {x : Str} : ∀ {l : List (Str × α)}, fIx x l = none → l.lookup x = none
  | [], _ => rfl
  | (k, v) :: r, h => by
    unfold fIx at h
    by_cases c : k = x
    · rw [if_pos c] at h; cases h
    · rw [if_neg c] at h
      have hb : (x == k) = false := by simpa using fun z : x = k => c z.symm
      rw [List.lookup_cons, hb]
      exact fIx_none (Option.map_eq_none_iff.1 h)
end
section
variable {K : PySem.W.Frag} {G H G' H' : Hp} {c : Str} {fs : List (Str × Tr)} {a dx : Addr} {ws : List (Str × V)}
/-- an object that stands, opened -/
theorem obj_open {v : V} (h : TreeAt K G H v (.o c fs)) : ∃ a dx ws, v = .ref a ∧ H a = some (.ins (He.ga K c) dx ws) ∧ H dx = some (.own a) ∧ ws.map (·.1) = fs.map (·.1) ∧ TreesAt K G H (ws.map (·.2)) (fs.map (·.2)) ∧ reach H v (.o c fs) = a :: dx :: reachL H (ws.map (·.2)) (fs.map (·.2)) := by
  simp only [TreeAt] at h
  obtain ⟨a, dx, ws, rfl, h1, h2, h3, h4⟩ := h
  refine ⟨a, dx, ws, rfl, h1, h2, h3, (treesK_iff _ _).1 h4, ?_⟩
  simp only [reach, adr, dxOf, insOf, h1, reachK_eq]
  rfl
theorem obj_mk (h1 : H a = some (.ins (He.ga K c) dx ws)) (h2 : H dx = some (.own a)) (h3 : ws.map (·.1) = fs.map (·.1)) (h4 : TreesAt K G H (ws.map (·.2)) (fs.map (·.2))) : TreeAt K G H (.ref a) (.o c fs) ∧ reach H (.ref a) (.o c fs) = a :: dx :: reachL H (ws.map (·.2)) (fs.map (·.2)) := by
  refine ⟨?_, ?_⟩
  · simp only [TreeAt]
    exact ⟨a, dx, ws, rfl, h1, h2, h3, (treesK_iff _ _).2 h4⟩
  · simp only [reach, adr, dxOf, insOf, h1, reachK_eq]
    rfl
/-- a field's part -/
theorem obj_part {v : V} {x : Str} {j : Nat} (h : TreeAt K G H v (.o c fs)) (e : fIx x fs = some j) : ∃ a dx ws w t, v = .ref a ∧ H a = some (.ins (He.ga K c) dx ws) ∧ fs[j]? = some (x, t) ∧ fs.lookup x = some t ∧ ws[j]? = some (x, w) ∧ ws.lookup x = some w ∧ fIx x ws = some j ∧ TreeAt K G H w t ∧ ∀ b, b ∈ reach H w t → b ∈ reach H v (.o c fs) ∧ b ∈ reachL H (ws.map (·.2)) (fs.map (·.2)) := by
  obtain ⟨a, dx, ws, rfl, h1, h2, h3, h4, h5⟩ := obj_open h
  have e' : fIx x ws = some j := (fIx_keys h3).trans e
  obtain ⟨t, q1, q2⟩ := fIx_at e
  obtain ⟨w, p1, p2⟩ := fIx_at e'
  obtain ⟨w', r1, r2, r3⟩ := trees_get h4 (j := j) (t := t) (by rw [List.getElem?_map, q1]; rfl)
  rw [List.getElem?_map, p1] at r1
  cases r1
  exact ⟨a, dx, ws, w, t, rfl, h1, q1, q2, p1, p2, e', r2, fun b hb => ⟨by rw [h5]; exact .tail _ (.tail _ (r3 b hb)), r3 b hb⟩⟩
/-- a field's part is another one now -/
theorem obj_focus {x : Str} {j : Nat} {t t' : Tr} {w w' : V} (h : TreeAt K G H (.ref a) (.o c fs)) (nd : (reach H (.ref a) (.o c fs)).Nodup) (h1 : H a = some (.ins (He.ga K c) dx ws)) (e1 : fs[j]? = some (x, t)) (e2 : ws[j]? = some (x, w)) (e : Ex G G')
    (n1 : H' a = some (.ins (He.ga K c) dx (ws.set j (x, w')))) (n2 : H' dx = H dx) (h' : TreeAt K G' H' w' t') (nd' : (reach H' w' t').Nodup) (sb : ∀ b, b ∈ reach H' w' t' → b ∈ reach H w t ∨ H b = none)
    (k : ∀ b, b ∈ reach H (.ref a) (.o c fs) → b ≠ a → b ∉ reach H w t → H' b = H b) :
    TreeAt K G' H' (.ref a) (.o c (fs.set j (x, t'))) ∧ (reach H' (.ref a) (.o c (fs.set j (x, t')))).Nodup ∧ ∀ b, b ∈ reach H' (.ref a) (.o c (fs.set j (x, t'))) → b ∈ reach H (.ref a) (.o c fs) ∨ H b = none := by
  obtain ⟨a2, dx2, ws2, q0, q1, q2, q3, q4, q5⟩ := obj_open h
  cases q0
  rw [h1] at q1
  cases q1
  rw [q5] at nd k
  obtain ⟨d1, nd⟩ := List.nodup_cons.1 nd
  obtain ⟨d2, nd⟩ := List.nodup_cons.1 nd
  have m1 : (fs.map (·.2))[j]? = some t := by rw [List.getElem?_map, e1]; rfl
  have m2 : (ws.map (·.2))[j]? = some w := by rw [List.getElem?_map, e2]; rfl
  have kk : ∀ b, b ∈ reachL H (ws.map (·.2)) (fs.map (·.2)) → b ∉ reach H w t → H' b = H b := fun b hb hn => k b (.tail _ (.tail _ hb)) (fun z => d1 (by rw [← z]; exact .tail _ hb)) hn
  obtain ⟨f1, f2, f3⟩ := trees_focus e h' nd' sb _ _ j q4 m1 m2 nd kk
  have s1 : (fs.set j (x, t')).map (·.2) = (fs.map (·.2)).set j t' := List.map_set
  have s2 : (ws.set j (x, w')).map (·.2) = (ws.map (·.2)).set j w' := List.map_set
  have s3 : (ws.set j (x, w')).map (·.1) = (fs.set j (x, t')).map (·.1) := by
    rw [List.map_set, List.map_set, q3]
  have hdx : H' dx = some (.own a) := by rw [n2]; exact q2
  obtain ⟨g1, g2⟩ := obj_mk n1 hdx s3 (by rw [s1, s2]; exact f1)
  rw [s1, s2] at g2
  refine ⟨g1, ?_, fun b hb => ?_⟩
  · rw [g2]
    refine List.nodup_cons.2 ⟨fun m => ?_, List.nodup_cons.2 ⟨fun m => ?_, f2⟩⟩
    · rcases List.mem_cons.1 m with z | m
      · exact d1 (by rw [z]; exact .head _)
      · rcases f3 a m with z | z
        · exact d1 (.tail _ z)
        · rw [h1] at z; cases z
    · rcases f3 dx m with z | z
      · exact d2 z
      · rw [q2] at z; cases z
  · rw [g2] at hb
    rw [q5]
    rcases List.mem_cons.1 hb with z | hb
    · exact .inl (by rw [z]; exact .head _)
    · rcases List.mem_cons.1 hb with z | hb
      · exact .inl (by rw [z]; exact .tail _ (.head _))
      · exact (f3 b hb).imp (fun z => .tail _ (.tail _ z)) id
end
end DL
set_option Elab.async false
set_option linter.all false
set_option maxRecDepth 100000
set_option autoImplicit false
set_option maxHeartbeats 4000000
namespace DL
open PySem L2 PySem.Spec PyProof.Rows
def objAt (c : Str) (i : Nat) (env : DEnv) : Option (List (Str × Tr)) := match env[i]? with
  | some (.t (.o c' fs)) => if c' = c then some fs else none
  | some (.u (.o c' fs)) => if c' = c then some fs else none
  | _ => none
theorem objAt_some {c : Str} {i : Nat} {env : DEnv} {fs : List (Str × Tr)} (h : objAt c i env = some fs) : env[i]? = some (.t (.o c fs)) ∨ env[i]? = some (.u (.o c fs)) := by
  unfold objAt at h
  split at h
  · rename_i q
    split at h
    · rename_i e; subst e; cases h; exact .inl q
    · cases h
  · rename_i q
    split at h
    · rename_i e; subst e; cases h; exact .inr q
    · cases h
  · cases h
theorem lookup_ix {α : Type} {x : Str} {l : List (Str × α)} {v : α} (h : l.lookup x = some v) : ∃ j, fIx x l = some j ∧ l[j]? = some (x, v) := by
  cases q : fIx x l with
  | none => rw [fIx_none q] at h; cases h
  | some j =>
    obtain ⟨w, a, b⟩ := fIx_at q
    rw [h] at b
    cases b
    exact ⟨j, rfl, a⟩
section
variable {K : PySem.W.Frag} {env : DEnv} {σ : L2.St} {G H : Hp} {i : Nat} {c x : Str} {fs : List (Str × Tr)}
theorem obj_tsl (R : Rel K env σ G H) (q : objAt c i env = some fs) : ∃ a, σ[i]? = some (some (.ref a)) ∧ TSl K G H (.o c fs) (some (.ref a)) := by
  have go : ∃ o, σ[i]? = some o ∧ TSl K G H (.o c fs) o := by
    rcases objAt_some q with q | q
    · obtain ⟨o, ho, rs⟩ := peekV R q; exact ⟨o, ho, rs⟩
    · obtain ⟨o, ho, rs⟩ := peekV R q; exact ⟨o, ho, rs⟩
  obtain ⟨o, ho, v, rfl, h1, h2, h3⟩ := go
  obtain ⟨a, dx, ws, rfl, _⟩ := obj_open h1
  exact ⟨a, ho, _, rfl, h1, h2, h3⟩
theorem obj_own (q : objAt c i env = some fs) {v : V} (ho : σ[i]? = some (some v)) {b : Addr} (hb : b ∈ reach H v (.o c fs)) : OwnAt env σ H i b := by
  rcases objAt_some q with q | q
  · exact ⟨_, _, q, ho, v, rfl, hb⟩
  · exact ⟨_, _, q, ho, v, rfl, hb⟩
/-- a field, opened -/
theorem fld_open {t : Tr} (R : Rel K env σ G H) (q : objAt c i env = some fs) (e : fs.lookup x = some t) : ∃ a dx ws w j, σ[i]? = some (some (.ref a)) ∧ TSl K G H (.o c fs) (some (.ref a)) ∧ H a = some (.ins (He.ga K c) dx ws) ∧ ws.lookup x = some w ∧ fs[j]? = some (x, t) ∧ ws[j]? = some (x, w) ∧ fIx x ws = some j ∧ fIx x fs = some j ∧ TreeAt K G H w t ∧ ∀ b, b ∈ reach H w t → b ∈ reach H (.ref a) (.o c fs) := by
  obtain ⟨a, ho, v, ev, h1, h2, h3⟩ := obj_tsl R q
  cases ev
  obtain ⟨j, ej, _⟩ := lookup_ix e
  obtain ⟨a2, dx, ws, w, t2, e0, p1, p2, p3, p4, p5, p6, p7, p8⟩ := obj_part h1 ej
  cases e0
  rw [e] at p3
  cases p3
  exact ⟨a, dx, ws, w, j, ho, ⟨_, rfl, h1, h2, h3⟩, p1, p5, p2, p4, p6, ej, p7, fun b hb => (p8 b hb).1⟩
end
def eFldO (c : Str) (i : Nat) (x : Str) : DE := fun env => match objAt c i env with
  | some fs => match fs.lookup x with
    | some (.d d) => .ok d env
    | _ => .stuck
  | none => .stuck
section
variable {X : Cx} {W : WX} {pos : Pos} {c x : Str}
theorem ce_fldO (c : Str) (i : Nat) {s : Str} {p : Pos} (hC : Cls X.K (He.ga X.K c)) (hA : NoAttr X.K (He.ga X.K c) x) (hN : X.N[i]? = some s := by rfl) (hv : Vis X.env.scope s := by first | exact Or.inl rfl | exact Or.inr (Or.inl rfl) | exact Or.inr (Or.inr rfl)) (hd : (s == ("__debug__" : Str)) = false := by decide) (hcd : (s == ("__classdict__" : Str)) = false := by decide)
    (hb : attributeBase (.Name s p) x X.env (eval (.Name s p) X.env) = eval (.Name s p) X.env := by rfl) : CE X W (.Attribute (.Name s p) x pos) (eFldO c i x) := pe_imp (pe_fld (pe_var hN hv hd hcd) hb) fun σ H Q h => by
  obtain ⟨env, G, R, h⟩ := h
  unfold eFldO at h
  cases q : objAt c i env with
  | none => rw [q] at h; exact h.elim
  | some fs =>
    rw [q] at h
    simp only at h
    cases q2 : fs.lookup x with
    | none => rw [q2] at h; exact h.elim
    | some t =>
      rw [q2] at h
      obtain ⟨a, dx, ws, w, j, e1, e2, e3, e4, _, _, _, _, e5, _⟩ := fld_open R q q2
      cases t with
      | d d =>
        simp only [TreeAt] at e5
        exact ⟨_, e1, a, _, dx, ws, w, rfl, e3, hC, hA, e4, h w G H R e5 (Fr.refl _ _ _ _)⟩
      | _ => exact h.elim
end
def lstD : Tr → Option (List D)
  | .l ts => ts.mapM fun t => match t with
    | .d d => some d
    | _ => none
  | _ => none
def dL (xs : List D) : Tr := .l (xs.map Tr.d)
theorem lstD_some : ∀ {ts : List Tr} {xs : List D}, (ts.mapM fun t => match t with | .d d => some d | _ => none) = some xs → ts = xs.map Tr.d
  | [], xs, h => by simp at h; subst h; rfl
  | t :: ts, xs, h => by
    rw [List.mapM_cons] at h
    cases t with
    | d d =>
      simp only [Option.bind_eq_bind, Option.bind_some] at h
      obtain ⟨ys, q, h⟩ := Option.bind_eq_some_iff.1 h
      cases h
      rw [lstD_some q]
      rfl
    | _ => simp at h
theorem trees_dv {K : PySem.W.Frag} {G H : Hp} : ∀ {vs : List V} {xs : List D}, TreesAt K G H vs (xs.map Tr.d) ↔ DvAll K G vs xs
  | [], [] => ⟨fun _ => .nil, fun _ => by simp [TreesAt]⟩
  | [], _ :: _ => ⟨fun h => by simp [TreesAt] at h, fun h => nomatch h⟩
  | _ :: _, [] => ⟨fun h => by simp [TreesAt] at h, fun h => nomatch h⟩
  | v :: vs, x :: xs => by
    simp only [List.map_cons, TreesAt, TreeAt]
    exact ⟨fun h => .cons h.1 (trees_dv.1 h.2), fun h => by cases h with | cons a b => exact ⟨a, trees_dv.2 b⟩⟩
theorem reachD {H : Hp} : ∀ (vs : List V) (xs : List D), reachL H vs (xs.map Tr.d) = []
  | [], [] => by simp [reachL]
  | [], _ :: _ => by simp [reachL]
  | _ :: _, [] => by simp [reachL]
  | v :: vs, x :: xs => by simp only [List.map_cons, reachL, reach, reachD vs xs, List.append_nil]
theorem dL_at {K : PySem.W.Frag} {G H : Hp} {v : V} {xs : List D} : TreeAt K G H v (dL xs) ↔ ∃ a vs, v = .ref a ∧ H a = some (.lst vs) ∧ DvAll K G vs xs := by
  unfold dL
  simp only [TreeAt, trees_dv]
theorem dL_reach {H : Hp} {a : Addr} {xs : List D} : reach H (.ref a) (dL xs) = [a] := by
  unfold dL
  simp only [reach, adr, reachD, List.append_nil]
theorem set_same {α : Type} : ∀ {l : List α} {j : Nat} {a : α}, l[j]? = some a → l.set j a = l
  | [], _, _, h => by simp at h
  | x :: r, 0, a, h => by
    rw [List.getElem?_cons_zero] at h
    cases h
    rfl
  | x :: r, j + 1, a, h => by
    rw [List.getElem?_cons_succ] at h
    rw [List.set_cons_succ, set_same h]
def putTr (i : Nat) (T : Tr) (env : DEnv) : DEnv := match env[i]? with
  | some (.u _) => env.set i (.u T)
  | _ => env.set i (.t T)
section
variable {K : PySem.W.Frag} {env : DEnv} {σ : L2.St} {G H G' H' : Hp} {i : Nat}
theorem Rel.tree {T T' : Tr} {v : V} (R : Rel K env σ G H) (hi : env[i]? = some (.t T) ∨ env[i]? = some (.u T)) (ho : σ[i]? = some (some v)) (e : Ex G G') (ex : Ex G' H') (h' : TreeAt K G' H' v T') (nd' : (reach H' v T').Nodup) (sb : ∀ b, b ∈ reach H' v T' → (b ∈ reach H v T ∨ H b = none) ∧ G' b = none)
    (k : ∀ b, b ∉ reach H v T → H b ≠ none → H' b = H b) (gk : ∀ b, G' b ≠ none → G b ≠ none ∨ H b = none) (dom : ∀ b, H' b = none → H b = none) : Rel K (putTr i T' env) σ G' H' ∧ Fr env σ G H (putTr i T' env) σ G' H' := by
  have go : ∀ (s0 s1 : Sl), env[i]? = some s0 → (∀ b, OwnS H s0 (some v) b ↔ b ∈ reach H v T) → (∀ b, OwnS H' s1 (some v) b ↔ b ∈ reach H' v T') → RS K G' H' s1 (some v) → (s1.pk ≠ 0 → s0.pk = s1.pk) → Rel K (env.set i s1) σ G' H' ∧ Fr env σ G H (env.set i s1) σ G' H' := fun s0 s1 q o0 o1 rs pk => by
    have li : i < env.length := (List.getElem?_eq_some_iff.mp q).1
    have oi : ∀ b, b ∈ reach H v T → OwnAt env σ H i b := fun b hb => ⟨_, _, q, ho, (o0 b).2 hb⟩
    have kk : ∀ j b, j ≠ i → OwnAt env σ H j b → H' b = H b ∧ G' b = none := fun j b ne w => by
      obtain ⟨t1, t2⟩ := w.there R
      refine ⟨k b (fun z => ne (R.dist j i b w (oi b z))) t1, ?_⟩
      cases z : G' b with
      | none => rfl
      | some u =>
        rcases gk b (by rw [z]; exact fun w => by cases w) with w | w
        · exact absurd t2 w
        · exact absurd w t1
    refine ⟨(R.put li rfl ho (fun _ _ => rfl) ex e kk rs fun b w j ne w2 => ?_).1, Fr.put R li ho (fun _ _ => rfl) e kk (fun b u hb hn => ?_) dom (fun b hb => ?_) (fun b w => ?_) fun z => ⟨rfl, s0, q, pk z⟩⟩
    · rcases (sb b ((o1 b).1 w)).1 with z | z
      · exact ne (R.dist j i b w2 (oi b z))
      · exact (w2.there R).1 z
    · rw [k b (fun z => hn ⟨i, oi b z⟩) (by rw [hb]; exact fun z => by cases z)]
      exact hb
    · rcases gk b hb with w | w
      · exact .inl w
      · exact .inr (.inl w)
    · rcases (sb b ((o1 b).1 w)).1 with z | z
      · exact .inl ⟨i, oi b z⟩
      · exact .inr z
  unfold putTr
  rcases hi with q | q
  · rw [q]
    exact go (.t T) (.t T') q (fun b => ⟨fun ⟨w, e, h⟩ => by cases e; exact h, fun h => ⟨v, rfl, h⟩⟩) (fun b => ⟨fun ⟨w, e, h⟩ => by cases e; exact h, fun h => ⟨v, rfl, h⟩⟩) ⟨v, rfl, h', nd', fun b hb => (sb b hb).2⟩ fun z => absurd rfl z
  · rw [q]
    exact go (.u T) (.u T') q (fun b => ⟨fun ⟨w, e, h⟩ => by cases e; exact h, fun h => ⟨v, rfl, h⟩⟩) (fun b => ⟨fun ⟨w, e, h⟩ => by cases e; exact h, fun h => ⟨v, rfl, h⟩⟩) ⟨v, rfl, h', nd', fun b hb => (sb b hb).2⟩ fun _ => rfl
/-- the list of a field holds others -/
theorem fld_put {c x : Str} {fs : List (Str × Tr)} {xs ys : List D} {a l dx : Addr} {j : Nat} {ws : List (Str × V)} {vs vs' : List V} (R : Rel K env σ G H) (q : objAt c i env = some fs) (ho : σ[i]? = some (some (.ref a))) (h : TSl K G H (.o c fs) (some (.ref a))) (h1 : H a = some (.ins (He.ga K c) dx ws)) (e1 : fs[j]? = some (x, dL xs)) (e2 : ws[j]? = some (x, .ref l)) (hl : H l = some (.lst vs)) (dv : DvAll K G vs' ys) :
    Rel K (putTr i (.o c (fs.set j (x, dL ys))) env) σ G (upd H l (.lst vs')) ∧ Fr env σ G H (putTr i (.o c (fs.set j (x, dL ys))) env) σ G (upd H l (.lst vs')) := by
  obtain ⟨v, ev, t1, t2, t3⟩ := h
  cases ev
  obtain ⟨a2, dx2, ws2, q0, q1, q2, q3, q4, q5⟩ := obj_open t1
  cases q0
  rw [h1] at q1
  cases q1
  obtain ⟨w, m1, m2, m3⟩ := trees_get q4 (j := j) (t := dL xs) (by rw [List.getElem?_map, e1]; rfl)
  rw [List.getElem?_map, e2] at m1
  cases m1
  have lr : l ∈ reachL H (ws.map (·.2)) (fs.map (·.2)) := m3 l (by rw [dL_reach]; exact .head _)
  have t2' := t2
  rw [q5] at t2'
  obtain ⟨n1, n2⟩ := List.nodup_cons.1 t2'
  have la : l ≠ a := fun z => n1 (by rw [← z]; exact .tail _ lr)
  have ld : dx ≠ l := fun z => (List.nodup_cons.1 n2).1 (by rw [z]; exact lr)
  have lG : G l = none := t3 l (by rw [q5]; exact .tail _ (.tail _ lr))
  have sws : ws.set j (x, .ref l) = ws := set_same e2
  have tn : TreeAt K G (upd H l (.lst vs')) (.ref l) (dL ys) := dL_at.2 ⟨l, vs', rfl, upd_same, dv⟩
  obtain ⟨f1, f2, f3⟩ := obj_focus (t := dL xs) (t' := dL ys) (w := .ref l) (w' := .ref l) (H' := upd H l (.lst vs')) t1 t2 h1 e1 e2 (Ex.refl G) (by rw [upd_ne (Ne.symm la), sws]; exact h1) (upd_ne ld) tn (by rw [dL_reach]; simp) (fun b hb => by rw [dL_reach] at hb; rw [dL_reach]; exact .inl hb) fun b _ _ hb => upd_ne fun z => hb (by rw [dL_reach, z]; exact .head _)
  refine R.tree (objAt_some q) ho (Ex.refl G) (fun b u hb => ?_) f1 f2 (fun b hb => ⟨f3 b hb, ?_⟩) (fun b hb _ => upd_ne fun z => hb (by rw [q5, z]; exact .tail _ (.tail _ lr))) (fun b hb => .inl hb) fun b hb => ?_
  · rw [upd_ne (fun z => by subst z; rw [lG] at hb; cases hb)]
    exact R.ex b u hb
  · rcases f3 b hb with z | z
    · exact t3 b z
    · exact R.ex.none z
  · by_cases z : b = l
    · subst z; rw [upd_same] at hb; cases hb
    · rw [upd_ne z] at hb; exact hb
end
end DL
set_option Elab.async false
set_option linter.all false
set_option maxRecDepth 100000
set_option autoImplicit false
set_option maxHeartbeats 4000000
namespace DL
open PySem L2 PySem.Spec PyProof.Rows
section
variable {K : PySem.W.Frag} {mg : Str → Option Value} {W : WX} {env e1 : DEnv} {σ : L2.St} {G H G1 H1 : Hp} {i : Nat} {s : Sl}
theorem own_no {b : Addr} (li : i < env.length) {j : Nat} : OwnAt (env.set i .no) σ H j b ↔ j ≠ i ∧ OwnAt env σ H j b := by
  constructor
  · rintro ⟨s, o, e1, e2, w⟩
    by_cases z : j = i
    · subst z
      rw [List.getElem?_set_self li] at e1
      cases e1
      exact w.elim
    · rw [List.getElem?_set_ne (Ne.symm z)] at e1
      exact ⟨z, s, o, e1, e2, w⟩
  · rintro ⟨z, s, o, e1, e2, w⟩
    exact ⟨s, o, by rw [List.getElem?_set_ne (Ne.symm z)]; exact e1, e2, w⟩
/-- out of sight -/
theorem Rel.hide (R : Rel K env σ G H) (hi : env[i]? = some s) : Rel K (env.set i .no) σ G H := by
  have li : i < env.length := (List.getElem?_eq_some_iff.mp hi).1
  obtain ⟨o, ho, _⟩ := peekV R hi
  exact (R.put (s1 := .no) li rfl ho (fun _ _ => rfl) R.ex (Ex.refl _) (fun j a _ w => ⟨rfl, (w.there R).2⟩) trivial fun _ w => w.elim).1
/-- and back again: nothing of it was changed -/
theorem Rel.back (R : Rel K env σ G H) (hi : env[i]? = some s) (R1 : Rel K e1 σ G1 H1) (F : Fr (env.set i .no) σ G H e1 σ G1 H1) : Rel K (e1.set i s) σ G1 H1 ∧ Fr env σ G H (e1.set i s) σ G1 H1 ∧ ∀ b, OwnAt env σ H i b → H1 b = H b ∧ G1 b = none := by
  have li : i < env.length := (List.getElem?_eq_some_iff.mp hi).1
  obtain ⟨o, ho, rs⟩ := peekV R hi
  have no : ∀ b, OwnAt env σ H i b → ¬ Own (env.set i .no) σ H b := fun b w ⟨j, w2⟩ => by
    obtain ⟨ne, w3⟩ := (own_no li).1 w2
    exact ne (R.dist j i b w3 w)
  have up : ∀ b, Own (env.set i .no) σ H b → Own env σ H b := fun b ⟨j, w⟩ => ⟨j, ((own_no li).1 w).2⟩
  have kp : ∀ b, OwnAt env σ H i b → H1 b = H b ∧ G1 b = none := fun b w => by
    obtain ⟨t1, t2⟩ := w.there R
    constructor
    · cases q : H b with
      | none => exact absurd q t1
      | some u => exact F.keep b u q (no b w)
    · cases q : G1 b with
      | none => rfl
      | some u =>
        rcases F.fresh b (by rw [q]; exact fun z => by cases z) with z | z | z
        · exact absurd t2 z
        · exact absurd z t1
        · exact absurd z (no b w)
  have oi : ∀ b, OwnS H s o b → OwnAt env σ H i b := fun b w => ⟨s, o, hi, ho, w⟩
  obtain ⟨m1, m2⟩ := rs.move (G' := G1) (H' := H1) F.gg (fun b w => (kp b (oi b w)).1) fun b w => (kp b (oi b w)).2
  have l1 : i < e1.length := by
    have a := R.len
    have b := R1.len
    omega
  have dis : ∀ b, OwnS H1 s o b → ∀ j, j ≠ i → ¬ OwnAt e1 σ H1 j b := fun b w j ne w2 => by
    have w1 := oi b ((m2 b).1 w)
    rcases F.own b ⟨j, w2⟩ with z | z
    · exact no b w1 z
    · exact (w1.there R).1 z
  obtain ⟨Rn, o1, o2⟩ := R1.put (s1 := s) l1 rfl ho (fun _ _ => rfl) R1.ex (Ex.refl _) (fun j a _ w => ⟨rfl, (w.there R1).2⟩) m1 dis
  refine ⟨Rn, ⟨F.gg, fun a u ha hn => F.keep a u ha fun z => hn (up a z), F.dom, fun a ha => ?_, fun a ⟨j, w⟩ => ?_, fun j s' h n => ?_⟩, kp⟩
  · rcases F.fresh a ha with z | z | z
    · exact .inl z
    · exact .inr (.inl z)
    · exact .inr (.inr (up a z))
  · by_cases z : j = i
    · subst z
      exact .inl ⟨j, oi a ((m2 a).1 ((o1 a).1 w))⟩
    · rcases F.own a ⟨j, (o2 j a z).1 w⟩ with q | q
      · exact .inl (up a q)
      · exact .inr q
  · by_cases z : j = i
    · subst z
      rw [List.getElem?_set_self l1] at h
      cases h
      exact ⟨rfl, _, hi, rfl⟩
    · rw [List.getElem?_set_ne (Ne.symm z)] at h
      obtain ⟨q1, s0, q2, q3⟩ := F.par j s' h n
      rw [List.getElem?_set_ne (Ne.symm z)] at q2
      exact ⟨q1, s0, q2, q3⟩
def hidE (i : Nat) (de : DE) : DE := fun env => match env[i]? with
  | some s => match de (env.set i .no) with
    | .ok d e1 => .ok d (e1.set i s)
    | .ex x e1 => .ex x (e1.set i s)
    | .stuck => .stuck
  | none => .stuck
/-- an expression out of the slot's sight, then the rest -/
theorem E_hide {de : DE} {f : D → DEnv → Rs D} {Q : VK} {goal : VK} (R : Rel K env σ G H) (hi : env[i]? = some s) (h : RunE K mg W env σ G H ((hidE i de env).bind f) Q)
    (k : ∀ (d : D) (e1 : DEnv) (y : V) (G1 H1 : Hp), Rel K (e1.set i s) σ G1 H1 → Dv K G1 y d → Fr env σ G H (e1.set i s) σ G1 H1 → (∀ b, OwnAt env σ H i b → H1 b = H b ∧ G1 b = none) → RunE K mg W (e1.set i s) σ G1 H1 (f d (e1.set i s)) Q → goal y H1) : rdE K mg W de σ H goal := by
  refine ⟨_, G, R.hide hi, ?_⟩
  unfold hidE at h
  rw [hi] at h
  simp only at h
  cases q : de (env.set i .no) with
  | stuck => rw [q] at h; exact h.elim
  | ex x e1 =>
    rw [q] at h
    intro cls dd G' H' a b c
    obtain ⟨r1, r2, _⟩ := R.back hi b c
    exact h cls dd G' H' a r1 r2
  | ok d e1 =>
    rw [q] at h
    intro v G' H' b dv c
    obtain ⟨r1, r2, r3⟩ := R.back hi b c
    exact k d e1 v G' H' r1 dv r2 r3 (RunE.shift h r2)
end
def lstAt (c : Str) (i : Nat) (x : Str) (env : DEnv) : Option (List (Str × Tr) × Nat × List D) := match objAt c i env with
  | some fs => match fIx x fs with
    | some j => match fs[j]? with
      | some p => (lstD p.2).map fun xs => (fs, j, xs)
      | none => none
    | none => none
  | none => none
section
variable {K : PySem.W.Frag} {mg : Str → Option Value} {W : WX} {env : DEnv} {σ : L2.St} {G H : Hp} {i j : Nat} {c x : Str} {fs : List (Str × Tr)} {xs : List D}
theorem lstAt_some (h : lstAt c i x env = some (fs, j, xs)) : objAt c i env = some fs ∧ fIx x fs = some j ∧ fs[j]? = some (x, dL xs) ∧ fs.lookup x = some (dL xs) := by
  unfold lstAt at h
  cases q : objAt c i env with
  | none => rw [q] at h; cases h
  | some fs' =>
    rw [q] at h
    simp only at h
    cases q2 : fIx x fs' with
    | none => rw [q2] at h; cases h
    | some j' =>
      rw [q2] at h
      simp only at h
      obtain ⟨t, q3, q4⟩ := fIx_at q2
      rw [q3] at h
      obtain ⟨ys, q5, q6⟩ := Option.map_eq_some_iff.1 h
      cases q6
      have : t = dL xs := by
        cases t with
        | l ts => unfold dL; rw [lstD_some q5]
        | _ => cases q5
      subst this
      exact ⟨rfl, q2, q3, q4⟩
/-- the field's list, opened -/
theorem lst_open (R : Rel K env σ G H) (h : lstAt c i x env = some (fs, j, xs)) : ∃ a dx ws l vs, σ[i]? = some (some (.ref a)) ∧ TSl K G H (.o c fs) (some (.ref a)) ∧ H a = some (.ins (He.ga K c) dx ws) ∧ ws.lookup x = some (.ref l) ∧ ws[j]? = some (x, .ref l) ∧ H l = some (.lst vs) ∧ DvAll K G vs xs ∧ l ∈ reach H (.ref a) (.o c fs) ∧ a ∈ reach H (.ref a) (.o c fs) ∧ G l = none := by
  obtain ⟨q, qj, q1, q2⟩ := lstAt_some h
  obtain ⟨a, dx, ws, w, j', e1, e2, e3, e4, e5, e6, e7, e8, e9, e10⟩ := fld_open R q q2
  rw [qj] at e8
  cases e8
  obtain ⟨l, vs, rfl, hl, dv⟩ := dL_at.1 e9
  have lm := e10 l (by rw [dL_reach]; exact .head _)
  obtain ⟨v, ev, t1, t2, t3⟩ := e2
  cases ev
  obtain ⟨a2, dx2, ws2, q0, _, _, _, _, q5⟩ := obj_open t1
  cases q0
  exact ⟨a, dx, ws, l, vs, e1, ⟨_, rfl, t1, t2, t3⟩, e3, e4, e6, hl, dv, lm, by rw [q5]; exact .head _, t3 l lm⟩
theorem lstAt_set {e1 : DEnv} {s : Sl} (hi : env[i]? = some s) (l1 : i < e1.length) : lstAt c i x (e1.set i s) = lstAt c i x env := by
  unfold lstAt objAt
  rw [List.getElem?_set_self l1, hi]
theorem lstAt_slot (h : lstAt c i x env = some (fs, j, xs)) : ∃ s, env[i]? = some s := by
  rcases objAt_some (lstAt_some h).1 with q | q
  · exact ⟨_, q⟩
  · exact ⟨_, q⟩
/-- what the method makes of the list -/
theorem fmo_ok {r : V → List V → Hp → VK → Prop} {f : List D → List D → Option (D × List D)} (o : OwnM K r f) {args : List D} {ws0 : List V} {l : Addr} {Q : VK} (R : Rel K env σ G H) (h : lstAt c i x env = some (fs, j, xs)) (hl : ∃ a dx ws, σ[i]? = some (some (.ref a)) ∧ H a = some (.ins (He.ga K c) dx ws) ∧ ws.lookup x = some (.ref l)) (dw : DvAll K G ws0 args)
    (h1 : RunE K mg W env σ G H (match f xs args with
      | some (z, ys) => .ok z (putTr i (.o c (fs.set j (x, dL ys))) env)
      | none => .stuck) Q) : r (.ref l) ws0 H Q := by
  obtain ⟨q, qj, q1, q2⟩ := lstAt_some h
  obtain ⟨a, dx, ws, l2, vs, e1, e2, e3, e4, e5, e6, e7, e8, e9, e10⟩ := lst_open R h
  obtain ⟨a', dx', ws', p1, p2, p3⟩ := hl
  rw [e1] at p1
  cases p1
  rw [e3] at p2
  cases p2
  rw [e4] at p3
  cases p3
  cases q3 : f xs args with
  | none => rw [q3] at h1; exact h1.elim
  | some p =>
    obtain ⟨z, ys⟩ := p
    rw [q3] at h1
    refine o _ vs ws0 xs args z ys G H Q e6 e7 dw R.ex e10 q3 fun v vs' dz dvs => ?_
    obtain ⟨r1, r2⟩ := fld_put R q e1 e2 e3 q1 e5 e6 dvs
    exact h1 v G _ r1 dz r2
end
def eFM1 (c : Str) (i : Nat) (x : Str) (f : List D → List D → Option (D × List D)) (de : DE) : DE := fun env => match lstAt c i x env with
  | some (fs, j, xs) => (hidE i de env).bind fun d e1 => match f xs [d] with
    | some (z, ys) => .ok z (putTr i (.o c (fs.set j (x, dL ys))) e1)
    | none => .stuck
  | none => .stuck
def eFM0 (c : Str) (i : Nat) (x : Str) (f : List D → List D → Option (D × List D)) : DE := fun env => match lstAt c i x env with
  | some (fs, j, xs) => match f xs [] with
    | some (z, ys) => .ok z (putTr i (.o c (fs.set j (x, dL ys))) env)
    | none => .stuck
  | none => .stuck
section
variable {X : Cx} {W : WX} {pos fpos : Pos} {c x : Str} {e : Expr} {de : DE}
theorem ce_fm1 (c : Str) (i : Nat) {s name : Str} {p apos : Pos} {id : String} {r : V → List V → Hp → VK → Prop} {f : List D → List D → Option (D × List D)} (hC : Cls X.K (He.ga X.K c)) (hA : NoAttr X.K (He.ga X.K c) x) (o : OwnM X.K r f) (slot : Slot "list" name id) (hty : typeOf (.builtin id) = pure (.type "method_descriptor")) (hm : MtR X id r) (he : CE X W e de)
    (hN : X.N[i]? = some s := by rfl) (hv : Vis X.env.scope s := by first | exact Or.inl rfl | exact Or.inr (Or.inl rfl) | exact Or.inr (Or.inr rfl)) (hd : (s == ("__debug__" : Str)) = false := by decide) (hcd : (s == ("__classdict__" : Str)) = false := by decide)
    (hb : attributeBase (.Name s p) x X.env (eval (.Name s p) X.env) = eval (.Name s p) X.env := by rfl)
    (hbase : attributeBase (.Attribute (.Name s p) x fpos) name X.env (eval (.Attribute (.Name s p) x fpos) X.env) = eval (.Attribute (.Name s p) x fpos) X.env := by rfl)
    (hfew : ((backTo pos (starEach [e] X.env)).all (fun x => !x.1) && (backToKw pos (keywordEach [] X.env)).all (fun x => x.1.isSome)
      && decide ([e].length + ([] : List Keyword).length + (if ([] : List Keyword).isEmpty then 0 else 1) < 30)) = true := by rfl)
    (hline : (apos.endLine == pos.line) = true := by rfl) (hs : starEach [e] X.env = (false, eval e X.env) :: starEach [] X.env := by rfl) (hplain : (backTo pos (starEach [] X.env)).any (·.1) = false := by rfl) :
    CE X W (.Call (.Attribute (.Attribute (.Name s p) x fpos) name apos) [e] [] pos) (eFM1 c i x f de) := pe_imp (pe_bm PySem.F.plainAttrs_list slot hty hm (pe_fld (pe_var hN hv hd hcd) hb) (pa_cons he pa_nil hs) hbase hfew hline hs hplain) fun σ H Q h => by
  obtain ⟨env, G, R, h⟩ := h
  unfold eFM1 at h
  cases q : lstAt c i x env with
  | none => rw [q] at h; exact h.elim
  | some p =>
    obtain ⟨fs, j, xs⟩ := p
    rw [q] at h
    obtain ⟨a, dx, ws, l, vs, e1, e2, e3, e4, e5, e6, e7, e8, e9, e10⟩ := lst_open R q
    obtain ⟨s0, hi⟩ := lstAt_slot q
    refine ⟨_, e1, a, _, dx, ws, .ref l, rfl, e3, hC, hA, e4, .inl ⟨rfl, _, .inl (.inl e6)⟩, E_hide R hi h fun d e1' y G1 H1 R1 dv F1 kp h1 => ?_⟩
    have l1 : i < (e1'.set i s0).length := by
      have a1 := R1.len
      have a2 := R.len
      have := (List.getElem?_eq_some_iff.mp hi).1
      omega
    have q' : lstAt c i x (e1'.set i s0) = some (fs, j, xs) := by rw [lstAt_set hi (by simpa using l1)]; exact q
    have oa : OwnAt env σ H i a := obj_own (lstAt_some q).1 e1 e9
    exact fmo_ok o R1 q' ⟨a, dx, ws, e1, by rw [(kp a oa).1]; exact e3, e4⟩ (.cons dv .nil) h1
theorem ce_fm0 (c : Str) (i : Nat) {s name : Str} {p apos : Pos} {id : String} {r : V → List V → Hp → VK → Prop} {f : List D → List D → Option (D × List D)} (hC : Cls X.K (He.ga X.K c)) (hA : NoAttr X.K (He.ga X.K c) x) (o : OwnM X.K r f) (slot : Slot "list" name id) (hty : typeOf (.builtin id) = pure (.type "method_descriptor")) (hm : MtR X id r)
    (hN : X.N[i]? = some s := by rfl) (hv : Vis X.env.scope s := by first | exact Or.inl rfl | exact Or.inr (Or.inl rfl) | exact Or.inr (Or.inr rfl)) (hd : (s == ("__debug__" : Str)) = false := by decide) (hcd : (s == ("__classdict__" : Str)) = false := by decide)
    (hb : attributeBase (.Name s p) x X.env (eval (.Name s p) X.env) = eval (.Name s p) X.env := by rfl)
    (hbase : attributeBase (.Attribute (.Name s p) x fpos) name X.env (eval (.Attribute (.Name s p) x fpos) X.env) = eval (.Attribute (.Name s p) x fpos) X.env := by rfl) (hline : (apos.endLine == pos.line) = true := by rfl) :
    CE X W (.Call (.Attribute (.Attribute (.Name s p) x fpos) name apos) [] [] pos) (eFM0 c i x f) := pe_imp (pe_bm0 PySem.F.plainAttrs_list slot hty hm (pe_fld (pe_var hN hv hd hcd) hb) hbase hline) fun σ H Q h => by
  obtain ⟨env, G, R, h⟩ := h
  unfold eFM0 at h
  cases q : lstAt c i x env with
  | none => rw [q] at h; exact h.elim
  | some p =>
    obtain ⟨fs, j, xs⟩ := p
    rw [q] at h
    obtain ⟨a, dx, ws, l, vs, e1, e2, e3, e4, e5, e6, e7, e8, e9, e10⟩ := lst_open R q
    exact ⟨_, e1, a, _, dx, ws, .ref l, rfl, e3, hC, hA, e4, .inl ⟨rfl, _, .inl (.inl e6)⟩, fmo_ok o R q ⟨a, dx, ws, e1, e3, e4⟩ .nil h⟩
end
def eFIx (c : Str) (i : Nat) (x : Str) (dk : DE) : DE := fun env => match lstAt c i x env with
  | some (fs, j, xs) => (hidE i dk env).bind fun k e1 => put (dIx (.list xs) k) e1
  | none => .stuck
section
variable {X : Cx} {W : WX} {pos fpos : Pos} {c x : Str} {b : Expr} {db : DE}
theorem ce_fix (c : Str) (i : Nat) {s : Str} {p : Pos} (hC : Cls X.K (He.ga X.K c)) (hA : NoAttr X.K (He.ga X.K c) x) (hk : CE X W b db) (hs : PlainIx b) (hN : X.N[i]? = some s := by rfl) (hv : Vis X.env.scope s := by first | exact Or.inl rfl | exact Or.inr (Or.inl rfl) | exact Or.inr (Or.inr rfl)) (hd : (s == ("__debug__" : Str)) = false := by decide)
    (hcd : (s == ("__classdict__" : Str)) = false := by decide) (hb : attributeBase (.Name s p) x X.env (eval (.Name s p) X.env) = eval (.Name s p) X.env := by rfl) : CE X W (.Subscript (.Attribute (.Name s p) x fpos) b pos) (eFIx c i x db) := pe_imp (pe_ix ix_seq (pe_fld (pe_var hN hv hd hcd) hb) hk hs) fun σ H Q h => by
  obtain ⟨env, G, R, h⟩ := h
  unfold eFIx at h
  cases q : lstAt c i x env with
  | none => rw [q] at h; exact h.elim
  | some p =>
    obtain ⟨fs, j, xs⟩ := p
    rw [q] at h
    obtain ⟨a, dx, ws, l, vs, e1, e2, e3, e4, e5, e6, e7, e8, e9, e10⟩ := lst_open R q
    obtain ⟨s0, hi⟩ := lstAt_slot q
    refine ⟨_, e1, a, _, dx, ws, .ref l, rfl, e3, hC, hA, e4, E_hide R hi h fun d e1' y G1 H1 R1 dv F1 kp h1 => ?_⟩
    have l1 : i < (e1'.set i s0).length := by
      have a1 := R1.len
      have a2 := R.len
      have := (List.getElem?_eq_some_iff.mp hi).1
      omega
    have q' : lstAt c i x (e1'.set i s0) = some (fs, j, xs) := by rw [lstAt_set hi (by simpa using l1)]; exact q
    have ol : OwnAt env σ H i l := obj_own (lstAt_some q).1 e1 e8
    obtain ⟨z, ez, kk⟩ := RunE.put R1 h1
    have g1 : H1 l = some (.lst vs) := by rw [(kp l ol).1]; exact e6
    cases d with
    | int n =>
      cases dv
      obtain ⟨u, hu, du⟩ := atI_dv (Dv.monoAll F1.gg _ _ e7) ez
      exact .inl ⟨l, vs, n, u, rfl, rfl, .inl (.inl g1), hu, kk u G1 H1 du (Grow.refl R1.ex)⟩
    | none => cases ez
    | bool _ => cases ez
    | str _ => cases ez
    | list _ => cases ez
    | tuple _ => cases ez
    | dict _ => cases ez
end
end DL
set_option Elab.async false
set_option linter.all false
set_option maxRecDepth 100000
set_option autoImplicit false
set_option maxHeartbeats 4000000
namespace DL
open PySem L2 PySem.Spec PyProof.Rows
def eFLen (c : Str) (i : Nat) (x : Str) : DE := fun env => match lstAt c i x env with
  | some (fs, j, xs) => .ok (.int xs.length) env
  | none => .stuck
section
variable {X : Cx} {W : WX} {pos fpos : Pos} {c x : Str} {b e : Expr} {db de : DE}
theorem ce_flen (c : Str) (i : Nat) {s : Str} {p p2 : Pos} (hC : Cls X.K (He.ga X.K c)) (hA : NoAttr X.K (He.ga X.K c) x) (hm : X.mg "len" = none) (hN : X.N[i]? = some s := by rfl) (hv : Vis X.env.scope s := by first | exact Or.inl rfl | exact Or.inr (Or.inl rfl) | exact Or.inr (Or.inr rfl)) (hd : (s == ("__debug__" : Str)) = false := by decide)
    (hcd : (s == ("__classdict__" : Str)) = false := by decide) (hb : attributeBase (.Name s p) x X.env (eval (.Name s p) X.env) = eval (.Name s p) X.env := by rfl)
    (hg : Gl X "len" := by rfl) (hs : starEach [.Attribute (.Name s p) x fpos] X.env = (false, eval (.Attribute (.Name s p) x fpos) X.env) :: starEach [] X.env := by rfl) (hpl : (backTo pos (starEach [] X.env)).any (·.1) = false := by rfl) : CE X W (.Call (.Name "len" p2) [.Attribute (.Name s p) x fpos] [] pos) (eFLen c i x) :=
  pe_imp (pe_callB call_len_seq hg hm PySem.boot_len (pa_cons (pe_fld (pe_var hN hv hd hcd) hb) pa_nil hs) (by decide) (by decide) hs hpl) fun σ H Q h => by
    obtain ⟨env, G, R, h⟩ := h
    unfold eFLen at h
    cases q : lstAt c i x env with
    | none => rw [q] at h; exact h.elim
    | some p =>
      obtain ⟨fs, j, xs⟩ := p
      rw [q] at h
      obtain ⟨a, dx, ws, l, vs, e1, e2, e3, e4, e5, e6, e7, e8, e9, e10⟩ := lst_open R q
      exact ⟨_, e1, a, _, dx, ws, .ref l, rfl, e3, hC, hA, e4, l, vs, rfl, .inl (.inl (.inl e6)), by rw [e7.length]; exact h _ G H R (.int _) (Fr.refl _ _ _ _)⟩
end
def putFt (x : Str) (t : Tr) : List (Str × Tr) → List (Str × Tr)
  | [] => [(x, t)]
  | (k, u) :: r => if k = x then (k, t) :: r else (k, u) :: putFt x t r
section
variable {K : PySem.W.Frag} {G H G' H' : Hp} {c x : Str}
theorem put_keys (t : Tr) (w : V) : ∀ {fs : List (Str × Tr)} {ws : List (Str × V)}, ws.map (·.1) = fs.map (·.1) → (putF x w ws).map (·.1) = (putFt x t fs).map (·.1)
  | [], [], _ => rfl
  | [], _ :: _, h => by simp at h
  | _ :: _, [], h => by simp at h
  | (k, u) :: r, (k', u') :: r', h => by
    simp only [List.map_cons, List.cons.injEq] at h
    obtain ⟨rfl, h⟩ := h
    unfold putF putFt
    by_cases z : k' = x
    · rw [if_pos z, if_pos z]
      simp only [List.map_cons, h]
    · rw [if_neg z, if_neg z]
      simp only [List.map_cons, put_keys t w h]
/-- one of the parts is another one, or one more comes; all else stays -/
theorem trees_put (N : Addr → Prop) (e : Ex G G') {t' : Tr} {v' : V} (h' : TreeAt K G' H' v' t') (nd' : (reach H' v' t').Nodup) (sb : ∀ a, a ∈ reach H' v' t' → N a) :
    ∀ (fs : List (Str × Tr)) (ws : List (Str × V)), ws.map (·.1) = fs.map (·.1) → TreesAt K G H (ws.map (·.2)) (fs.map (·.2)) → (reachL H (ws.map (·.2)) (fs.map (·.2))).Nodup → (∀ a, a ∈ reachL H (ws.map (·.2)) (fs.map (·.2)) → H' a = H a ∧ ¬ N a) →
      TreesAt K G' H' ((putF x v' ws).map (·.2)) ((putFt x t' fs).map (·.2)) ∧ (reachL H' ((putF x v' ws).map (·.2)) ((putFt x t' fs).map (·.2))).Nodup ∧ ∀ a, a ∈ reachL H' ((putF x v' ws).map (·.2)) ((putFt x t' fs).map (·.2)) → a ∈ reachL H (ws.map (·.2)) (fs.map (·.2)) ∨ N a
  | [], [], _, _, _, _ => by
    unfold putF putFt
    simp only [List.map_cons, List.map_nil, TreesAt, reachL, List.append_nil, and_true]
    exact ⟨h', nd', fun a ha => .inr (sb a ha)⟩
  | [], _ :: _, h, _, _, _ => by simp at h
  | _ :: _, [], h, _, _, _ => by simp at h
  | (k, u) :: r, (k', u') :: r', h, ht, nd, kp => by
    simp only [List.map_cons, List.cons.injEq] at h
    obtain ⟨rfl, h⟩ := h
    simp only [List.map_cons, TreesAt, reachL] at ht nd kp ⊢
    obtain ⟨n1, n2, n3⟩ := List.nodup_append.1 nd
    unfold putF putFt
    by_cases z : k' = x
    · rw [if_pos z, if_pos z]
      simp only [List.map_cons, TreesAt, reachL]
      have kr := trees_keep (H' := H') e _ _ ht.2 fun a ha => (kp a (List.mem_append.2 (.inr ha))).1
      refine ⟨⟨h', kr.1⟩, ?_, fun a ha => ?_⟩
      · rw [kr.2]
        refine List.nodup_append.2 ⟨nd', n2, fun a ha b hb z => ?_⟩
        subst z
        exact (kp a (List.mem_append.2 (.inr hb))).2 (sb a ha)
      · rw [kr.2] at ha
        rcases List.mem_append.1 ha with q | q
        · exact .inr (sb a q)
        · exact .inl (List.mem_append.2 (.inr q))
    · rw [if_neg z, if_neg z]
      simp only [List.map_cons, TreesAt, reachL]
      have kr := tree_keep (H' := H') e u u' ht.1 fun a ha => (kp a (List.mem_append.2 (.inl ha))).1
      obtain ⟨i1, i2, i3⟩ := trees_put N e h' nd' sb r r' h ht.2 n2 fun a ha => kp a (List.mem_append.2 (.inr ha))
      refine ⟨⟨kr.1, i1⟩, ?_, fun a ha => ?_⟩
      · rw [kr.2]
        refine List.nodup_append.2 ⟨n1, i2, fun a ha b hb z => ?_⟩
        subst z
        rcases i3 a hb with q | q
        · exact n3 a ha a q rfl
        · exact (kp a (List.mem_append.2 (.inl ha))).2 q
      · rw [kr.2] at ha
        rcases List.mem_append.1 ha with q | q
        · exact .inl (List.mem_append.2 (.inl q))
        · exact (i3 a q).imp (fun z => List.mem_append.2 (.inr z)) id
/-- a field is put: what is put is new, or stands -/
theorem obj_put (N : Addr → Prop) {fs : List (Str × Tr)} {a dx : Addr} {ws : List (Str × V)} {t' : Tr} {w' : V} (h : TreeAt K G H (.ref a) (.o c fs)) (nd : (reach H (.ref a) (.o c fs)).Nodup) (h1 : H a = some (.ins (He.ga K c) dx ws)) (e : Ex G G')
    (n1 : H' a = some (.ins (He.ga K c) dx (putF x w' ws))) (h' : TreeAt K G' H' w' t') (nd' : (reach H' w' t').Nodup) (sb : ∀ b, b ∈ reach H' w' t' → N b) (nN : ∀ b, b ∈ reach H (.ref a) (.o c fs) → ¬ N b)
    (k : ∀ b, b ∈ reach H (.ref a) (.o c fs) → b ≠ a → H' b = H b) :
    TreeAt K G' H' (.ref a) (.o c (putFt x t' fs)) ∧ (reach H' (.ref a) (.o c (putFt x t' fs))).Nodup ∧ ∀ b, b ∈ reach H' (.ref a) (.o c (putFt x t' fs)) → b ∈ reach H (.ref a) (.o c fs) ∨ N b := by
  obtain ⟨a2, dx2, ws2, q0, q1, q2, q3, q4, q5⟩ := obj_open h
  cases q0
  rw [h1] at q1
  cases q1
  rw [q5] at nd k nN
  obtain ⟨d1, nd⟩ := List.nodup_cons.1 nd
  obtain ⟨d2, nd⟩ := List.nodup_cons.1 nd
  have dne : dx ≠ a := fun z => d1 (by rw [← z]; exact .head _)
  obtain ⟨f1, f2, f3⟩ := trees_put (x := x) N e h' nd' sb fs ws q3 q4 nd fun b hb => ⟨k b (.tail _ (.tail _ hb)) fun z => d1 (by rw [← z]; exact .tail _ hb), nN b (.tail _ (.tail _ hb))⟩
  have hdx : H' dx = some (.own a) := by rw [k dx (.tail _ (.head _)) dne]; exact q2
  obtain ⟨g1, g2⟩ := obj_mk n1 hdx (put_keys t' w' q3) f1
  refine ⟨g1, ?_, fun b hb => ?_⟩
  · rw [g2]
    refine List.nodup_cons.2 ⟨fun m => ?_, List.nodup_cons.2 ⟨fun m => ?_, f2⟩⟩
    · rcases List.mem_cons.1 m with z | m
      · exact dne z.symm
      · rcases f3 a m with z | z
        · exact d1 (.tail _ z)
        · exact nN a (.head _) z
    · rcases f3 dx m with z | z
      · exact d2 z
      · exact nN dx (.tail _ (.head _)) z
  · rw [g2] at hb
    rw [q5]
    rcases List.mem_cons.1 hb with z | hb
    · exact .inl (by rw [z]; exact .head _)
    · rcases List.mem_cons.1 hb with z | hb
      · exact .inl (by rw [z]; exact .tail _ (.head _))
      · exact (f3 b hb).imp (fun z => .tail _ (.tail _ z)) id
end
section
variable {K : PySem.W.Frag} {env0 env : DEnv} {σ : L2.St} {G0 H0 G H H' : Hp} {i : Nat}
/-- a slot's tree with what has come new since -/
theorem Rel.treeN (N : Addr → Prop) {T T' : Tr} {v : V} (R : Rel K env σ G H) (F : Fr env0 σ G0 H0 env σ G H) (hi : env[i]? = some (.t T) ∨ env[i]? = some (.u T)) (ho : σ[i]? = some (some v)) (ex : Ex G H') (h' : TreeAt K G H' v T') (nd' : (reach H' v T').Nodup) (sb : ∀ b, b ∈ reach H' v T' → (b ∈ reach H v T ∨ N b) ∧ G b = none)
    (nN : ∀ b, N b → ¬ Own env σ H b ∧ H0 b = none) (k : ∀ b, b ∉ reach H v T → H b ≠ none → H' b = H b) (dom : ∀ b, H' b = none → H b = none) : Rel K (putTr i T' env) σ G H' ∧ Fr env0 σ G0 H0 (putTr i T' env) σ G H' := by
  have go : ∀ (s0 s1 : Sl), env[i]? = some s0 → (∀ b, OwnS H s0 (some v) b ↔ b ∈ reach H v T) → (∀ b, OwnS H' s1 (some v) b ↔ b ∈ reach H' v T') → RS K G H' s1 (some v) → (s1.pk ≠ 0 → s0.pk = s1.pk) → Rel K (env.set i s1) σ G H' ∧ Fr env0 σ G0 H0 (env.set i s1) σ G H' := fun s0 s1 q o0 o1 rs pk => by
    have li : i < env.length := (List.getElem?_eq_some_iff.mp q).1
    have oi : ∀ b, b ∈ reach H v T → OwnAt env σ H i b := fun b hb => ⟨_, _, q, ho, (o0 b).2 hb⟩
    have kk : ∀ j b, j ≠ i → OwnAt env σ H j b → H' b = H b ∧ G b = none := fun j b ne w => by
      obtain ⟨t1, t2⟩ := w.there R
      exact ⟨k b (fun z => ne (R.dist j i b w (oi b z))) t1, t2⟩
    obtain ⟨r1, r2, r3⟩ := R.put (s1 := s1) li rfl ho (fun _ _ => rfl) ex (Ex.refl _) kk rs fun b w j ne w2 => by
      rcases (sb b ((o1 b).1 w)).1 with z | z
      · exact ne (R.dist j i b w2 (oi b z))
      · exact (nN b z).1 ⟨j, w2⟩
    refine ⟨r1, ⟨F.gg, fun b u hb hn => ?_, fun b hb => F.dom b (dom b hb), F.fresh, fun b ⟨j, w⟩ => ?_, fun j s h n => ?_⟩⟩
    · have h2 := F.keep b u hb hn
      rw [k b (fun z => by
        rcases F.own b ⟨i, oi b z⟩ with w | w
        · exact hn w
        · rw [hb] at w; cases w) (by rw [h2]; exact fun z => by cases z)]
      exact h2
    · by_cases z : j = i
      · subst z
        rcases (sb b ((o1 b).1 ((r2 b).1 w))).1 with z | z
        · exact F.own b ⟨j, oi b z⟩
        · exact .inr (nN b z).2
      · exact F.own b ⟨j, (r3 j b z).1 w⟩
    · by_cases z : j = i
      · subst z
        rw [List.getElem?_set_self li] at h
        cases h
        obtain ⟨p1, s2, p2, p3⟩ := F.par j s0 q (by rw [pk n]; exact n)
        exact ⟨p1, s2, p2, p3.trans (pk n)⟩
      · rw [List.getElem?_set_ne (Ne.symm z)] at h
        exact F.par j s h n
  unfold putTr
  rcases hi with q | q
  · rw [q]
    exact go (.t T) (.t T') q (fun b => ⟨fun ⟨w, e, h⟩ => by cases e; exact h, fun h => ⟨v, rfl, h⟩⟩) (fun b => ⟨fun ⟨w, e, h⟩ => by cases e; exact h, fun h => ⟨v, rfl, h⟩⟩) ⟨v, rfl, h', nd', fun b hb => (sb b hb).2⟩ fun z => absurd rfl z
  · rw [q]
    exact go (.u T) (.u T') q (fun b => ⟨fun ⟨w, e, h⟩ => by cases e; exact h, fun h => ⟨v, rfl, h⟩⟩) (fun b => ⟨fun ⟨w, e, h⟩ => by cases e; exact h, fun h => ⟨v, rfl, h⟩⟩) ⟨v, rfl, h', nd', fun b hb => (sb b hb).2⟩ fun _ => rfl
/-- a field gets a value that is new or stands -/
theorem fld_set {c x : Str} {fs : List (Str × Tr)} {t' : Tr} {w' : V} (R : Rel K env σ G H) (F : Fr env0 σ G0 H0 env σ G H) (q : objAt c i env = some fs) (h' : TreeAt K G H w' t') (nd' : (reach H w' t').Nodup) (sb : ∀ b, b ∈ reach H w' t' → (¬ Own env σ H b ∧ H0 b = none) ∧ G b = none) :
    ∃ a dx ws, σ[i]? = some (some (.ref a)) ∧ H a = some (.ins (He.ga K c) dx ws) ∧ ws.length = fs.length ∧ Rel K (putTr i (.o c (putFt x t' fs)) env) σ G (upd H a (.ins (He.ga K c) dx (putF x w' ws))) ∧ Fr env0 σ G0 H0 (putTr i (.o c (putFt x t' fs)) env) σ G (upd H a (.ins (He.ga K c) dx (putF x w' ws))) := by
  obtain ⟨a, ho, v, ev, t1, t2, t3⟩ := obj_tsl R q
  cases ev
  obtain ⟨a2, dx, ws, q0, q1, q2, q3, q4, q5⟩ := obj_open t1
  cases q0
  have am : a ∈ reach H (.ref a) (.o c fs) := by rw [q5]; exact .head _
  have aG := t3 a am
  have own : ∀ b, b ∈ reach H (.ref a) (.o c fs) → Own env σ H b := fun b hb => ⟨i, obj_own q ho hb⟩
  have ne : ∀ b, b ∈ reach H w' t' → b ≠ a := fun b hb z => (sb b hb).1.1 (own b (z ▸ am))
  obtain ⟨k1, k2⟩ := tree_keep (G' := G) (H' := upd H a (.ins (He.ga K c) dx (putF x w' ws))) (Ex.refl G) t' w' h' fun b hb => upd_ne (ne b hb)
  refine ⟨a, dx, ws, ho, q1, by have := congrArg List.length q3; simpa using this, ?_⟩
  obtain ⟨f1, f2, f3⟩ := obj_put (x := x) (H' := upd H a (.ins (He.ga K c) dx (putF x w' ws))) (fun b => (¬ Own env σ H b ∧ H0 b = none) ∧ G b = none) t1 t2 q1 (Ex.refl G) upd_same k1 (by rw [k2]; exact nd') (fun b hb => sb b (by rw [k2] at hb; exact hb)) (fun b hb z => z.1.1 (own b hb)) fun b _ z => upd_ne z
  refine R.treeN (fun b => (¬ Own env σ H b ∧ H0 b = none) ∧ G b = none) F (objAt_some q) ho (fun b u hb => ?_) f1 f2 (fun b hb => ⟨f3 b hb, ?_⟩) (fun b z => z.1) (fun b hb _ => upd_ne fun z => hb (z ▸ am)) fun b hb => ?_
  · rw [upd_ne (fun z => by subst z; rw [aG] at hb; cases hb)]
    exact R.ex b u hb
  · rcases f3 b hb with z | z
    · exact t3 b z
    · exact z.2
  · by_cases z : b = a
    · subst z; rw [upd_same] at hb; cases hb
    · rw [upd_ne z] at hb; exact hb
end
end DL
set_option Elab.async false
set_option linter.all false
set_option maxRecDepth 100000
set_option autoImplicit false
set_option maxHeartbeats 4000000
namespace DL
open PySem L2 PySem.Spec PyProof.Rows
def fldK (c : Str) (i : Nat) (x : Str) (t : Tr) (e1 : DEnv) : Fl := match objAt c i e1 with
  | some fs => if fs.length < 1000 then .nx (putTr i (.o c (putFt x t fs)) e1) else .stuck
  | none => .stuck
def sFldD (c : Str) (i : Nat) (x : Str) (de : DE) : DS := fun env => (de env).fl fun d e1 => fldK c i x (.d d) e1
def sFldL (c : Str) (i : Nat) (x : Str) (dl : DA) : DS := fun env => (dl env).fl fun xs e1 => fldK c i x (dL xs) e1
section
variable {X : Cx} {W : WX} {pos fpos : Pos} {c x : Str} {e : Expr} {de : DE}
theorem cs_fldD (c : Str) (i : Nat) {s : Str} {p : Pos} (hC : Cls X.K (He.ga X.K c)) (hA : NoAttr X.K (He.ga X.K c) x) (he : CE X W e de) (hN : X.N[i]? = some s := by rfl) (hv : Vis X.env.scope s := by first | exact Or.inl rfl | exact Or.inr (Or.inl rfl) | exact Or.inr (Or.inr rfl)) (hd : (s == ("__debug__" : Str)) = false := by decide)
    (hcd : (s == ("__classdict__" : Str)) = false := by decide) (hs : swapsWith e (some (.Attribute (.Name s p) x fpos)) pos.line X.env = pure false := by rfl) : CS X W (.Assign [.Attribute (.Name s p) x fpos] e pos) (sFldD c i x de) := ps_imp (ps_fld (pe_var hN hv hd hcd) he hs) fun E σ H h => by
  obtain ⟨env, G, R, h⟩ := h
  refine E_thenS R h fun d e1 v G1 H1 _ R1 dv F1 h1 => ?_
  unfold fldK at h1
  cases q : objAt c i e1 with
  | none => rw [q] at h1; exact h1.elim
  | some fs =>
    rw [q] at h1
    have h1 : RunS X.K X.mg W e1 σ G1 H1 (if fs.length < 1000 then .nx (putTr i (.o c (putFt x (.d d) fs)) e1) else .stuck) E := h1
    by_cases z : fs.length < 1000
    · rw [if_pos z] at h1
      obtain ⟨a, dx, ws, e2, e3, e4, r1, r2⟩ := fld_set (x := x) (t' := .d d) (w' := v) R1 (Fr.refl _ _ _ _) q (by simp only [TreeAt]; exact dv) (by simp [reach]) (fun b hb => by simp [reach] at hb)
      exact ⟨_, e2, a, _, dx, ws, rfl, e3, hC, hA, by rw [e4]; exact z, h1 σ G1 _ r1 r2⟩
    · rw [if_neg z] at h1
      exact h1.elim
theorem cs_fldL (c : Str) (i : Nat) {s : Str} {p : Pos} {dl : DA} (hC : Cls X.K (He.ga X.K c)) (hA : NoAttr X.K (He.ga X.K c) x) (he : CL X W e dl) (hN : X.N[i]? = some s := by rfl) (hv : Vis X.env.scope s := by first | exact Or.inl rfl | exact Or.inr (Or.inl rfl) | exact Or.inr (Or.inr rfl)) (hd : (s == ("__debug__" : Str)) = false := by decide)
    (hcd : (s == ("__classdict__" : Str)) = false := by decide) (hs : swapsWith e (some (.Attribute (.Name s p) x fpos)) pos.line X.env = pure false := by rfl) : CS X W (.Assign [.Attribute (.Name s p) x fpos] e pos) (sFldL c i x dl) := ps_imp (ps_fld (pe_var hN hv hd hcd) he hs) fun E σ H h => by
  obtain ⟨env, G, R, h⟩ := h
  refine L_thenS R h fun xs e1 l vs G1 H1 _ R1 hl gl h0 no dv F1 h1 => ?_
  unfold fldK at h1
  cases q : objAt c i e1 with
  | none => rw [q] at h1; exact h1.elim
  | some fs =>
    rw [q] at h1
    have h1 : RunS X.K X.mg W env σ G H (if fs.length < 1000 then .nx (putTr i (.o c (putFt x (dL xs) fs)) e1) else .stuck) E := h1
    by_cases z : fs.length < 1000
    · rw [if_pos z] at h1
      obtain ⟨a, dx, ws, e2, e3, e4, r1, r2⟩ := fld_set (x := x) (t' := dL xs) (w' := .ref l) R1 F1 q (dL_at.2 ⟨l, vs, rfl, hl, dv⟩) (by rw [dL_reach]; simp) (fun b hb => by
        rw [dL_reach, List.mem_singleton] at hb
        subst hb
        exact ⟨⟨no, h0⟩, gl⟩)
      exact ⟨_, e2, a, _, dx, ws, rfl, e3, hC, hA, by rw [e4]; exact z, h1 σ G1 _ r1 r2⟩
    · rw [if_neg z] at h1
      exact h1.elim
end
end DL
set_option Elab.async false
set_option linter.all false
set_option maxRecDepth 100000
set_option autoImplicit false
set_option maxHeartbeats 4000000
namespace DL
open PySem L2 PySem.Spec PyProof.Rows
section
variable {X : Cx} {W : WX} {pos apos : Pos} {k : Nat} {C g : Addr} {fd : FuncData} {ps : List Str} {sp : Sp} {m : Str} {o e : Expr} {es : List Expr} {ta : TE} {t : TA} {CX : CXT} {E : L2.St → XK}
/-- o.m(..), what a raise brings told by the state -/
def tMethE (C : Addr) (m : Str) (sp : Sp) (E : L2.St → XK) (ta : TE) (t : TA) : TE := fun σ H Q => ta σ H fun v Hv => ∃ b dd gs, v = V.ref b ∧ Hv b = some (HO.ins C dd gs) ∧ gs.lookup m = none ∧ t σ Hv fun us Hu => sp (v :: us) Hu Q (E σ)
theorem pe_methE {plm : Sem Bool} (ho : PE X o ta) (hc : Cls X.K C) (mm : Meth X.K C m g) (Fn : FnOk X.prog X.w X.K X.mg X.base CX k g fd ps sp) (room : Room k X.A) (bnd : Binds X.K fd ps []) (pass : ∀ σ, PassesAt CX X σ (E σ)) (args : PA X (e :: es) t)
    (hst : starEach (e :: es) X.env = (false, eval e X.env) :: starEach es X.env := by rfl) (hpl : (backTo pos (starEach es X.env)).any (·.1) = false := by rfl)
    (tree : eval (.Call (.Attribute o m apos) (e :: es) [] pos) X.env = (do
      let ov ← eval o X.env
      standAt apos.atName
      let (f, first) ← holding [ov] (getMethod ov m plm)
      callWith pos f first (backTo pos (starEach (e :: es) X.env)) (backToKw pos (keywordEach [] X.env))) := by rfl) :
    PE X (.Call (.Attribute o m apos) (e :: es) [] pos) (tMethE C m sp E ta t) := by
  constructor
  intro pins sh st Hh Qq Iv hh
  apply PySem.W.methodCall_KW (pl := plm) _ tree
  refine thn (ho.run pins sh st Hh _ Iv hh) ?_
  rintro vv sh1 ⟨x1, Hx, Ix, rel, b, dd, gs, rfl, at_, none_, rest⟩
  cases (show vv = Value.ref b from rel)
  apply getmeth_ok Ix at_ hc mm none_
  refine PySem.W.callWith_K (first := [Value.ref b]) (h₀ := X.base) Ix.ok.mod.kin mm.kp (thn (args.run pos pins sh1 st Hx _ Ix rest) ?_) hst hpl
  rintro ul sh2 ⟨vl, Hl, Il, rl, fin⟩
  exact ⟨Il.kIn, run_fnS (us := Value.ref b :: ul) (vs := V.ref b :: vl) Fn room bnd (pass st) Il (.cons rfl rl) fin⟩
theorem pe_methE0 {plm : Sem Bool} (ho : PE X o ta) (hc : Cls X.K C) (mm : Meth X.K C m g) (Fn : FnOk X.prog X.w X.K X.mg X.base CX k g fd ps sp) (room : Room k X.A) (bnd : Binds X.K fd ps []) (pass : ∀ σ, PassesAt CX X σ (E σ))
    (tree : eval (.Call (.Attribute o m apos) [] [] pos) X.env = (do
      let ov ← eval o X.env
      standAt apos.atName
      let (f, first) ← holding [ov] (getMethod ov m plm)
      callWith pos f first (backTo pos (starEach [] X.env)) (backToKw pos (keywordEach [] X.env))) := by rfl) :
    PE X (.Call (.Attribute o m apos) [] [] pos) (tMethE C m sp E ta tNil) := by
  constructor
  intro pins sh st Hh Qq Iv hh
  apply PySem.W.methodCall_KW (pl := plm) _ tree
  refine thn (ho.run pins sh st Hh _ Iv hh) ?_
  rintro vv sh1 ⟨x1, Hx, Ix, rel, b, dd, gs, rfl, at_, none_, rest⟩
  cases (show vv = Value.ref b from rel)
  apply getmeth_ok Ix at_ hc mm none_
  exact PySem.W.callWith_K0 (first := [Value.ref b]) Ix.kIn mm.kp (run_fnS (us := [Value.ref b]) (vs := [V.ref b]) Fn room bnd (pass st) Ix (.cons rfl .nil) rest)
end
/-- a call as what the def promises -/
theorem call_run {K : PySem.W.Frag} {mg : Str → Option Value} {W : WX} {e1 : DEnv} {σ : L2.St} {G1 H1 : Hp} {as : List Ar} {vs : List V} {np : Nat} {F : Df} {Q : VK} (R1 : Rel K e1 σ G1 H1) (ar : ArRel K G1 σ vs as) (cn : as.length = np) (h1 : RunE K mg W e1 σ G1 H1 (callD F as e1).rs Q) : spD K mg np F vs H1 Q (WE W σ) := by
  unfold callD at h1
  by_cases c : (slotsOf as).Nodup
  · rw [if_pos c] at h1
    refine ⟨ar_np ar cn, as.map (toSl e1), G1, rel_args R1 ar c, ?_⟩
    cases q : F (as.map (toSl e1)) with
    | stuck => rw [q] at h1; exact h1
    | ok d outs =>
      rw [q] at h1
      exact fun v G' H' R' dv F' => let ⟨a, b, _⟩ := back_ok R1 ar c R' F'; h1 v G' H' a dv b
    | okl xs outs =>
      rw [q] at h1
      intro a vs' G' H' R' h3 h4 h5 h6 dv F'
      obtain ⟨r, b, o⟩ := back_ok R1 ar c R' F'
      have na : ¬ Own (backD as outs e1) σ H' a := fun z => by
        rcases o a z with z | z
        · exact h6 z
        · exact (z.there R1).1 h5
      have hl : RunL K mg W e1 σ G1 H1 (Rs.ok xs (backD as outs e1)) Q := RunL.of h1
      exact hl a vs' G' H' r h3 h4 h5 na dv b
    | ex x outs =>
      rw [q] at h1
      exact fun cls dd G' H' xr R' F' => let ⟨a, b, _⟩ := back_ok R1 ar c R' F'; h1 cls dd G' H' xr a b
  · rw [if_neg c] at h1
    exact h1.elim
/-- a method's promise -/
structure CalMt (P : Program) (w : World) (K : PySem.W.Frag) (mg : Str → Option Value) (base : Heap) (k : Nat) (c m : Str) (np : Nat) (F : Df) : Prop where
  ex : ∃ (fd : FuncData) (ps : List Str), ps.length = np ∧ FnOk P w K mg base (L2N.CX P w) k (He.ma K (He.ga K c) m) fd ps (spD K mg ps.length F) ∧ Binds K fd ps []
  mt : Meth K (He.ga K c) m (He.ma K (He.ga K c) m)
def eMeth (c : Str) (i : Nat) (m : Str) (np : Nat) (F : Df) (da : DAr) : DE := fun env => match objAt c i env with
  | some fs => if (fIx m fs).isNone = true then (da env).bind fun as e1 => if lent i e1 = true ∧ as.length + 1 = np then (callD F (.s i :: as) e1).rs else .stuck else .stuck
  | none => .stuck
section
variable {X : Cx} {W : WX} {pos apos : Pos} {j k np : Nat} {F : Df} {c m s : Str} {i : Nat} {p : Pos} {e : Expr} {es : List Expr} {da : DAr}
theorem obj_meth {K : PySem.W.Frag} {env : DEnv} {σ : L2.St} {G H : Hp} {fs : List (Str × Tr)} (R : Rel K env σ G H) (q : objAt c i env = some fs) (hm : (fIx m fs).isNone = true) : ∃ a dx ws, σ[i]? = some (some (.ref a)) ∧ H a = some (.ins (He.ga K c) dx ws) ∧ ws.lookup m = none := by
  obtain ⟨a, ho, v, ev, t1, _, _⟩ := obj_tsl R q
  cases ev
  obtain ⟨a2, dx, ws, q0, q1, q2, q3, _, _⟩ := obj_open t1
  cases q0
  refine ⟨a, dx, ws, ho, q1, fIx_none ?_⟩
  rw [fIx_keys q3]
  exact Option.isNone_iff_eq_none.1 hm
theorem ce_meth (hC : Cls X.K (He.ga X.K c)) (Ct : CalMt X.prog X.w X.K X.mg X.base j c m np F) (hr : Room k X.A) (hjk : j ≤ k) (tk : ∀ σ, PassesAt (L2N.CX X.prog X.w) X σ (WE W σ)) (ha : CR X W (e :: es) da) {plm : Sem Bool} (hN : X.N[i]? = some s := by rfl) (hv : Vis X.env.scope s := by first | exact Or.inl rfl | exact Or.inr (Or.inl rfl) | exact Or.inr (Or.inr rfl)) (hd : (s == ("__debug__" : Str)) = false := by decide)
    (hcd : (s == ("__classdict__" : Str)) = false := by decide) (hst : starEach (e :: es) X.env = (false, eval e X.env) :: starEach es X.env := by rfl) (hpl : (backTo pos (starEach es X.env)).any (·.1) = false := by rfl)
    (tree : eval (.Call (.Attribute (.Name s p) m apos) (e :: es) [] pos) X.env = (do
      let ov ← eval (.Name s p) X.env
      standAt apos.atName
      let (f, first) ← holding [ov] (getMethod ov m plm)
      callWith pos f first (backTo pos (starEach (e :: es) X.env)) (backToKw pos (keywordEach [] X.env))) := by rfl) :
    CE X W (.Call (.Attribute (.Name s p) m apos) (e :: es) [] pos) (eMeth c i m np F da) := by
  obtain ⟨fd, ps, rfl, fn, bd⟩ := Ct.ex
  refine pe_imp (pe_methE (plm := plm) (pe_var hN hv hd hcd) hC Ct.mt fn (hr.mono hjk) bd tk ha hst hpl tree) fun σ H Q h => ?_
  obtain ⟨env, G, R, h⟩ := h
  unfold eMeth at h
  cases q : objAt c i env with
  | none => rw [q] at h; exact h.elim
  | some fs =>
    rw [q] at h
    obtain ⟨hm, h⟩ := if_run (P := fun r => RunE X.K X.mg W env σ G H r Q) h fun z => z
    obtain ⟨a, dx, ws, e1, e2, e3⟩ := obj_meth R q hm
    refine ⟨_, e1, a, dx, ws, rfl, e2, e3, R_then R (P := fun e s G H r => RunE X.K X.mg W e s G H r Q) h (fun _ _ z => z) (fun z => z) (fun _ _ _ _ a b => a.shift b) fun as e1' vs G1 H1 _ R1 ar le F1 h1 => ?_⟩
    by_cases cc : lent i e1' = true ∧ as.length + 1 = ps.length
    · rw [if_pos cc] at h1
      exact call_run (as := .s i :: as) (vs := .ref a :: vs) R1 ⟨e1, ar⟩ cc.2 h1
    · rw [if_neg cc] at h1
      exact h1.elim
theorem ce_meth0 (hC : Cls X.K (He.ga X.K c)) (Ct : CalMt X.prog X.w X.K X.mg X.base j c m np F) (hr : Room k X.A) (hjk : j ≤ k) (tk : ∀ σ, PassesAt (L2N.CX X.prog X.w) X σ (WE W σ)) {plm : Sem Bool} (hN : X.N[i]? = some s := by rfl) (hv : Vis X.env.scope s := by first | exact Or.inl rfl | exact Or.inr (Or.inl rfl) | exact Or.inr (Or.inr rfl)) (hd : (s == ("__debug__" : Str)) = false := by decide)
    (hcd : (s == ("__classdict__" : Str)) = false := by decide)
    (tree : eval (.Call (.Attribute (.Name s p) m apos) [] [] pos) X.env = (do
      let ov ← eval (.Name s p) X.env
      standAt apos.atName
      let (f, first) ← holding [ov] (getMethod ov m plm)
      callWith pos f first (backTo pos (starEach [] X.env)) (backToKw pos (keywordEach [] X.env))) := by rfl) :
    CE X W (.Call (.Attribute (.Name s p) m apos) [] [] pos) (eMeth c i m np F rNil) := by
  obtain ⟨fd, ps, rfl, fn, bd⟩ := Ct.ex
  refine pe_imp (pe_methE0 (plm := plm) (pe_var hN hv hd hcd) hC Ct.mt fn (hr.mono hjk) bd tk tree) fun σ H Q h => ?_
  obtain ⟨env, G, R, h⟩ := h
  unfold eMeth at h
  cases q : objAt c i env with
  | none => rw [q] at h; exact h.elim
  | some fs =>
    rw [q] at h
    obtain ⟨hm, h⟩ := if_run (P := fun r => RunE X.K X.mg W env σ G H r Q) h fun z => z
    obtain ⟨a, dx, ws, e1, e2, e3⟩ := obj_meth R q hm
    refine ⟨_, e1, a, dx, ws, rfl, e2, e3, ?_⟩
    have h1 : RunE X.K X.mg W env σ G H (if lent i env = true ∧ ([] : List Ar).length + 1 = ps.length then (callD F [.s i] env).rs else .stuck) Q := h
    by_cases cc : lent i env = true ∧ ([] : List Ar).length + 1 = ps.length
    · rw [if_pos cc] at h1
      exact call_run (as := [.s i]) (vs := [.ref a]) R ⟨e1, trivial⟩ cc.2 h1
    · rw [if_neg cc] at h1
      exact h1.elim
end
end DL
set_option Elab.async false
set_option linter.all false
set_option maxRecDepth 100000
set_option autoImplicit false
set_option maxHeartbeats 4000000
namespace DL
open PySem L2 PySem.Spec PyProof.Rows
section
variable {X : Cx} {W : WX} {pos p : Pos} {k : Nat} {C g : Addr} {fd : FuncData} {ps : List Str} {sp : Sp} {x : Str} {e : Expr} {es : List Expr} {t : TA} {CX : CXT} {E : L2.St → XK}
/-- C(..), what a raise brings told by the state -/
def tMakeE (C : Addr) (sp : Sp) (E : L2.St → XK) (t : TA) : TE := fun σ H Q => t σ H fun us Hu => ∀ o dd, Hu o = none → Hu dd = none → dd ≠ o → sp (V.ref o :: us) (upd (upd Hu dd (HO.own o)) o (HO.ins C dd [])) (fun v Hv => v = V.non ∧ Q (V.ref o) Hv) (E σ)
theorem run_makeE {pins : List (Addr × Obj)} {σ : L2.St} {H : Hp} {s : Shared} {Q : VK} {us : List Value} {vs : List V} (M : Mk X.K C g) (Fn : FnOk X.prog X.w X.K X.mg X.base CX k g fd ps sp) (room : Room (k + 1) X.A) (bnd : Binds X.K fd ps []) (pass : PassesAt CX X σ (E σ))
    (I : Inv X pins σ H s) (r : Vals vs us) (h : ∀ o dd, H o = none → H dd = none → dd ≠ o → sp (V.ref o :: vs) (upd (upd H dd (HO.own o)) o (HO.ins C dd [])) (fun v Hv => v = V.non ∧ Q (V.ref o) Hv) (E σ)) : wpAny (model X.prog X.w) X.A (call (.ref C) us) (EP X pins σ Q) X.xe s := by
  have want := h (s.heap.objs.size + 1) s.heap.objs.size (I.hok.fresh (Nat.le_succ _)) (I.hok.fresh (Nat.le_refl _)) (Nat.ne_of_lt (Nat.lt_succ_self _))
  have J := Inv.made (C := C) I
  have rr : Vals (V.ref (s.heap.objs.size + 1) :: vs) (Value.ref (s.heap.objs.size + 1) :: us) := .cons rfl r
  have many : (Value.ref (s.heap.objs.size + 1) :: us).length = ps.length := by rw [← rr.length]; exact Fn.len _ _ _ _ want
  have bb := bnd _ (Value.ref (s.heap.objs.size + 1) :: us) J.kIn (by rw [List.append_nil]; exact many)
  rw [List.append_nil] at bb
  apply wpAny_call
  apply make_map (f := g) I.kIn M.makes M.init (beq_iff_eq.mp M.fn)
  refine codeAny_mono (Fn.run _ X.stack _ _ ⟨Value.ref (s.heap.objs.size + 1) :: us, []⟩ _ _ _ (E σ) (room.make C us []) (J.env0.make C us []) bb rr want) ?_
  intro res sh got
  cases res with
  | error er => exact pass pins _ _ er sh J got
  | ok fl =>
    cases fl with
    | ret u =>
      obtain ⟨v, Hv, I3, rv, ev, q3⟩ := J.after got
      subst ev
      exact ⟨rv, ⟨V.ref (s.heap.objs.size + 1), Hv, I3, rfl, q3⟩⟩
    | next => exact False.elim got
    | brk => exact False.elim got
    | cont => exact False.elim got
theorem pe_makeE (M : Mk X.K C g) (Fn : FnOk X.prog X.w X.K X.mg X.base CX k g fd ps sp) (room : Room (k + 1) X.A) (bnd : Binds X.K fd ps []) (pass : ∀ σ, PassesAt CX X σ (E σ)) (args : PA X (e :: es) t) (hg : Gl X x) (hm : X.mg x = some (.ref C)) (hdb : (x == ("__debug__" : Str)) = false := by decide)
    (hst : starEach (e :: es) X.env = (false, eval e X.env) :: starEach es X.env := by rfl) (hpl : (backTo pos (starEach es X.env)).any (·.1) = false := by rfl) : PE X (.Call (.Name x p) (e :: es) [] pos) (tMakeE C sp E t) := by
  constructor
  intro pins sh st Hh Qq Iv hh
  apply wpAny_Call_Name_kw
  apply ld_glob Iv hg hm _ hdb
  refine PySem.W.callWith_K (h₀ := X.base) Iv.ok.mod.kin M.kp (thn (args.run pos pins sh st Hh _ Iv hh) ?_) hst hpl
  rintro ul sh2 ⟨vl, Hl, Il, rl, fin⟩
  exact ⟨Il.kIn, run_makeE M Fn room bnd (pass st) Il rl fin⟩
end
section
variable {K : PySem.W.Frag} {e1 : DEnv} {σ : L2.St} {G H : Hp} {c : Str} {o dd : Addr}
theorem new_args {vs : List V} {ds : List D} (R : Rel K e1 σ G H) (dv : DvAll K G vs ds) (ho : H o = none) (hd : H dd = none) (ne : dd ≠ o) :
    Rel K (.u (.o c []) :: ds.map .v) ((V.ref o :: vs).map some) G (upd (upd H dd (.own o)) o (.ins (He.ga K c) dd [])) ∧ ∀ b, Own (.u (.o c []) :: ds.map .v) ((V.ref o :: vs).map some) (upd (upd H dd (.own o)) o (.ins (He.ga K c) dd [])) b → b = o ∨ b = dd := by
  have go : G o = none := R.ex.none ho
  have gd : G dd = none := R.ex.none hd
  obtain ⟨t1, t2⟩ := obj_mk (K := K) (G := G) (H := upd (upd H dd (.own o)) o (.ins (He.ga K c) dd [])) (c := c) (fs := []) (ws := []) (a := o) (dx := dd) upd_same (by rw [upd_ne ne, upd_same]) rfl (by simp [TreesAt])
  have rr : reach (upd (upd H dd (.own o)) o (.ins (He.ga K c) dd [])) (.ref o) (.o c []) = [o, dd] := by rw [t2]; simp [reachL]
  have own0 : ∀ j b, OwnAt (.u (.o c []) :: ds.map .v) ((V.ref o :: vs).map some) (upd (upd H dd (.own o)) o (.ins (He.ga K c) dd [])) j b → j = 0 ∧ (b = o ∨ b = dd) := fun j b ⟨s, p, q1, q2, w⟩ => by
    cases j with
    | zero =>
      simp at q1 q2
      subst q1 q2
      obtain ⟨v, e, w⟩ := w
      cases e
      rw [rr] at w
      simp at w
      exact ⟨rfl, w⟩
    | succ j =>
      simp at q1
      obtain ⟨d, _, rfl⟩ := q1
      exact w.elim
  refine ⟨⟨fun b u hb => ?_, by simp [dv.length], fun j s p q1 q2 => ?_, fun i j b x y => by rw [(own0 i b x).1, (own0 j b y).1]⟩, fun b ⟨j, w⟩ => (own0 j b w).2⟩
  · rw [upd_ne (fun z => by subst z; rw [go] at hb; cases hb), upd_ne (fun z => by subst z; rw [gd] at hb; cases hb)]
    exact R.ex b u hb
  · cases j with
    | zero =>
      simp at q1 q2
      subst q1 q2
      refine ⟨_, rfl, t1, by rw [rr]; simp [Ne.symm ne], fun b hb => ?_⟩
      rw [rr] at hb
      simp at hb
      rcases hb with rfl | rfl
      · exact go
      · exact gd
    | succ j =>
      rw [List.getElem?_cons_succ, List.getElem?_map] at q1
      rw [List.map_cons, List.getElem?_cons_succ, List.getElem?_map] at q2
      obtain ⟨d, e1, rfl⟩ := Option.map_eq_some_iff.1 q1
      obtain ⟨v, e2, rfl⟩ := Option.map_eq_some_iff.1 q2
      obtain ⟨v2, e3, e4⟩ := dv.get e1
      rw [e2] at e3
      cases e3
      exact ⟨v, rfl, e4⟩
/-- behind the call: the caller's own things stand -/
theorem new_back {vs : List V} {ds : List D} {outs : DEnv} {G' H' : Hp} (R : Rel K e1 σ G H) (dv : DvAll K G vs ds) (ho : H o = none) (hd : H dd = none) (ne : dd ≠ o) (R' : Rel K outs ((V.ref o :: vs).map some) G' H') (F' : Fr (.u (.o c []) :: ds.map .v) ((V.ref o :: vs).map some) G (upd (upd H dd (.own o)) o (.ins (He.ga K c) dd [])) outs ((V.ref o :: vs).map some) G' H') :
    Rel K e1 σ G' H' ∧ Fr e1 σ G H e1 σ G' H' ∧ ∀ b, Own outs ((V.ref o :: vs).map some) H' b → H b = none ∧ ¬ Own e1 σ H' b := by
  obtain ⟨_, ow⟩ := new_args (c := c) R dv ho hd ne
  have up : ∀ b, H b ≠ none → upd (upd H dd (.own o)) o (.ins (He.ga K c) dd []) b = H b ∧ b ≠ o ∧ b ≠ dd := fun b hb => by
    have n1 : b ≠ o := fun z => hb (z ▸ ho)
    have n2 : b ≠ dd := fun z => hb (z ▸ hd)
    exact ⟨by rw [upd_ne n1, upd_ne n2], n1, n2⟩
  have keep : ∀ b u, H b = some u → H' b = some u := fun b u hb => by
    obtain ⟨q, n1, n2⟩ := up b (by rw [hb]; exact fun z => by cases z)
    exact F'.keep b u (by rw [q]; exact hb) fun w => (ow b w).elim n1 n2
  have dn : ∀ b, upd (upd H dd (.own o)) o (.ins (He.ga K c) dd []) b = none → H b = none := fun b hb => by
    by_cases n1 : b = o
    · rw [n1]; exact ho
    · rw [upd_ne n1] at hb
      by_cases n2 : b = dd
      · rw [n2]; exact hd
      · rw [upd_ne n2] at hb; exact hb
  have fr : ∀ b, G' b ≠ none → G b ≠ none ∨ H b = none := fun b hb => by
    rcases F'.fresh b hb with z | z | z
    · exact .inl z
    · exact .inr (dn b z)
    · rcases ow b z with z | z
      · exact .inr (z ▸ ho)
      · exact .inr (z ▸ hd)
  have kk : ∀ b, Own e1 σ H b → H' b = H b ∧ G' b = none := fun b w => by
    obtain ⟨t1, t2⟩ := w.there R
    constructor
    · cases q : H b with
      | none => exact absurd q t1
      | some u => exact keep b u q
    · cases q : G' b with
      | none => rfl
      | some u =>
        rcases fr b (by rw [q]; exact fun z => by cases z) with z | z
        · exact absurd t2 z
        · exact absurd z t1
  obtain ⟨Rn, mv⟩ := R.move R'.ex F'.gg (fun b w => (kk b w).1) fun b w => (kk b w).2
  refine ⟨Rn, ⟨F'.gg, fun b u hb _ => keep b u hb, fun b hb => dn b (F'.dom b hb), fun b hb => (fr b hb).imp id .inl, fun b ⟨j, w⟩ => .inl ⟨j, (mv j b).1 w⟩, fun i s h _ => ⟨rfl, s, h, rfl⟩⟩, fun b w => ?_⟩
  have hb : H b = none := by
    rcases F'.own b w with z | z
    · rcases ow b z with z | z
      · rw [z]; exact ho
      · rw [z]; exact hd
    · exact dn b z
  exact ⟨hb, fun ⟨j, w2⟩ => (((mv j b).1 w2).there R).1 hb⟩
end
/-- a maker's promise -/
structure CalMk (P : Program) (w : World) (K : PySem.W.Frag) (mg : Str → Option Value) (base : Heap) (k : Nat) (c : Str) (np : Nat) (F : Df) : Prop where
  ex : ∃ (fd : FuncData) (ps : List Str), ps.length = np ∧ FnOk P w K mg base (L2N.CX P w) k (He.ma K (He.ga K c) "__init__") fd ps (spD K mg ps.length F) ∧ Binds K fd ps []
  mkr : Mk K (He.ga K c) (He.ma K (He.ga K c) "__init__")
  mg_ : mg c = some (.ref (He.ga K c))
def makeK (c : Str) (i np : Nat) (F : Df) (ds : List D) (e1 : DEnv) : Fl := if ds.length + 1 = np then match F (Sl.u (Tr.o c []) :: ds.map Sl.v) with
  | Fo.ok PyData.none outs => match (outs[0]? : Option Sl) with
    | some (Sl.u (Tr.o c' fs)) => if c' = c then (match setV i (.t (.o c fs)) e1 with
      | some e2 => .nx e2
      | none => .stuck) else .stuck
    | _ => .stuck
  | Fo.ex x _ => .ex x e1
  | _ => .stuck else .stuck
def sMake (c : Str) (i np : Nat) (F : Df) (da : DA) : DS := fun env => (da env).fl (makeK c i np F)
section
variable {X : Cx} {W : WX} {pos p2 : Pos} {j k np : Nat} {F : Df} {c : Str} {i : Nat} {p : Pos} {e : Expr} {es : List Expr} {da : DA}
theorem cs_make {x : Str} {pos' : Pos} (hN : X.N.Nodup) (M : CalMk X.prog X.w X.K X.mg X.base j c np F) (hr : Room (k + 1) X.A) (hjk : j ≤ k) (tk : ∀ σ, PassesAt (L2N.CX X.prog X.w) X σ (WE W σ)) (ha : CA X W (e :: es) da) (hg : Gl X c := by rfl) (hdb : (c == ("__debug__" : Str)) = false := by decide)
    (hst : starEach (e :: es) X.env = (false, eval e X.env) :: starEach es X.env := by rfl) (hpl : (backTo p2 (starEach es X.env)).any (·.1) = false := by rfl)
    (hi : X.N[i]? = some x := by rfl) (hx : Loc X.env.scope x := by first | exact Or.inl rfl | exact Or.inr rfl) (hs : swapsWith (.Call (.Name c p) (e :: es) [] p2) (some (.Name x pos')) pos.line X.env = pure false := by rfl) (hf : X.fn x = true ∨ X.env.scope.names.lookup x = some .local := by first | exact .inl rfl | exact .inr rfl | assumption) :
    CS X W (.Assign [.Name x pos'] (.Call (.Name c p) (e :: es) [] p2) pos) (sMake c i np F da) := by
  obtain ⟨fd, ps, rfl, fn, bd⟩ := M.ex
  refine ps_imp (ps_set hN hi hx (pe_makeE M.mkr fn (hr.mono (Nat.succ_le_succ hjk)) bd tk ha hg M.mg_ hdb hst hpl) hs hf) fun E σ H h => ?_
  obtain ⟨env, G, R, h⟩ := h
  refine ⟨env, G, R, ?_⟩
  unfold sMake at h
  cases q : da env with
  | stuck => rw [q] at h; exact h.elim
  | ex x e => rw [q] at h; exact RunXS.toX h
  | ok ds e1 =>
    rw [q] at h
    intro vs G1 H1 R1 dv F1 o dd ho hd ne
    have h : RunS X.K X.mg W e1 σ G1 H1 (makeK c i ps.length F ds e1) E := RunS.shift h F1
    unfold makeK at h
    by_cases cn : ds.length + 1 = ps.length
    · rw [if_pos cn] at h
      refine ⟨by rw [List.length_cons, dv.length]; exact cn, _, G1, (new_args R1 dv ho hd ne).1, ?_⟩
      cases q2 : F (.u (.o c []) :: ds.map .v) with
      | stuck => rw [q2] at h; exact h.elim
      | okl _ _ => rw [q2] at h; exact h.elim
      | ex x outs =>
        rw [q2] at h
        intro cls dx G' H' xr R' F'
        obtain ⟨r1, r2, _⟩ := new_back R1 dv ho hd ne R' F'
        exact RunXS.toX h cls dx G' H' xr r1 r2
      | ok d outs =>
        rw [q2] at h
        intro v G' H' R' dv' F'
        obtain ⟨r1, r2, r3⟩ := new_back R1 dv ho hd ne R' F'
        cases d with
        | none =>
          cases dv'
          refine ⟨rfl, ?_⟩
          have h : RunS X.K X.mg W e1 σ G1 H1 (match (outs[0]? : Option Sl) with
            | some (Sl.u (Tr.o c' fs)) => if c' = c then (match setV i (.t (.o c fs)) e1 with
              | some e2 => .nx e2
              | none => .stuck) else .stuck
            | _ => .stuck) E := h
          split at h
          · rename_i c' fs q3
            by_cases cc : c' = c
            · subst cc
              rw [if_pos rfl] at h
              cases qs : setV i (.t (.o c' fs)) e1 with
              | none => rw [qs] at h; exact h.elim
              | some e3 =>
                rw [qs] at h
                obtain ⟨s0, a1, a2, rfl⟩ := setV_some qs
                have li : i < e1.length := (List.getElem?_eq_some_iff.mp a1).1
                have sl : TSl X.K G' H' (.o c' fs) (some (.ref o)) := R'.slot 0 _ _ q3 rfl
                have ow : ∀ b, OwnS H' (.t (.o c' fs)) (some (.ref o)) b → Own outs ((V.ref o :: vs).map some) H' b := fun b ⟨w, ew, hw⟩ => ⟨0, _, _, q3, rfl, w, ew, hw⟩
                exact h (σ.set i (some (.ref o))) G' H' (r1.set a1 a2 sl (fun _ z => nomatch z) fun _ b hb => (r3 b (ow b hb)).2) (Fr.setN r1 r2 li (fun b hb => (r3 b (ow b hb)).1) rfl)
            · rw [if_neg cc] at h
              exact h.elim
          · exact h.elim
        | _ => exact h.elim
    · rw [if_neg cn] at h
      exact h.elim
end
end DL
set_option Elab.async false
set_option linter.all false
set_option maxRecDepth 100000
set_option autoImplicit false
set_option maxHeartbeats 4000000
namespace DL
open PySem L2 PySem.Spec PyProof.Rows
/-- a class with fields xs and methods ms -/
structure ObF (K : PySem.W.Frag) (mg : Str → Option Value) (c : Str) (xs ms : List Str) : Prop where
  g : mg c = some (.ref (He.ga K c))
  cl : Cls K (He.ga K c)
  no : ∀ x, x ∈ xs → NoAttr K (He.ga K c) x
  mt : ∀ m, m ∈ ms → Meth K (He.ga K c) m (He.ma K (He.ga K c) m)
  mkr : Mk K (He.ga K c) (He.ma K (He.ga K c) "__init__")
def clsB (K : PySem.W.Frag) (C : Addr) : Bool := PySem.W.plainGet K C Str.empty && (PySem.W.hasDictIn K C && (PySem.W.plainOver K C && decide (PySem.W.findIn K (.ref C) "__setattr__" = some (some (.builtin "object.__setattr__")))))
def methB (K : PySem.W.Frag) (C : Addr) (m : Str) : Bool := decide (PySem.W.findIn K (.ref C) m = some (some (.ref (He.ma K C m)))) && (PySem.W.isFn K (.ref (He.ma K C m)) && PySem.W.keepIn K (.ref (He.ma K C m)))
def mkB (K : PySem.W.Frag) (C : Addr) : Bool := PySem.W.makesIn K C && (decide (PySem.W.findIn K (.ref C) "__init__" = some (some (.ref (He.ma K C "__init__")))) && (PySem.W.isFn K (.ref (He.ma K C "__init__")) && PySem.W.keepIn K (.ref C)))
def obfB (K : PySem.W.Frag) (c : Str) (xs ms : List Str) : Bool := clsB K (He.ga K c) && (xs.all (fun x => decide (PySem.W.findIn K (.ref (He.ga K c)) x = some none)) && (ms.all (methB K (He.ga K c)) && mkB K (He.ga K c)))
theorem and2 {a b : Bool} (h : (a && b) = true) : a = true ∧ b = true := (Bool.and_eq_true _ _).mp h
theorem obfB_ok {K : PySem.W.Frag} {mg : Str → Option Value} {c : Str} {xs ms : List Str} (h : obfB K c xs ms = true) (g : mg c = some (.ref (He.ga K c))) : ObF K mg c xs ms := by
  obtain ⟨h1, h⟩ := and2 h
  obtain ⟨h2, h⟩ := and2 h
  obtain ⟨h3, h4⟩ := and2 h
  obtain ⟨a1, a⟩ := and2 h1
  obtain ⟨a2, a⟩ := and2 a
  obtain ⟨a3, a4⟩ := and2 a
  obtain ⟨b1, b⟩ := and2 h4
  obtain ⟨b2, b⟩ := and2 b
  obtain ⟨b3, b4⟩ := and2 b
  exact ⟨g, ⟨a1, a2, a3, of_decide_eq_true a4⟩, fun x hx => by
    have z := of_decide_eq_true (p := PySem.W.findIn K (.ref (He.ga K c)) x = some none) (List.all_eq_true.1 h2 x hx)
    exact z, fun m hm => by
    obtain ⟨c1, c⟩ := and2 (List.all_eq_true.1 h3 m hm)
    obtain ⟨c2, c3⟩ := and2 c
    exact ⟨of_decide_eq_true c1, c2, c3⟩, ⟨b1, of_decide_eq_true b2, b3, b4⟩⟩
section
variable {P : Program} {w : World} {K : PySem.W.Frag} {mg : Str → Option Value} {base : Heap}
/-- a def's body as its function on data: the def at any address -/
theorem fn_bodyM {x qual : Str} {params : Arguments} {body : List Stmt} {scope : Scope} {fd : FuncData} {N ps : List Str} {k : Nat} {ds : DS} {f : Addr} (F : FunD K x qual params body scope [] [] f fd) (S : FnScope N ps scope) (hps : ps.length ≤ N.length)
    (hbody : ∀ (cdv : Value) (A : Around) (outer : List Env) (s : Shared) (H : Hp) (E : XK), Room k (A.deeper (PyProof.Rows.envOfC qual scope s.heap.objs.size f cdv)) →
      CSs (cxOf (L2N.CX P w) P w K mg base N qual scope f cdv A outer s H E) (fun cls d _ H => E cls d H) body ds) :
    FnOk P w K mg base (L2N.CX P w) (k + 1) f fd ps (spD K mg ps.length (bodyF N.length ds)) := by
  refine F.ok S (fun vs H Q E h => h.1) fun cdv A outer s H vs Q E hr h => ⟨_, hbody cdv A outer s H E hr, ?_⟩
  obtain ⟨hl, args, G, R, h⟩ := h
  have hn : vs.length ≤ N.length := by omega
  refine ⟨_, G, rel_start (N := N) R hn, ?_⟩
  have h' : RunF K mg args (vs.map some) G H (match ds (args ++ List.replicate (N.length - args.length) Sl.no) with
    | .nx e => .ok .none (outsOf args e)
    | .rt d e => .ok d (outsOf args e)
    | .rl xs e => .okl xs (outsOf args e)
    | .ex x e => .ex x (outsOf args e)
    | _ => .stuck) Q E := h
  cases q : ds (args ++ List.replicate (N.length - args.length) Sl.no) with
  | nx e =>
    rw [q] at h'
    exact fun σ' G' H' R' F' => let ⟨a, b, _⟩ := ends_fr R hn R' F'; h' .non G' H' a .non b
  | rt d e =>
    rw [q] at h'
    exact fun v σ' G' H' R' dv F' => let ⟨a, b, _⟩ := ends_fr R hn R' F'; h' v G' H' a dv b
  | rl d e =>
    rw [q] at h'
    exact fun a vs' σ' G' H' R' h1 h2 h3 h4 dv F' => let ⟨r, b, c⟩ := ends_fr R hn R' F'; h' a vs' G' H' r h1 h2 h3 (fun z => h4 (c a z)) dv b
  | ex x e =>
    rw [q] at h'
    exact fun cls dd σ' G' H' xr R' F' => let ⟨a, b, _⟩ := ends_fr R hn R' F'; h' cls dd G' H' xr a b
  | bk e => rw [q] at h'; exact h'.elim
  | ct e => rw [q] at h'; exact h'.elim
  | stuck => rw [q] at h'; exact h'.elim
/-- a method keeps what its function on data says -/
theorem calMt_of {c m qual : Str} {params : Arguments} {body : List Stmt} {scope : Scope} {N ps : List Str} {k : Nat} {ds : DS} {xs ms : List Str} (O : ObF K mg c xs ms) (hm : m ∈ ms) (D : ∃ fd, FunD K m qual params body scope [] [] (He.ma K (He.ga K c) m) fd) (S : FnScope N ps scope) (hps : ps.length ≤ N.length)
    (hb : ∀ (kV doc pm : Value) (an : Option Addr) (cdv ct : Value) (us : List Value), us.length = ps.length → bindArgs (PySem.W.fnOf m qual params body scope .none kV doc pm an cdv ct) ⟨us, []⟩ = pure (ps.zip us))
    (hbody : ∀ (cdv : Value) (A : Around) (outer : List Env) (s : Shared) (H : Hp) (E : XK), Room k (A.deeper (PyProof.Rows.envOfC qual scope s.heap.objs.size (He.ma K (He.ga K c) m) cdv)) →
      CSs (cxOf (L2N.CX P w) P w K mg base N qual scope (He.ma K (He.ga K c) m) cdv A outer s H E) (fun cls d _ H => E cls d H) body ds) :
    CalMt P w K mg base (k + 1) c m ps.length (bodyF N.length ds) := by
  obtain ⟨fd, F⟩ := D
  exact ⟨⟨fd, ps, rfl, fn_bodyM F S hps hbody, F.bindsN hb⟩, O.mt m hm⟩
/-- a maker likewise -/
theorem calMk_of {c qual : Str} {params : Arguments} {body : List Stmt} {scope : Scope} {N ps : List Str} {k : Nat} {ds : DS} {xs ms : List Str} (O : ObF K mg c xs ms) (D : ∃ fd, FunD K "__init__" qual params body scope [] [] (He.ma K (He.ga K c) "__init__") fd) (S : FnScope N ps scope) (hps : ps.length ≤ N.length)
    (hb : ∀ (kV doc pm : Value) (an : Option Addr) (cdv ct : Value) (us : List Value), us.length = ps.length → bindArgs (PySem.W.fnOf "__init__" qual params body scope .none kV doc pm an cdv ct) ⟨us, []⟩ = pure (ps.zip us))
    (hbody : ∀ (cdv : Value) (A : Around) (outer : List Env) (s : Shared) (H : Hp) (E : XK), Room k (A.deeper (PyProof.Rows.envOfC qual scope s.heap.objs.size (He.ma K (He.ga K c) "__init__") cdv)) →
      CSs (cxOf (L2N.CX P w) P w K mg base N qual scope (He.ma K (He.ga K c) "__init__") cdv A outer s H E) (fun cls d _ H => E cls d H) body ds) :
    CalMk P w K mg base (k + 1) c ps.length (bodyF N.length ds) := by
  obtain ⟨fd, F⟩ := D
  exact ⟨⟨fd, ps, rfl, fn_bodyM F S hps hbody, F.bindsN hb⟩, O.mkr, O.g⟩
end
end DL
set_option Elab.async false
set_option linter.all false
set_option maxRecDepth 100000
set_option autoImplicit false
set_option maxHeartbeats 4000000
namespace DL
open PySem L2 PySem.Spec PyProof.Rows
def makeX (c : Str) (np : Nat) (F : Df) (ds : List D) (e1 : DEnv) : Fl := if ds.length + 1 = np then match F (Sl.u (Tr.o c []) :: ds.map Sl.v) with
  | Fo.ok PyData.none _ => .nx e1
  | Fo.ex x _ => .ex x e1
  | _ => .stuck else .stuck
def sMakeX (c : Str) (np : Nat) (F : Df) (da : DA) : DS := fun env => (da env).fl (makeX c np F)
section
variable {X : Cx} {W : WX} {pos p2 : Pos} {j k np : Nat} {F : Df} {c : Str} {p : Pos} {e : Expr} {es : List Expr} {da : DA}
theorem cs_makeX (M : CalMk X.prog X.w X.K X.mg X.base j c np F) (hr : Room (k + 1) X.A) (hjk : j ≤ k) (tk : ∀ σ, PassesAt (L2N.CX X.prog X.w) X σ (WE W σ)) (ha : CA X W (e :: es) da) (hg : Gl X c := by rfl) (hdb : (c == ("__debug__" : Str)) = false := by decide)
    (hst : starEach (e :: es) X.env = (false, eval e X.env) :: starEach es X.env := by rfl) (hpl : (backTo p2 (starEach es X.env)).any (·.1) = false := by rfl)
    (hs : swapsWith (.Call (.Name c p) (e :: es) [] p2) none pos.line X.env = pure false := by rfl) :
    CS X W (.Expr (.Call (.Name c p) (e :: es) [] p2) pos) (sMakeX c np F da) := by
  obtain ⟨fd, ps, rfl, fn, bd⟩ := M.ex
  refine ps_imp (ps_expr (pe_makeE M.mkr fn (hr.mono (Nat.succ_le_succ hjk)) bd tk ha hg M.mg_ hdb hst hpl) hs) fun E σ H h => ?_
  obtain ⟨env, G, R, h⟩ := h
  refine ⟨env, G, R, ?_⟩
  unfold sMakeX at h
  cases q : da env with
  | stuck => rw [q] at h; exact h.elim
  | ex x e => rw [q] at h; exact RunXS.toX h
  | ok ds e1 =>
    rw [q] at h
    intro vs G1 H1 R1 dv F1 o dd ho hd ne
    have h : RunS X.K X.mg W e1 σ G1 H1 (makeX c ps.length F ds e1) E := RunS.shift h F1
    unfold makeX at h
    by_cases cn : ds.length + 1 = ps.length
    · rw [if_pos cn] at h
      refine ⟨by rw [List.length_cons, dv.length]; exact cn, _, G1, (new_args R1 dv ho hd ne).1, ?_⟩
      cases q2 : F (.u (.o c []) :: ds.map .v) with
      | stuck => rw [q2] at h; exact h.elim
      | okl _ _ => rw [q2] at h; exact h.elim
      | ex x outs =>
        rw [q2] at h
        intro cls dx G' H' xr R' F'
        obtain ⟨r1, r2, _⟩ := new_back R1 dv ho hd ne R' F'
        exact RunXS.toX h cls dx G' H' xr r1 r2
      | ok d outs =>
        rw [q2] at h
        intro v G' H' R' dv' F'
        obtain ⟨r1, r2, r3⟩ := new_back R1 dv ho hd ne R' F'
        cases d with
        | none =>
          cases dv'
          exact ⟨rfl, h σ G' H' r1 r2⟩
        | _ => exact h.elim
    · rw [if_neg cn] at h
      exact h.elim
end
def fAbs : List D → Option D
  | [.int i] => some (.int (if i < 0 then -i else i))
  | _ => none
theorem cd_abs {K : PySem.W.Frag} : CbD K (fun xs H Q => ∃ i, xs = [V.int i] ∧ Q (.int (if i < 0 then -i else i)) H) fAbs := fun xs ds z G H Q hx ex hf k => by
  match ds, hx, hf with
  | [.int i], .cons (.int _) .nil, hf =>
    cases hf
    exact ⟨i, rfl, k _ G H (.int _) (Grow.refl ex)⟩
end DL
set_option Elab.async false
set_option linter.all false
set_option maxRecDepth 100000
set_option autoImplicit false
set_option maxHeartbeats 4000000
namespace DL
open PySem L2 PySem.Spec PyProof.Rows
end DL
set_option Elab.async false
set_option linter.all false
set_option maxRecDepth 100000
set_option autoImplicit false
set_option maxHeartbeats 8000000
namespace DL
open PySem L2 PySem.Spec PyProof.Rows
end DL
set_option Elab.async false
set_option linter.all false
set_option maxRecDepth 100000
set_option autoImplicit false
set_option maxHeartbeats 4000000
namespace DL
open PySem L2 PySem.Spec PyProof.Rows
end DL
set_option Elab.async false
set_option linter.all false
set_option maxRecDepth 100000
set_option autoImplicit false
set_option maxHeartbeats 4000000
namespace DL
open PySem L2 PySem.Spec PyProof.Rows
theorem O_thenL {K : PySem.W.Frag} {mg : Str → Option Value} {W : WX} {env : DEnv} {σ : L2.St} {G H : Hp} {p : Pt} {f : Option Int → DEnv → Rs (List D)} {Q : VK} {R : Option Int → Hp → Prop} (hR : Rel K env σ G H) (h : RunL K mg W env σ G H ((p.run env).bind f) Q)
    (k : ∀ o e1 G1 H1, p.run env = .ok o e1 → Rel K e1 σ G1 H1 → Fr env σ G H e1 σ G1 H1 → RunL K mg W e1 σ G1 H1 (f o e1) Q → R o H1) : rdO K mg W p σ H R := by
  refine ⟨env, G, hR, ?_⟩
  cases q : p.run env with
  | ok d e1 =>
    rw [q] at h
    exact fun G1 H1 a c => k d e1 G1 H1 q a c (RunL.shift h c)
  | ex x e => rw [q] at h; exact h
  | stuck => rw [q] at h; exact h
def lSlK (i : Nat) (l u : Option Int) (e2 : DEnv) : Rs (List D) := match seeL i e2 with
  | some xs => .ok (cutD xs l u) e2
  | none => .stuck
def lSlA (i : Nat) (pl ph : Pt) : DA := fun env => match seeL i env with
  | some _ => (pl.run env).bind fun l e1 => (ph.run e1).bind fun u e2 => lSlK i l u e2
  | none => .stuck
section
variable {X : Cx} {W : WX} {pos p p2 : Pos} {x : Str} {i : Nat} {lo hi : Option Expr} {pl ph : Pt}
theorem cl_slA (i : Nat) (hl : CO X W lo pl) (hh : CO X W hi ph) (hN : X.N[i]? = some x := by rfl) (hv : Vis X.env.scope x := by first | exact Or.inl rfl | exact Or.inr (Or.inl rfl) | exact Or.inr (Or.inr rfl)) (hd : (x == ("__debug__" : Str)) = false := by decide) (hcd : (x == ("__classdict__" : Str)) = false := by decide) :
    CL X W (.Subscript (.Name x p) (.Slice lo hi none p2) pos) (lSlA i pl ph) := pe_imp (pe_slice sl_any (pe_var hN hv hd hcd) hl hh) fun σ H Q h => by
  obtain ⟨env, G, R, h⟩ := h
  unfold lSlA at h
  cases q : seeL i env with
  | none => rw [q] at h; exact h.elim
  | some xs0 =>
    rw [q] at h
    obtain ⟨a, vs, x1, x2, x4⟩ := see_list R q
    refine ⟨_, x1, O_thenL R h fun l e1 G1 H1 _ R1 F1 h1 => O_thenL R1 h1 fun u e2 G2 H2 _ R2 F2 h2 => ?_⟩
    unfold lSlK at h2
    cases q2 : seeL i e2 with
    | none => rw [q2] at h2; exact h2.elim
    | some xs =>
      rw [q2] at h2
      obtain ⟨a', vs', y1, y2, y4⟩ := see_list R2 q2
      rw [x1] at y1
      cases y1
      exact .inr (.inl ⟨a, vs', rfl, y2, fun p hp => RunL.new R2 h2 hp (cut_dv y4 l u)⟩)
end
end DL
set_option Elab.async false
set_option linter.all false
set_option maxRecDepth 100000
set_option maxHeartbeats 4000000
namespace LW
open PySem L2 DL
noncomputable section
def b__law_take : DS :=
    (sSeq (sIf ((tTst (eBin dGt ((eIxN 0 (eC (.int 0)))) (eC (.int 0))))) (sSeq (sAsg ((eBin dMod ((eIxN 0 (eC (.int 0)))) (eVar 1))) (gN 2))
    (sSeq (sSetO 0 (eC (.int 0)) ((eBin dFdiv ((eIxN 0 (eC (.int 0)))) (eVar 1))))
    (sRet (eVar 2)))) sNx)
    (sSeq (sSetO 0 (eC (.int 1)) ((eBin dMod ((eBin dMulT ((eIxN 0 (eC (.int 1)))) (eC (.int 48271)))) (eC (.int 2147483647)))))
    (sRet ((eBin dMod ((eBin dFdiv ((eBin dMod ((eBin dMulT ((eIxN 0 (eC (.int 1)))) ((eIxN 0 (eC (.int 1)))))) (eC (.int 2147483629)))) (eC (.int 64)))) (eVar 1))))))
def f__law_take : Df := bodyF 3 b__law_take
def b__law_bag : DS :=
    (sSeq (sAsg (eC (.int 0)) (gN 2))
    (sSeq (sIf ((tTst (eBin dLt (eVar 1) ((eCB fLen (aCons (eVar 0) aNil)))))) (sAsg ((eBin dMod ((eIxN 0 (eVar 1))) ((eBin dMulT ((eBin dPow (eC (.int 10)) (eC (.int 60)))) ((eBin dPow (eC (.int 10)) (eC (.int 60)))))))) (gN 2)) sNx)
    (sSeq (sIf ((tTst (eBin dLt (eVar 2) ((eBin dPow (eC (.int 10)) (eC (.int 18))))))) (sRetL (lLst (aCons (eC (.int 0)) (aCons ((eBin dAdd (eC (.int 1)) ((eBin dMod ((eBin dAdd ((eBin dMulT (eVar 2) (eC (.int 7919)))) ((eBin dMulT (eC (.int 104729)) (eVar 1))))) (eC (.int 2147483646)))))) aNil)))) sNx)
    (sRetL (lLst (aCons (eVar 2) (aCons ((eBin dAdd (eC (.int 1)) ((eBin dMod ((eBin dAdd (eVar 2) (eVar 1))) (eC (.int 2147483646)))))) aNil)))))))
def f__law_bag : Df := bodyF 3 b__law_bag
def b__law_skin : DS :=
    (sSeq (sAsg ((eBin dAdd (eC (.int 1)) ((eCallN 2 f__law_take (rLendC 0 (rCons (eVar 1) rNil)))))) (gN 2))
    (sSeq (sAsgL 3 (lLst aNil))
    (sSeq (sFor (iRng1 (aCons (eVar 2) aNil)) (gN 4) (sDrop ((eMO 3 mInsert (aCons ((eCallN 2 f__law_take (rLendC 0 (rCons ((eBin dAdd (eVar 4) (eC (.int 1)))) rNil)))) (aCons (eVar 4) aNil))))))
    (sSeq (sAsgL 5 (lRep (lLst (aCons (eC (.int 0)) aNil)) (eVar 2)))
    (sSeq (sAsg ((eBin dIx ((eLst ((lLst (aCons ((eBin dAdd (eC (.int 1)) ((eCallN 2 f__law_take (rLendC 0 (rCons (eC (.int 6)) rNil)))))) (aCons (eC (.int 3)) (aCons (eVar 2) aNil))))))) ((eCallN 2 f__law_take (rLendC 0 (rCons (eC (.int 3)) rNil)))))) (gN 6))
    (sSeq (sAsg ((eLst ((lListA 3)))) (gN 7))
    (sSeq (whileD ((tTst (eBin dNe (eVar 7) ((eLst ((lLst aNil))))))) (sSeq (sAsg ((eCB fMin (aCons ((eCB fLen (aCons (eVar 7) aNil))) (aCons ((eBin dIx ((eLst ((lLst (aCons (eVar 6) (aCons ((eBin dAdd (eC (.int 1)) ((eCallN 2 f__law_take (rLendC 0 (rCons (eVar 6) rNil)))))) aNil)))))) ((eCallN 2 f__law_take (rLendC 0 (rCons (eC (.int 2)) rNil)))))) aNil)))) (gN 8))
    (sSeq (sAsg ((eSl (eVar 7) .no (.of (eVar 8)))) (gN 9))
    (sSeq (sAsg ((eSl (eVar 7) (.of (eVar 8)) .no)) (gN 7))
    (sFor (iRng1 (aCons (eVar 8) aNil)) (gN 10) (sSetO 5 ((eIxN 9 ((eBin dSub (eVar 10) (eC (.int 1)))))) ((eIxN 9 (eVar 10)))))))) FUEL)
    (sSeq (sAsgL 11 (lRep (lLst (aCons (eC .none) aNil)) (eVar 2)))
    (sSeq (sAsg ((eBin dIx ((eLst ((lLst (aCons (eC (.int 2)) (aCons (eC (.int 5)) (aCons (eC (.int 99)) aNil))))))) ((eCallN 2 f__law_take (rLendC 0 (rCons (eC (.int 3)) rNil)))))) (gN 12))
    (sSeq (sAsgL 13 (lRange1 (eVar 2)))
    (sSeq (whileD ((tTst (eBin dGt ((eLenO 13)) (eC (.int 1))))) (sSeq (sAsg ((eMO 13 mPopAt (aCons ((eCallN 2 f__law_take (rLendC 0 (rCons ((eLenO 13)) rNil)))) aNil))) (gN 14))
    (sSeq (sAsg ((eMO 13 mPopAt (aCons ((eCallN 2 f__law_take (rLendC 0 (rCons ((eLenO 13)) rNil)))) aNil))) (gN 15))
    (sIf ((tTst (eBin dGt ((eCallN 2 f__law_take (rLendC 0 (rCons (eVar 12) rNil)))) (eC (.int 0))))) (sSeq (sSetO 11 (eVar 14) (eVar 15))
    (sSetO 11 (eVar 15) (eVar 14))) sNx))) FUEL)
    (sRet ((eTup ((aCons ((eTupO 5)) (aCons ((eTupO 11)) aNil)))))))))))))))))
def f__law_skin : Df := bodyF 16 b__law_skin
def b_look_at_half : DS :=
    (sIf ((tOrD ((tTst (eBin dLt (eVar 1) (eC (.int 0))))) ((tTst (eBin dGe (eVar 1) ((eCB fLen (aCons ((eIxN 0 (eC (.int 0)))) aNil)))))))) (sRaise "NoHalf") sNx)
def f_look_at_half : Df := bodyF 2 b_look_at_half
def b_ahead_of : DS :=
    (sSeq (sDrop ((eCallN 2 f_look_at_half (rCons (eVar 0) (rCons (eVar 1) rNil)))))
    (sRet ((eIndex ((eIxN 0 (eC (.int 0)))) (eVar 1)))))
def f_ahead_of : Df := bodyF 2 b_ahead_of
def b_left_of : DS :=
    (sRet ((eBin dIx ((eIxN 0 (eC (.int 1)))) ((eCallN 2 f_ahead_of (rCons (eVar 0) (rCons (eVar 1) rNil)))))))
def f_left_of : Df := bodyF 2 b_left_of
def b_right_of : DS :=
    (sSeq (sDrop ((eCallN 2 f_look_at_half (rCons (eVar 0) (rCons (eVar 1) rNil)))))
    (sSeq (sAsg ((eBin dIx ((eIxN 0 (eC (.int 1)))) (eVar 1))) (gN 2))
    (sSeq (sIf ((tTst (eBin dIs (eVar 2) (eC .none)))) (sRet (eC .none)) sNx)
    (sRet ((eBin dIx ((eIxN 0 (eC (.int 0)))) (eVar 2)))))))
def f_right_of : Df := bodyF 3 b_right_of
def b_patch_of : DS :=
    (sSeq (sDrop ((eCallN 2 f_look_at_half (rCons (eVar 0) (rCons (eVar 1) rNil)))))
    (sSeq (sAsgL 2 (lLst (aCons (eVar 1) aNil)))
    (sSeq (sAsg ((eBin dIx ((eIxN 0 (eC (.int 0)))) (eVar 1))) (gN 3))
    (sSeq (whileD ((tTst (eBin dNe (eVar 3) (eVar 1)))) (sSeq (sDrop ((eMO 2 mAppend (aCons (eVar 3) aNil))))
    (sAsg ((eBin dIx ((eIxN 0 (eC (.int 0)))) (eVar 3))) (gN 3))) FUEL)
    (sRet ((eTupO 2)))))))
def f_patch_of : Df := bodyF 4 b_patch_of
def b_round_knot : DS :=
    (sSeq (sAsg (eVar 1) (gN 2))
    (sSeq (sAsg ((eCallN 2 f_right_of (rCons (eVar 0) (rCons (eVar 1) rNil)))) (gN 3))
    (sSeq (whileD ((tAndD ((tTst (eBin dIsnt (eVar 3) (eC .none)))) ((tTst (eBin dNe (eVar 3) (eVar 1)))))) (sSeq (sAsg (eVar 3) (gN 2))
    (sAsg ((eCallN 2 f_right_of (rCons (eVar 0) (rCons (eVar 3) rNil)))) (gN 3))) FUEL)
    (sSeq (sIf ((tTst (eBin dEq (eVar 3) (eVar 1)))) (sAsg (eVar 1) (gN 2)) sNx)
    (sSeq (sAsgL 4 (lLst (aCons (eVar 2) aNil)))
    (sSeq (sAsg ((eCallN 2 f_left_of (rCons (eVar 0) (rCons (eVar 2) rNil)))) (gN 3))
    (sSeq (whileD ((tAndD ((tTst (eBin dIsnt (eVar 3) (eC .none)))) ((tTst (eBin dNe (eVar 3) (eVar 2)))))) (sSeq (sDrop ((eMO 4 mAppend (aCons (eVar 3) aNil))))
    (sAsg ((eCallN 2 f_left_of (rCons (eVar 0) (rCons (eVar 3) rNil)))) (gN 3))) FUEL)
    (sRet ((eTupO 4))))))))))
def f_round_knot : Df := bodyF 5 b_round_knot
def b__law_left : DS :=
    (sRet ((eBin dIx ((eIxN 0 (eC (.int 1)))) ((eIndex ((eIxN 0 (eC (.int 0)))) (eVar 1))))))
def f__law_left : Df := bodyF 2 b__law_left
def b__law_right : DS :=
    (sSeq (sIf ((tTst (eBin dIs ((eBin dIx ((eIxN 0 (eC (.int 1)))) (eVar 1))) (eC .none)))) (sRet (eC .none)) sNx)
    (sRet ((eBin dIx ((eIxN 0 (eC (.int 0)))) ((eBin dIx ((eIxN 0 (eC (.int 1)))) (eVar 1)))))))
def f__law_right : Df := bodyF 2 b__law_right
def b__law_kinds (a : Addr) (d : Option Addr) (c : Str) : DS :=
    (sSeq (sAsgL 1 (lLst (aCons ((eIsE a d 0 (c == "Harm"))) (aCons ((eIsE a d 0 (c == "NoHalf"))) (aCons ((eIsE a d 0 (c == "NoMarks"))) (aCons ((eIsE a d 0 (c == "NoPlain"))) aNil))))))
    (sSeq (sAsgL 1 (eBinL dCat (eVar 1) ((eLst ((lLst (aCons ((eIsE a d 0 (c == "NoRim"))) (aCons ((eIsE a d 0 (c == "NoRow"))) (aCons ((eIsE a d 0 (c == "NoSkin"))) (aCons ((eIsE a d 0 (c == "NoText"))) aNil))))))))))
    (sSeq (sAsgL 1 (eBinL dCat (eVar 1) ((eLst ((lLst (aCons ((eIsE a d 0 (c == "NothingLeft"))) (aCons ((eIsE a d 0 (c == "TooMany"))) (aCons ((eIsE a d 0 (c == "Unfit"))) (aCons ((eIsE a d 0 (c == "Unlike"))) aNil))))))))))
    (sSeq (sAsg ((eLst ((lLst (aCons (eC (.str "Harm")) (aCons (eC (.str "NoHalf")) (aCons (eC (.str "NoMarks")) (aCons (eC (.str "NoPlain")) (aCons (eC (.str "NoRim")) (aCons (eC (.str "NoRow")) (aCons (eC (.str "NoSkin")) (aCons (eC (.str "NoText")) (aCons (eC (.str "NothingLeft")) (aCons (eC (.str "TooMany")) aNil)))))))))))))) (gN 2))
    (sSeq (sAsg ((eLst ((eBinL dCat (eVar 2) ((eLst ((lLst (aCons (eC (.str "Unfit")) (aCons (eC (.str "Unlike")) (aCons (eC (.str "+")) aNil))))))))))) (gN 2))
    (sSeq (sDrop ((eMO 1 mAppend (aCons ((eIsE a d 0 true)) aNil))))
    (sRet ((eJoin (eC (.str "")) ((eLst ((lComp (iRng1 (aCons (eC (.int 13)) aNil)) (gN 3) (tTru ((eIxN 1 (eVar 3)))) ((eIxN 2 (eVar 3))) [3])))))))))))))
def f__law_kinds : DfX := fun a d c => bodyF 4 (b__law_kinds a d c)
theorem rng13 : iRng1 (aCons (eC (.int 13)) aNil) = fun env => .ok (rngD 0 13) env := by
  funext env
  show (if I62 13 then Rs.ok (rngD 0 13) env else .stuck) = _
  rw [if_pos (i62_of (by decide) (by decide))]
theorem isE_at {a : Addr} {d : Option Addr} {b : Bool} {f : Option (Str × D)} {r : DEnv} : eIsE a d 0 b (.a a d f :: r) = .ok (.bool b) (.a a d f :: r) := by
  show (if a = a ∧ d = d then _ else _) = _
  rw [if_pos ⟨rfl, rfl⟩]
theorem acons_at {de : DE} {da : DA} {x : D} {xs : List D} {e e1 e2 : DEnv} (h : de e = .ok x e1) (h2 : da e1 = .ok xs e2) : aCons de da e = .ok (x :: xs) e2 := by
  show (de e).bind _ = _
  rw [h]
  show (da e1).bind _ = _
  rw [h2]
  rfl
theorem isE4 {a : Addr} {d : Option Addr} {f : Option (Str × D)} (b1 b2 b3 b4 : Bool) (r : DEnv) : lLst (aCons (eIsE a d 0 b1) (aCons (eIsE a d 0 b2) (aCons (eIsE a d 0 b3) (aCons (eIsE a d 0 b4) aNil)))) (.a a d f :: r) = .ok [.bool b1, .bool b2, .bool b3, .bool b4] (.a a d f :: r) := by
  unfold lLst
  rw [acons_at isE_at (acons_at isE_at (acons_at isE_at (acons_at isE_at (da := aNil) (xs := []) (e2 := .a a d f :: r) rfl)))]
  rfl
theorem kin13 {a : Addr} {d : Option Addr} {f : Option (Str × D)} {b1 b2 b3 b4 b5 b6 b7 b8 b9 b10 b11 b12 : Bool} :
    (sSeq (sAsgL 1 (lLst (aCons (eIsE a d 0 b1) (aCons (eIsE a d 0 b2) (aCons (eIsE a d 0 b3) (aCons (eIsE a d 0 b4) aNil))))))
    (sSeq (sAsgL 1 (eBinL dCat (eVar 1) (eLst (lLst (aCons (eIsE a d 0 b5) (aCons (eIsE a d 0 b6) (aCons (eIsE a d 0 b7) (aCons (eIsE a d 0 b8) aNil))))))))
    (sSeq (sAsgL 1 (eBinL dCat (eVar 1) (eLst (lLst (aCons (eIsE a d 0 b9) (aCons (eIsE a d 0 b10) (aCons (eIsE a d 0 b11) (aCons (eIsE a d 0 b12) aNil))))))))
    (sSeq (sAsg (eLst (lLst (aCons (eC (.str "Harm")) (aCons (eC (.str "NoHalf")) (aCons (eC (.str "NoMarks")) (aCons (eC (.str "NoPlain")) (aCons (eC (.str "NoRim")) (aCons (eC (.str "NoRow")) (aCons (eC (.str "NoSkin")) (aCons (eC (.str "NoText")) (aCons (eC (.str "NothingLeft")) (aCons (eC (.str "TooMany")) aNil)))))))))))) (gN 2))
    (sSeq (sAsg (eLst (eBinL dCat (eVar 2) (eLst (lLst (aCons (eC (.str "Unfit")) (aCons (eC (.str "Unlike")) (aCons (eC (.str "+")) aNil))))))) (gN 2))
    (sSeq (sDrop (eMO 1 mAppend (aCons (eIsE a d 0 true) aNil)))
    (sRet (eJoin (eC (.str "")) (eLst (lComp (fun env => .ok (rngD 0 13) env) (gN 3) (tTru (eIxN 1 (eVar 3))) (eIxN 2 (eVar 3)) [3])))))))))) [.a a d f, .no, .no, .no] = (sRet (eJoin (eC (.str "")) (eLst (lComp (fun env => .ok (rngD 0 13) env) (gN 3) (tTru (eIxN 1 (eVar 3))) (eIxN 2 (eVar 3)) [3])))) [.a a d f, .l ([.bool b1, .bool b2, .bool b3, .bool b4, .bool b5, .bool b6, .bool b7, .bool b8, .bool b9, .bool b10, .bool b11, .bool b12] ++ [.bool true]), .v (.list [.str "Harm", .str "NoHalf", .str "NoMarks", .str "NoPlain", .str "NoRim", .str "NoRow", .str "NoSkin", .str "NoText", .str "NothingLeft", .str "TooMany", .str "Unfit", .str "Unlike", .str "+"]), .no] := by
  generalize (sRet (eJoin (eC (.str "")) (eLst (lComp (fun env => .ok (rngD 0 13) env) (gN 3) (tTru (eIxN 1 (eVar 3))) (eIxN 2 (eVar 3)) [3])))) = k
  have s1 : ∀ k : DS, sSeq (sAsgL 1 (lLst (aCons (eIsE a d 0 b1) (aCons (eIsE a d 0 b2) (aCons (eIsE a d 0 b3) (aCons (eIsE a d 0 b4) aNil)))))) k [.a a d f, .no, .no, .no] = k [.a a d f, .l [.bool b1, .bool b2, .bool b3, .bool b4], .no, .no] := fun k => by
    unfold sSeq sAsgL
    rw [isE4]
    rfl
  have s2 : ∀ k : DS, sSeq (sAsgL 1 (eBinL dCat (eVar 1) (eLst (lLst (aCons (eIsE a d 0 b5) (aCons (eIsE a d 0 b6) (aCons (eIsE a d 0 b7) (aCons (eIsE a d 0 b8) aNil)))))))) k [.a a d f, .l [.bool b1, .bool b2, .bool b3, .bool b4], .no, .no] = k [.a a d f, .l [.bool b1, .bool b2, .bool b3, .bool b4, .bool b5, .bool b6, .bool b7, .bool b8], .no, .no] := fun k => by
    show (((((lLst (aCons (eIsE a d 0 b5) (aCons (eIsE a d 0 b6) (aCons (eIsE a d 0 b7) (aCons (eIsE a d 0 b8) aNil))))) (.a a d f :: [.v (.list [.bool b1, .bool b2, .bool b3, .bool b4]), .no, .no])).bind _).bind _).fl _).seq k = _
    rw [isE4]
    rfl
  have s3 : ∀ k : DS, sSeq (sAsgL 1 (eBinL dCat (eVar 1) (eLst (lLst (aCons (eIsE a d 0 b9) (aCons (eIsE a d 0 b10) (aCons (eIsE a d 0 b11) (aCons (eIsE a d 0 b12) aNil)))))))) k [.a a d f, .l [.bool b1, .bool b2, .bool b3, .bool b4, .bool b5, .bool b6, .bool b7, .bool b8], .no, .no] = k [.a a d f, .l [.bool b1, .bool b2, .bool b3, .bool b4, .bool b5, .bool b6, .bool b7, .bool b8, .bool b9, .bool b10, .bool b11, .bool b12], .no, .no] := fun k => by
    show (((((lLst (aCons (eIsE a d 0 b9) (aCons (eIsE a d 0 b10) (aCons (eIsE a d 0 b11) (aCons (eIsE a d 0 b12) aNil))))) (.a a d f :: [.v (.list [.bool b1, .bool b2, .bool b3, .bool b4, .bool b5, .bool b6, .bool b7, .bool b8]), .no, .no])).bind _).bind _).fl _).seq k = _
    rw [isE4]
    rfl
  rw [s1, s2, s3]
  show (sSeq (sDrop (eMO 1 mAppend (aCons (eIsE a d 0 true) aNil))) k) [.a a d f, .l [.bool b1, .bool b2, .bool b3, .bool b4, .bool b5, .bool b6, .bool b7, .bool b8, .bool b9, .bool b10, .bool b11, .bool b12], .v (.list [.str "Harm", .str "NoHalf", .str "NoMarks", .str "NoPlain", .str "NoRim", .str "NoRow", .str "NoSkin", .str "NoText", .str "NothingLeft", .str "TooMany", .str "Unfit", .str "Unlike", .str "+"]), .no] = _
  have q : aCons (eIsE a d 0 true) aNil [.a a d f, .l [.bool b1, .bool b2, .bool b3, .bool b4, .bool b5, .bool b6, .bool b7, .bool b8, .bool b9, .bool b10, .bool b11, .bool b12], .v (.list [.str "Harm", .str "NoHalf", .str "NoMarks", .str "NoPlain", .str "NoRim", .str "NoRow", .str "NoSkin", .str "NoText", .str "NothingLeft", .str "TooMany", .str "Unfit", .str "Unlike", .str "+"]), .no] = .ok [.bool true] [.a a d f, .l [.bool b1, .bool b2, .bool b3, .bool b4, .bool b5, .bool b6, .bool b7, .bool b8, .bool b9, .bool b10, .bool b11, .bool b12], .v (.list [.str "Harm", .str "NoHalf", .str "NoMarks", .str "NoPlain", .str "NoRim", .str "NoRow", .str "NoSkin", .str "NoText", .str "NothingLeft", .str "TooMany", .str "Unfit", .str "Unlike", .str "+"]), .no] := acons_at isE_at (da := aNil) (xs := []) rfl
  show ((((aCons (eIsE a d 0 true) aNil [.a a d f, .l [.bool b1, .bool b2, .bool b3, .bool b4, .bool b5, .bool b6, .bool b7, .bool b8, .bool b9, .bool b10, .bool b11, .bool b12], .v (.list [.str "Harm", .str "NoHalf", .str "NoMarks", .str "NoPlain", .str "NoRim", .str "NoRow", .str "NoSkin", .str "NoText", .str "NothingLeft", .str "TooMany", .str "Unfit", .str "Unlike", .str "+"]), .no])).bind _).fl _).seq k = _
  rw [q]
  rfl
theorem kinds_ok : KindsF f__law_kinds := fun a d f c hc => by
  unfold f__law_kinds bodyF b__law_kinds
  rw [rng13]
  show (match (sSeq _ _) [.a a d f, .no, .no, .no] with
    | .nx e => Fo.ok .none (outsOf [.a a d f] e)
    | .rt d1 e => Fo.ok d1 (outsOf [.a a d f] e)
    | .rl xs e => Fo.okl xs (outsOf [.a a d f] e)
    | .ex x e => Fo.ex x (outsOf [.a a d f] e)
    | _ => Fo.stuck) = _
  rw [kin13]
  simp only [kNames, List.mem_cons, List.not_mem_nil, or_false] at hc
  rcases hc with rfl | rfl | rfl | rfl | rfl | rfl | rfl | rfl | rfl | rfl | rfl | rfl
  all_goals kernel_rfl
def b__law_knot : DS :=
    (sSeq (sAsgL 2 (lLst (aCons (eVar 1) aNil)))
    (sSeq (whileD ((tTst (eBin dNotInS ((eCallN 2 f__law_left (rCons (eVar 0) (rCons ((eIxN 2 (eC (.int (-1))))) rNil)))) ((eTup ((aCons (eC .none) (aCons (eVar 1) aNil)))))))) (sDrop ((eMO 2 mAppend (aCons ((eCallN 2 f__law_left (rCons (eVar 0) (rCons ((eIxN 2 (eC (.int (-1))))) rNil)))) aNil)))) FUEL)
    (sSeq (sIf ((tTst (eBin dIs ((eCallN 2 f__law_left (rCons (eVar 0) (rCons ((eIxN 2 (eC (.int (-1))))) rNil)))) (eC .none)))) (whileD ((tTst (eBin dIsnt ((eCallN 2 f__law_right (rCons (eVar 0) (rCons ((eIxN 2 (eC (.int 0)))) rNil)))) (eC .none)))) (sDrop ((eMO 2 mInsert (aCons (eC (.int 0)) (aCons ((eCallN 2 f__law_right (rCons (eVar 0) (rCons ((eIxN 2 (eC (.int 0)))) rNil)))) aNil))))) FUEL) sNx)
    (sRet ((eTupO 2))))))
def f__law_knot : Df := bodyF 3 b__law_knot
def b__law_patch : DS :=
    (sSeq (sAsgL 2 (lLst (aCons (eVar 1) aNil)))
    (sSeq (whileD ((tTst (eBin dNe ((eBin dIx ((eIxN 0 (eC (.int 0)))) ((eIxN 2 (eC (.int (-1))))))) (eVar 1)))) (sDrop ((eMO 2 mAppend (aCons ((eBin dIx ((eIxN 0 (eC (.int 0)))) ((eIxN 2 (eC (.int (-1))))))) aNil)))) FUEL)
    (sRet ((eTupO 2)))))
def f__law_patch : Df := bodyF 3 b__law_patch
def b_look_at_times : DS :=
    (sIf ((tOrD ((tTst (eBin dLt (eVar 0) (eC (.int 0))))) ((tTst (eBin dGt (eVar 0) (eC (.int 1000000000000000000000000000000))))))) (sRaise "TooMany") sNx)
def f_look_at_times : Df := bodyF 1 b_look_at_times
def b__law_goal : DS :=
    (sSeq (sIf ((tTst (eBin dEq (eVar 2) (eC (.str "over"))))) (sSeq (sAsg ((eBin dIx ((eIxN 0 (eC (.int 1)))) (eVar 1))) (gN 4))
    (sRet ((eIf ((tTst (eBin dIs (eVar 4) (eC .none)))) ((eTup ((aCons (eVar 1) (aCons (eC (.int 0)) aNil))))) ((eTup ((aCons (eVar 4) (aCons (eC (.int 1)) aNil))))))))) sNx)
    (sSeq (sIf ((tOrD ((tTst (eBin dEq (eVar 2) (eC (.str "on"))))) ((tTst (eBin dEq (eVar 2) (eC (.str "ahead"))))))) (sSeq (sAsg ((eCallN 2 f__law_patch (rCons (eVar 0) (rCons (eVar 1) rNil)))) (gN 5))
    (sRet ((eTup ((aCons ((eIxN 5 ((eBin dMod ((eBin dIx ((eLst ((lLst (aCons (eVar 3) (aCons ((eBin dSub (eC (.int 0)) (eVar 3))) aNil)))))) ((eCB fInt (aCons ((eBin dEq (eVar 2) (eC (.str "ahead")))) aNil))))) ((eCB fLen (aCons (eVar 5) aNil))))))) (aCons (eVar 3) aNil))))))) sNx)
    (sSeq (sAsg ((eCallN 2 f__law_knot (rCons (eVar 0) (rCons (eVar 1) rNil)))) (gN 5))
    (sSeq (sAsg ((eIndex (eVar 5) (eVar 1))) (gN 6))
    (sSeq (sIf ((tTst (eBin dIsnt ((eBin dIx ((eIxN 0 (eC (.int 1)))) ((eIxN 5 (eC (.int 0)))))) (eC .none)))) (sRet ((eTup ((aCons ((eIxN 5 ((eBin dMod ((eBin dAdd (eVar 6) ((eBin dIx ((eLst ((lLst (aCons (eVar 3) (aCons ((eBin dSub (eC (.int 0)) (eVar 3))) aNil)))))) ((eCB fInt (aCons ((eBin dEq (eVar 2) (eC (.str "right")))) aNil))))))) ((eCB fLen (aCons (eVar 5) aNil))))))) (aCons (eVar 3) aNil)))))) sNx)
    (sSeq (sAsg ((eBin dIx ((eLst ((lLst (aCons ((eBin dSub ((eBin dSub ((eCB fLen (aCons (eVar 5) aNil))) (eC (.int 1)))) (eVar 6))) (aCons (eVar 6) aNil)))))) ((eCB fInt (aCons ((eBin dEq (eVar 2) (eC (.str "right")))) aNil))))) (gN 7))
    (sSeq (sAsg ((eCB fMin (aCons (eVar 7) (aCons (eVar 3) aNil)))) (gN 8))
    (sRet ((eTup ((aCons ((eIxN 5 ((eBin dAdd (eVar 6) ((eBin dIx ((eLst ((lLst (aCons (eVar 8) (aCons ((eBin dSub (eC (.int 0)) (eVar 8))) aNil)))))) ((eCB fInt (aCons ((eBin dEq (eVar 2) (eC (.str "right")))) aNil))))))))) (aCons (eVar 8) aNil)))))))))))))
def f__law_goal : Df := bodyF 9 b__law_goal
end
end LW
set_option Elab.async false
set_option linter.all false
set_option maxRecDepth 100000
set_option maxHeartbeats 4000000
namespace K35
open PySem L2 DL LW
noncomputable section
def b_Walker_back : DS :=
    (sSeq (sIf ((tTst (eBin dEq ((eFLen "Walker" 0 "stands")) (eC (.int 1))))) (sRaise "NothingLeft") sNx)
    (sDrop ((eFM0 "Walker" 0 "stands" mPop))))
def f_Walker_back : Df := bodyF 1 b_Walker_back
def b_Walker_go_to : DS :=
    (sSeq (sDrop ((eFM1 "Walker" 0 "stands" mAppend (eVar 1))))
    (sRet (eVar 2)))
def f_Walker_go_to : Df := bodyF 3 b_Walker_go_to
def b_Walker_at : DS :=
    (sRet ((eFIx "Walker" 0 "stands" (eC (.int (-1))))))
def f_Walker_at : Df := bodyF 1 b_Walker_at
def b_Walker_on : DS :=
    (sSeq (sDrop ((eCallN 1 f_look_at_times (rCons (eVar 1) rNil))))
    (sSeq (sAsg ((eCallN 2 f_patch_of (rCons ((eFldO "Walker" 0 "cloth")) (rCons ((eMeth "Walker" 0 "at" 1 f_Walker_at rNil)) rNil)))) (gN 2))
    (sRet ((eMeth "Walker" 0 "go_to" 3 f_Walker_go_to (rCons ((eIxN 2 ((eBin dMod (eVar 1) ((eCB fLen (aCons (eVar 2) aNil))))))) (rCons (eVar 1) rNil)))))))
def f_Walker_on : Df := bodyF 3 b_Walker_on
def b_Walker_ahead : DS :=
    (sSeq (sDrop ((eCallN 1 f_look_at_times (rCons (eVar 1) rNil))))
    (sSeq (sAsg ((eCallN 2 f_patch_of (rCons ((eFldO "Walker" 0 "cloth")) (rCons ((eMeth "Walker" 0 "at" 1 f_Walker_at rNil)) rNil)))) (gN 2))
    (sRet ((eMeth "Walker" 0 "go_to" 3 f_Walker_go_to (rCons ((eIxN 2 ((eBin dMod ((eBin dSub (eC (.int 0)) (eVar 1))) ((eCB fLen (aCons (eVar 2) aNil))))))) (rCons (eVar 1) rNil)))))))
def f_Walker_ahead : Df := bodyF 3 b_Walker_ahead
def b_Walker_turned_by : DS :=
    (sSeq (sAsg ((eCallN 2 f_round_knot (rCons ((eFldO "Walker" 0 "cloth")) (rCons ((eMeth "Walker" 0 "at" 1 f_Walker_at rNil)) rNil)))) (gN 2))
    (sSeq (sAsg ((eBin dAdd ((eIndex (eVar 2) ((eMeth "Walker" 0 "at" 1 f_Walker_at rNil)))) (eVar 1))) (gN 3))
    (sSeq (sIf ((tTst (eBin dIsnt ((eBin dIx ((eBin dIx ((eFldO "Walker" 0 "cloth")) (eC (.int 1)))) ((eIxN 2 (eC (.int 0)))))) (eC .none)))) (sRet ((eMeth "Walker" 0 "go_to" 3 f_Walker_go_to (rCons ((eIxN 2 ((eBin dMod (eVar 3) ((eCB fLen (aCons (eVar 2) aNil))))))) (rCons ((eCB fAbs (aCons (eVar 1) aNil))) rNil))))) sNx)
    (sSeq (sAsg ((eCB fMax (aCons (eC (.int 0)) (aCons ((eCB fMin (aCons (eVar 3) (aCons ((eBin dSub ((eCB fLen (aCons (eVar 2) aNil))) (eC (.int 1)))) aNil)))) aNil)))) (gN 3))
    (sRet ((eMeth "Walker" 0 "go_to" 3 f_Walker_go_to (rCons ((eIxN 2 (eVar 3))) (rCons ((eCB fAbs (aCons ((eBin dSub (eVar 3) ((eIndex (eVar 2) ((eMeth "Walker" 0 "at" 1 f_Walker_at rNil)))))) aNil))) rNil)))))))))
def f_Walker_turned_by : Df := bodyF 4 b_Walker_turned_by
def b_Walker_left : DS :=
    (sSeq (sDrop ((eCallN 1 f_look_at_times (rCons (eVar 1) rNil))))
    (sRet ((eMeth "Walker" 0 "turned_by" 2 f_Walker_turned_by (rCons (eVar 1) rNil)))))
def f_Walker_left : Df := bodyF 2 b_Walker_left
def b_Walker_right : DS :=
    (sSeq (sDrop ((eCallN 1 f_look_at_times (rCons (eVar 1) rNil))))
    (sRet ((eMeth "Walker" 0 "turned_by" 2 f_Walker_turned_by (rCons ((eBin dSub (eC (.int 0)) (eVar 1))) rNil)))))
def f_Walker_right : Df := bodyF 2 b_Walker_right
def b_Walker_over : DS :=
    (sSeq (sAsg ((eBin dIx ((eBin dIx ((eFldO "Walker" 0 "cloth")) (eC (.int 1)))) ((eMeth "Walker" 0 "at" 1 f_Walker_at rNil)))) (gN 1))
    (sSeq (sIf ((tTst (eBin dIs (eVar 1) (eC .none)))) (sRet ((eMeth "Walker" 0 "go_to" 3 f_Walker_go_to (rCons ((eMeth "Walker" 0 "at" 1 f_Walker_at rNil)) (rCons (eC (.int 0)) rNil))))) sNx)
    (sRet ((eMeth "Walker" 0 "go_to" 3 f_Walker_go_to (rCons (eVar 1) (rCons (eC (.int 1)) rNil)))))))
def f_Walker_over : Df := bodyF 2 b_Walker_over
def b__law_went : DS :=
    (sSeq (sIf ((tTst (eBin dEq (eVar 1) (eC (.str "on"))))) (sRet ((eMeth "Walker" 0 "on" 2 f_Walker_on (rCons (eVar 2) rNil)))) sNx)
    (sSeq (sIf ((tTst (eBin dEq (eVar 1) (eC (.str "ahead"))))) (sRet ((eMeth "Walker" 0 "ahead" 2 f_Walker_ahead (rCons (eVar 2) rNil)))) sNx)
    (sSeq (sIf ((tTst (eBin dEq (eVar 1) (eC (.str "left"))))) (sRet ((eMeth "Walker" 0 "left" 2 f_Walker_left (rCons (eVar 2) rNil)))) sNx)
    (sSeq (sIf ((tTst (eBin dEq (eVar 1) (eC (.str "right"))))) (sRet ((eMeth "Walker" 0 "right" 2 f_Walker_right (rCons (eVar 2) rNil)))) sNx)
    (sSeq (sIf ((tTst (eBin dEq (eVar 1) (eC (.str "over"))))) (sRet ((eMeth "Walker" 0 "over" 1 f_Walker_over rNil))) sNx)
    (sRet ((eMeth "Walker" 0 "back" 1 f_Walker_back rNil))))))))
def f__law_went : Df := bodyF 3 b__law_went
def b__law_tried : DS :=
    (sSeq (sAsg (eC .none) (gN 3))
    (sSeq (sAsg (eC (.str "")) (gN 4))
    (sSeq (sTryK (sAsg ((eCallN 3 f__law_went (rLendC 0 (rCons (eVar 1) (rCons (eVar 2) rNil))))) (gN 3)) 5 4 [("SkinError", none)])
    (sRet ((eTup ((aCons (eVar 3) (aCons (eVar 4) aNil)))))))))
def f__law_tried : Df := bodyF 6 b__law_tried
def b_Walker_init : DS :=
    (sSeq (sDrop ((eCallN 2 f_look_at_half (rCons (eVar 1) (rCons (eVar 2) rNil)))))
    (sSeq (sFldD "Walker" 0 "cloth" (eVar 1))
    (sFldL "Walker" 0 "stands" (lLst (aCons (eVar 2) aNil)))))
def f_Walker_init : Df := bodyF 3 b_Walker_init
def b__law_made_at : DS :=
    (sSeq (sAsg (eC (.str "")) (gN 2))
    (sSeq (sTryK (sMakeX "Walker" 3 f_Walker_init (aCons (eVar 0) (aCons (eVar 1) aNil))) 3 2 [("SkinError", none)])
    (sRet (eVar 2))))
def f__law_made_at : Df := bodyF 4 b__law_made_at
def b_Walker_deeds : DS :=
    (sRet ((eBin dSub ((eFLen "Walker" 0 "stands")) (eC (.int 1)))))
def f_Walker_deeds : Df := bodyF 1 b_Walker_deeds
def b_law : DS :=
    (sSeq (sAsgL 1 (lCallN 2 f__law_bag (rCons (eVar 0) (rCons (eC (.int 0)) rNil))))
    (sSeq (sAsg ((eCallN 2 f__law_skin (rLendC 1 (rCons ((eBin dIx ((eLst ((lLst (aCons (eC (.int 40)) (aCons (eC (.int 400)) aNil)))))) ((eCB fInt (aCons ((eBin dEq ((eCallN 2 f__law_take (rLendC 1 (rCons (eC (.int 6)) rNil)))) (eC (.int 0)))) aNil))))) rNil)))) (gN 2))
    (sSeq (sAsgL 3 (lLst (aCons ((eCallN 2 f__law_take (rLendC 1 (rCons ((eCB fLen (aCons ((eIxN 2 (eC (.int 0)))) aNil))) rNil)))) aNil)))
    (sSeq (sMake "Walker" 4 3 f_Walker_init (aCons (eVar 2) (aCons ((eIxN 3 (eC (.int 0)))) aNil)))
    (sSeq (sFor (iSeqS ((eLst ((lLst (aCons (eC (.int (-1))) (aCons ((eCB fLen (aCons ((eIxN 2 (eC (.int 0)))) aNil))) (aCons ((eBin dPow (eC (.int 10)) (eC (.int 8)))) aNil)))))))) (gN 5) (sIf ((tTst (eBin dNe ((eCallN 2 f__law_made_at (rCons (eVar 2) (rCons (eVar 5) rNil)))) (eC (.str "NoHalf+"))))) (sRet (eC (.bool false))) sNx))
    (sSeq (sFor (iRng1 (aCons ((eBin dAdd (eC (.int 1)) ((eCB fMin (aCons ((eCB fLen (aCons (eVar 0) aNil))) (aCons (eC (.int 60)) aNil)))))) aNil)) (gN 6) (sSeq (sAsgL 7 (lCallN 2 f__law_bag (rCons (eVar 0) (rCons (eVar 6) rNil))))
    (sSeq (sAsg ((eBin dIx ((eLst ((lLst (aCons (eC (.str "on")) (aCons (eC (.str "ahead")) (aCons (eC (.str "left")) (aCons (eC (.str "right")) (aCons (eC (.str "over")) (aCons (eC (.str "over")) (aCons (eC (.str "back")) aNil))))))))))) ((eCallN 2 f__law_take (rLendC 7 (rCons (eC (.int 7)) rNil)))))) (gN 8))
    (sSeq (sAsg ((eLst ((lLst (aCons ((eCallN 2 f__law_take (rLendC 7 (rCons (eC (.int 4)) rNil)))) (aCons ((eCallN 2 f__law_take (rLendC 7 (rCons (eC (.int 90)) rNil)))) (aCons ((eBin dSub ((eBin dPow (eC (.int 10)) (eC (.int 30)))) ((eCallN 2 f__law_take (rLendC 7 (rCons (eC (.int 999)) rNil)))))) (aCons (eC (.int (-1))) (aCons ((eBin dAdd ((eBin dPow (eC (.int 10)) (eC (.int 30)))) (eC (.int 1)))) aNil))))))))) (gN 9))
    (sSeq (sAsg ((eIxN 9 ((eBin dIx ((eLst ((lLst (aCons (eC (.int 0)) (aCons (eC (.int 0)) (aCons (eC (.int 0)) (aCons (eC (.int 1)) (aCons (eC (.int 1)) (aCons (eC (.int 2)) (aCons (eC (.int 2)) (aCons (eC (.int 3)) (aCons (eC (.int 4)) aNil))))))))))))) ((eCallN 2 f__law_take (rLendC 7 (rCons (eC (.int 9)) rNil)))))))) (gN 9))
    (sSeq (sIf ((tAndD ((tTst (eBin dInS (eVar 8) ((eLst ((lLst (aCons (eC (.str "on")) (aCons (eC (.str "ahead")) (aCons (eC (.str "left")) (aCons (eC (.str "right")) aNil))))))))))) ((tNotD ((tTst (eChain dLe dLe (eC (.int 0)) (eVar 9) ((eBin dPow (eC (.int 10)) (eC (.int 30))))))))))) (sAsg ((eTup ((aCons (eC .none) (aCons (eC (.str "TooMany+")) aNil))))) (gN 10)) (sIf ((tTst (eBin dEq (eVar 8) (eC (.str "back"))))) (sSeq (sAsg ((eTup ((aCons (eC .none) (aCons ((eBin dIx ((eLst ((lLst (aCons (eC (.str "")) (aCons (eC (.str "NothingLeft+")) aNil)))))) ((eCB fInt (aCons ((eBin dEq ((eLenO 3)) (eC (.int 1)))) aNil))))) aNil))))) (gN 10))
    (sAsgL 3 (lSlA 3 .no (.of ((eCB fMax (aCons (eC (.int 1)) (aCons ((eBin dSub ((eLenO 3)) (eC (.int 1)))) aNil)))))))) (sSeq (sAsg ((eCallN 4 f__law_goal (rCons (eVar 2) (rCons ((eIxN 3 (eC (.int (-1))))) (rCons (eVar 8) (rCons (eVar 9) rNil)))))) (gT [gN 11, gN 12]))
    (sSeq (sAsg ((eTup ((aCons (eVar 12) (aCons (eC (.str "")) aNil))))) (gN 10))
    (sDrop ((eMO 3 mAppend (aCons (eVar 11) aNil))))))))
    (sSeq (sIf ((tTst (eBin dNe ((eCallN 3 f__law_tried (rLendC 4 (rCons (eVar 8) (rCons (eVar 9) rNil))))) (eVar 10)))) (sRet (eC (.bool false))) sNx)
    (sIf ((tOrD ((tTst (eBin dNe ((eMeth "Walker" 4 "at" 1 f_Walker_at rNil)) ((eIxN 3 (eC (.int (-1)))))))) ((tOrD ((tTst (eBin dNe ((eMeth "Walker" 4 "deeds" 1 f_Walker_deeds rNil)) ((eBin dSub ((eLenO 3)) (eC (.int 1))))))) ((tTst (eIsi "bool" ((eMeth "Walker" 4 "at" 1 f_Walker_at rNil))))))))) (sRet (eC (.bool false))) sNx))))))))
    (sRet (eC (.bool true)))))))))
def f_law : Df := bodyF 13 b_law
end
end K35
set_option Elab.async false
set_option linter.all false
set_option maxRecDepth 100000
set_option maxHeartbeats 4000000
namespace K35
open PySem L2 DL LW
def topS (i : Nat) : Stmt := PySem.Challenge.pw_halfseams_k35_walkers_by_hand.main.body.getD i (.Pass ⟨0, 0, 0, 0⟩)
abbrev s_look_at_half : Stmt := topS 15
abbrev N_look_at_half : List Str := ["skin", "half"]
abbrev P_look_at_half : List Str := ["skin", "half"]
abbrev s_ahead_of : Stmt := topS 17
abbrev N_ahead_of : List Str := ["skin", "half"]
abbrev P_ahead_of : List Str := ["skin", "half"]
abbrev s_left_of : Stmt := topS 18
abbrev N_left_of : List Str := ["skin", "half"]
abbrev P_left_of : List Str := ["skin", "half"]
abbrev s_right_of : Stmt := topS 19
abbrev N_right_of : List Str := ["skin", "half", "mate"]
abbrev P_right_of : List Str := ["skin", "half"]
abbrev s_patch_of : Stmt := topS 20
abbrev N_patch_of : List Str := ["skin", "half", "found", "at"]
abbrev P_patch_of : List Str := ["skin", "half"]
abbrev s_round_knot : Stmt := topS 21
abbrev N_round_knot : List Str := ["skin", "half", "first", "at", "found"]
abbrev P_round_knot : List Str := ["skin", "half"]
abbrev s_look_at_times : Stmt := topS 24
abbrev N_look_at_times : List Str := ["many"]
abbrev P_look_at_times : List Str := ["many"]
abbrev s_Walker_back : Stmt := (clsBody (topS 25)).getD 8 (.Pass ⟨0, 0, 0, 0⟩)
abbrev N_Walker_back : List Str := ["self"]
abbrev P_Walker_back : List Str := ["self"]
abbrev s_Walker_go_to : Stmt := (clsBody (topS 25)).getD 1 (.Pass ⟨0, 0, 0, 0⟩)
abbrev N_Walker_go_to : List Str := ["self", "half", "many"]
abbrev P_Walker_go_to : List Str := ["self", "half", "many"]
abbrev s_Walker_at : Stmt := (clsBody (topS 25)).getD 9 (.Pass ⟨0, 0, 0, 0⟩)
abbrev N_Walker_at : List Str := ["self"]
abbrev P_Walker_at : List Str := ["self"]
abbrev s_Walker_on : Stmt := (clsBody (topS 25)).getD 2 (.Pass ⟨0, 0, 0, 0⟩)
abbrev N_Walker_on : List Str := ["self", "many", "patch"]
abbrev P_Walker_on : List Str := ["self", "many"]
abbrev s_Walker_ahead : Stmt := (clsBody (topS 25)).getD 3 (.Pass ⟨0, 0, 0, 0⟩)
abbrev N_Walker_ahead : List Str := ["self", "many", "patch"]
abbrev P_Walker_ahead : List Str := ["self", "many"]
abbrev s_Walker_turned_by : Stmt := (clsBody (topS 25)).getD 5 (.Pass ⟨0, 0, 0, 0⟩)
abbrev N_Walker_turned_by : List Str := ["self", "many", "knot", "place"]
abbrev P_Walker_turned_by : List Str := ["self", "many"]
abbrev s_Walker_left : Stmt := (clsBody (topS 25)).getD 6 (.Pass ⟨0, 0, 0, 0⟩)
abbrev N_Walker_left : List Str := ["self", "many"]
abbrev P_Walker_left : List Str := ["self", "many"]
abbrev s_Walker_right : Stmt := (clsBody (topS 25)).getD 7 (.Pass ⟨0, 0, 0, 0⟩)
abbrev N_Walker_right : List Str := ["self", "many"]
abbrev P_Walker_right : List Str := ["self", "many"]
abbrev s_Walker_over : Stmt := (clsBody (topS 25)).getD 4 (.Pass ⟨0, 0, 0, 0⟩)
abbrev N_Walker_over : List Str := ["self", "mate"]
abbrev P_Walker_over : List Str := ["self"]
abbrev s__law_went : Stmt := topS 27
abbrev N__law_went : List Str := ["walker", "word", "many"]
abbrev P__law_went : List Str := ["walker", "word", "many"]
abbrev s__law_kinds : Stmt := topS 38
abbrev N__law_kinds : List Str := ["e", "some", "words", "k"]
abbrev P__law_kinds : List Str := ["e"]
abbrev s__law_tried : Stmt := topS 28
abbrev N__law_tried : List Str := ["walker", "word", "many", "found", "kind", "e"]
abbrev P__law_tried : List Str := ["walker", "word", "many"]
abbrev s__law_left : Stmt := topS 34
abbrev N__law_left : List Str := ["skin", "half"]
abbrev P__law_left : List Str := ["skin", "half"]
abbrev s__law_right : Stmt := topS 35
abbrev N__law_right : List Str := ["skin", "half"]
abbrev P__law_right : List Str := ["skin", "half"]
abbrev s__law_knot : Stmt := topS 36
abbrev N__law_knot : List Str := ["skin", "half", "row"]
abbrev P__law_knot : List Str := ["skin", "half"]
abbrev s__law_patch : Stmt := topS 37
abbrev N__law_patch : List Str := ["skin", "half", "row"]
abbrev P__law_patch : List Str := ["skin", "half"]
abbrev s__law_goal : Stmt := topS 29
abbrev N__law_goal : List Str := ["skin", "at", "word", "many", "mate", "row", "place", "far", "steps"]
abbrev P__law_goal : List Str := ["skin", "at", "word", "many"]
abbrev s_Walker_init : Stmt := (clsBody (topS 25)).getD 0 (.Pass ⟨0, 0, 0, 0⟩)
abbrev N_Walker_init : List Str := ["self", "skin", "half"]
abbrev P_Walker_init : List Str := ["self", "skin", "half"]
abbrev s__law_made_at : Stmt := topS 30
abbrev N__law_made_at : List Str := ["skin", "half", "kind", "e"]
abbrev P__law_made_at : List Str := ["skin", "half"]
abbrev s__law_bag : Stmt := topS 31
abbrev N__law_bag : List Str := ["script", "k", "cell"]
abbrev P__law_bag : List Str := ["script", "k"]
abbrev s__law_take : Stmt := topS 32
abbrev N__law_take : List Str := ["bag", "many", "found"]
abbrev P__law_take : List Str := ["bag", "many"]
abbrev s__law_skin : Stmt := topS 33
abbrev N__law_skin : List Str := ["bag", "most", "many", "order", "half", "onward", "wide", "left", "size", "patch", "k", "mates", "rare", "waiting", "one", "other"]
abbrev P__law_skin : List Str := ["bag", "most"]
abbrev s_Walker_deeds : Stmt := (clsBody (topS 25)).getD 10 (.Pass ⟨0, 0, 0, 0⟩)
abbrev N_Walker_deeds : List Str := ["self"]
abbrev P_Walker_deeds : List Str := ["self"]
abbrev s_law : Stmt := topS 39
abbrev N_law : List Str := ["script", "first", "skin", "stands", "walker", "half", "k", "bag", "word", "many", "due", "there", "went"]
abbrev P_law : List Str := ["script"]
structure Txt (K : PySem.W.Frag) (mg : Str → Option Value) : Prop where
  o_Walker : ObF K mg "Walker" ["cloth", "stands"] ["go_to", "on", "ahead", "over", "turned_by", "left", "right", "back", "at", "deeds"]
  d_look_at_half : ∃ fd, FnT K "look_at_half" s_look_at_half fd
  g_look_at_half : mg "look_at_half" = some (.ref (He.ga K "look_at_half"))
  d_ahead_of : ∃ fd, FnT K "ahead_of" s_ahead_of fd
  g_ahead_of : mg "ahead_of" = some (.ref (He.ga K "ahead_of"))
  d_left_of : ∃ fd, FnT K "left_of" s_left_of fd
  g_left_of : mg "left_of" = some (.ref (He.ga K "left_of"))
  d_right_of : ∃ fd, FnT K "right_of" s_right_of fd
  g_right_of : mg "right_of" = some (.ref (He.ga K "right_of"))
  d_patch_of : ∃ fd, FnT K "patch_of" s_patch_of fd
  g_patch_of : mg "patch_of" = some (.ref (He.ga K "patch_of"))
  d_round_knot : ∃ fd, FnT K "round_knot" s_round_knot fd
  g_round_knot : mg "round_knot" = some (.ref (He.ga K "round_knot"))
  d_look_at_times : ∃ fd, FnT K "look_at_times" s_look_at_times fd
  g_look_at_times : mg "look_at_times" = some (.ref (He.ga K "look_at_times"))
  d_Walker_back : ∃ fd, FunD K "back" "Walker.back" (defArgs s_Walker_back) (defBody s_Walker_back) (defScope s_Walker_back) [] [] (He.ma K (He.ga K "Walker") "back") fd
  d_Walker_go_to : ∃ fd, FunD K "go_to" "Walker.go_to" (defArgs s_Walker_go_to) (defBody s_Walker_go_to) (defScope s_Walker_go_to) [] [] (He.ma K (He.ga K "Walker") "go_to") fd
  d_Walker_at : ∃ fd, FunD K "at" "Walker.at" (defArgs s_Walker_at) (defBody s_Walker_at) (defScope s_Walker_at) [] [] (He.ma K (He.ga K "Walker") "at") fd
  d_Walker_on : ∃ fd, FunD K "on" "Walker.on" (defArgs s_Walker_on) (defBody s_Walker_on) (defScope s_Walker_on) [] [] (He.ma K (He.ga K "Walker") "on") fd
  d_Walker_ahead : ∃ fd, FunD K "ahead" "Walker.ahead" (defArgs s_Walker_ahead) (defBody s_Walker_ahead) (defScope s_Walker_ahead) [] [] (He.ma K (He.ga K "Walker") "ahead") fd
  d_Walker_turned_by : ∃ fd, FunD K "turned_by" "Walker.turned_by" (defArgs s_Walker_turned_by) (defBody s_Walker_turned_by) (defScope s_Walker_turned_by) [] [] (He.ma K (He.ga K "Walker") "turned_by") fd
  d_Walker_left : ∃ fd, FunD K "left" "Walker.left" (defArgs s_Walker_left) (defBody s_Walker_left) (defScope s_Walker_left) [] [] (He.ma K (He.ga K "Walker") "left") fd
  d_Walker_right : ∃ fd, FunD K "right" "Walker.right" (defArgs s_Walker_right) (defBody s_Walker_right) (defScope s_Walker_right) [] [] (He.ma K (He.ga K "Walker") "right") fd
  d_Walker_over : ∃ fd, FunD K "over" "Walker.over" (defArgs s_Walker_over) (defBody s_Walker_over) (defScope s_Walker_over) [] [] (He.ma K (He.ga K "Walker") "over") fd
  d__law_went : ∃ fd, FnT K "_law_went" s__law_went fd
  g__law_went : mg "_law_went" = some (.ref (He.ga K "_law_went"))
  d__law_kinds : ∃ fd, FnT K "_law_kinds" s__law_kinds fd
  g__law_kinds : mg "_law_kinds" = some (.ref (He.ga K "_law_kinds"))
  d__law_tried : ∃ fd, FnT K "_law_tried" s__law_tried fd
  g__law_tried : mg "_law_tried" = some (.ref (He.ga K "_law_tried"))
  d__law_left : ∃ fd, FnT K "_law_left" s__law_left fd
  g__law_left : mg "_law_left" = some (.ref (He.ga K "_law_left"))
  d__law_right : ∃ fd, FnT K "_law_right" s__law_right fd
  g__law_right : mg "_law_right" = some (.ref (He.ga K "_law_right"))
  d__law_knot : ∃ fd, FnT K "_law_knot" s__law_knot fd
  g__law_knot : mg "_law_knot" = some (.ref (He.ga K "_law_knot"))
  d__law_patch : ∃ fd, FnT K "_law_patch" s__law_patch fd
  g__law_patch : mg "_law_patch" = some (.ref (He.ga K "_law_patch"))
  d__law_goal : ∃ fd, FnT K "_law_goal" s__law_goal fd
  g__law_goal : mg "_law_goal" = some (.ref (He.ga K "_law_goal"))
  d_Walker_init : ∃ fd, FunD K "__init__" "Walker.__init__" (defArgs s_Walker_init) (defBody s_Walker_init) (defScope s_Walker_init) [] [] (He.ma K (He.ga K "Walker") "__init__") fd
  d__law_made_at : ∃ fd, FnT K "_law_made_at" s__law_made_at fd
  g__law_made_at : mg "_law_made_at" = some (.ref (He.ga K "_law_made_at"))
  d__law_bag : ∃ fd, FnT K "_law_bag" s__law_bag fd
  g__law_bag : mg "_law_bag" = some (.ref (He.ga K "_law_bag"))
  d__law_take : ∃ fd, FnT K "_law_take" s__law_take fd
  g__law_take : mg "_law_take" = some (.ref (He.ga K "_law_take"))
  d__law_skin : ∃ fd, FnT K "_law_skin" s__law_skin fd
  g__law_skin : mg "_law_skin" = some (.ref (He.ga K "_law_skin"))
  d_Walker_deeds : ∃ fd, FunD K "deeds" "Walker.deeds" (defArgs s_Walker_deeds) (defBody s_Walker_deeds) (defScope s_Walker_deeds) [] [] (He.ma K (He.ga K "Walker") "deeds") fd
  d_law : ∃ fd, FnT K "law" s_law fd
  g_law : mg "law" = some (.ref (He.ga K "law"))
  n_ValueError : mg "ValueError" = none
  n_abs : mg "abs" = none
  n_bool : mg "bool" = none
  n_int : mg "int" = none
  n_isinstance : mg "isinstance" = none
  n_len : mg "len" = none
  n_list : mg "list" = none
  n_max : mg "max" = none
  n_min : mg "min" = none
  n_range : mg "range" = none
  n_tuple : mg "tuple" = none
  x_NoHalf : ExC K mg "NoHalf"
  x_NothingLeft : ExC K mg "NothingLeft"
  x_TooMany : ExC K mg "TooMany"
  kx : Kx K mg
  c_MOST_STEPS : ∃ t, mg "MOST_STEPS" = some (.int 1000000000000000000000000000000 t)
section
variable {P : Program} {w : World} {K : PySem.W.Frag} {mg : Str → Option Value} {base : Heap}
theorem sc_look_at_half : FnScope N_look_at_half P_look_at_half (defScope s_look_at_half) := ⟨rfl, rfl, rfl, by decide +kernel, rfl, by decide +kernel, by decide +kernel⟩
theorem ok_look_at_half (T : Txt K mg)  : Cal P w K mg base 1 "look_at_half" 2 f_look_at_half := by
  refine cal_of (k := 0) T.d_look_at_half T.g_look_at_half sc_look_at_half (by decide) (fun _ _ _ _ _ _ us hl => match us, hl with | [_, _], _ => rfl) fun cdv A outer s H E hr => ?_
  have nd := sc_look_at_half.nd
  have tk := fun σ => L2N.passAt (L2N.takes_of (X := cxOf (L2N.CX P w) P w K mg base N_look_at_half "look_at_half" (defScope s_look_at_half) (He.ga K "look_at_half") cdv A outer s H E) (E := E) rfl rfl rfl rfl) σ
  have tkx := L2N.takes_of (X := cxOf (L2N.CX P w) P w K mg base N_look_at_half "look_at_half" (defScope s_look_at_half) (He.ga K "look_at_half") cdv A outer s H E) (E := E) rfl rfl rfl rfl
  have hp : PassesOwn (model P w) _ _ (cxOf (L2N.CX P w) P w K mg base N_look_at_half "look_at_half" (defScope s_look_at_half) (He.ga K "look_at_half") cdv A outer s H E).xe := passes_of (X := cxOf (L2N.CX P w) P w K mg base N_look_at_half "look_at_half" (defScope s_look_at_half) (He.ga K "look_at_half") cdv A outer s H E) rfl
  exact (css_one (cs_if (ct_w (cw_or (ct_cmp op_lt od_lt (ce_var 1) ce_int (nomark _)) (cw_or1 (ct_cmp op_ge od_ge (ce_var 1) (ce_cb cd_len cr_lenA (by rfl) T.n_len PySem.boot_len (ca_cons (ce_ixN 0 ce_int (fun _ _ => rfl)) ca_nil)) (nomark _))))) (css_one (cs_raise T.x_NoHalf tkx)) css_nil))
theorem sc_ahead_of : FnScope N_ahead_of P_ahead_of (defScope s_ahead_of) := ⟨rfl, rfl, rfl, by decide +kernel, rfl, by decide +kernel, by decide +kernel⟩
theorem ok_ahead_of (T : Txt K mg) (c_look_at_half : Cal P w K mg base 1 "look_at_half" 2 f_look_at_half) : Cal P w K mg base 2 "ahead_of" 2 f_ahead_of := by
  refine cal_of (k := 1) T.d_ahead_of T.g_ahead_of sc_ahead_of (by decide) (fun _ _ _ _ _ _ us hl => match us, hl with | [_, _], _ => rfl) fun cdv A outer s H E hr => ?_
  have nd := sc_ahead_of.nd
  have tk := fun σ => L2N.passAt (L2N.takes_of (X := cxOf (L2N.CX P w) P w K mg base N_ahead_of "ahead_of" (defScope s_ahead_of) (He.ga K "ahead_of") cdv A outer s H E) (E := E) rfl rfl rfl rfl) σ
  have tkx := L2N.takes_of (X := cxOf (L2N.CX P w) P w K mg base N_ahead_of "ahead_of" (defScope s_ahead_of) (He.ga K "ahead_of") cdv A outer s H E) (E := E) rfl rfl rfl rfl
  have hp : PassesOwn (model P w) _ _ (cxOf (L2N.CX P w) P w K mg base N_ahead_of "ahead_of" (defScope s_ahead_of) (He.ga K "ahead_of") cdv A outer s H E).xe := passes_of (X := cxOf (L2N.CX P w) P w K mg base N_ahead_of "ahead_of" (defScope s_ahead_of) (He.ga K "ahead_of") cdv A outer s H E) rfl
  exact (css_cons (cs_drop (ce_callC c_look_at_half hr (by decide) tk (cr_cons (ce_var 0) (cr_cons (ce_var 1) cr_nil))))
    (css_one (cs_ret (ce_index (ce_ixN 0 ce_int (fun _ _ => rfl)) (ce_var 1)))))
theorem sc_left_of : FnScope N_left_of P_left_of (defScope s_left_of) := ⟨rfl, rfl, rfl, by decide +kernel, rfl, by decide +kernel, by decide +kernel⟩
theorem ok_left_of (T : Txt K mg) (c_ahead_of : Cal P w K mg base 2 "ahead_of" 2 f_ahead_of) : Cal P w K mg base 3 "left_of" 2 f_left_of := by
  refine cal_of (k := 2) T.d_left_of T.g_left_of sc_left_of (by decide) (fun _ _ _ _ _ _ us hl => match us, hl with | [_, _], _ => rfl) fun cdv A outer s H E hr => ?_
  have nd := sc_left_of.nd
  have tk := fun σ => L2N.passAt (L2N.takes_of (X := cxOf (L2N.CX P w) P w K mg base N_left_of "left_of" (defScope s_left_of) (He.ga K "left_of") cdv A outer s H E) (E := E) rfl rfl rfl rfl) σ
  have tkx := L2N.takes_of (X := cxOf (L2N.CX P w) P w K mg base N_left_of "left_of" (defScope s_left_of) (He.ga K "left_of") cdv A outer s H E) (E := E) rfl rfl rfl rfl
  have hp : PassesOwn (model P w) _ _ (cxOf (L2N.CX P w) P w K mg base N_left_of "left_of" (defScope s_left_of) (He.ga K "left_of") cdv A outer s H E).xe := passes_of (X := cxOf (L2N.CX P w) P w K mg base N_left_of "left_of" (defScope s_left_of) (He.ga K "left_of") cdv A outer s H E) rfl
  exact (css_one (cs_ret (ce_ix ix_seq od_ix (ce_ixN 0 ce_int (fun _ _ => rfl)) (ce_callC c_ahead_of hr (by decide) tk (cr_cons (ce_var 0) (cr_cons (ce_var 1) cr_nil))) (fun _ _ => rfl))))
theorem sc_right_of : FnScope N_right_of P_right_of (defScope s_right_of) := ⟨rfl, rfl, rfl, by decide +kernel, rfl, by decide +kernel, by decide +kernel⟩
theorem ok_right_of (T : Txt K mg) (c_look_at_half : Cal P w K mg base 1 "look_at_half" 2 f_look_at_half) : Cal P w K mg base 2 "right_of" 2 f_right_of := by
  refine cal_of (k := 1) T.d_right_of T.g_right_of sc_right_of (by decide) (fun _ _ _ _ _ _ us hl => match us, hl with | [_, _], _ => rfl) fun cdv A outer s H E hr => ?_
  have nd := sc_right_of.nd
  have tk := fun σ => L2N.passAt (L2N.takes_of (X := cxOf (L2N.CX P w) P w K mg base N_right_of "right_of" (defScope s_right_of) (He.ga K "right_of") cdv A outer s H E) (E := E) rfl rfl rfl rfl) σ
  have tkx := L2N.takes_of (X := cxOf (L2N.CX P w) P w K mg base N_right_of "right_of" (defScope s_right_of) (He.ga K "right_of") cdv A outer s H E) (E := E) rfl rfl rfl rfl
  have hp : PassesOwn (model P w) _ _ (cxOf (L2N.CX P w) P w K mg base N_right_of "right_of" (defScope s_right_of) (He.ga K "right_of") cdv A outer s H E).xe := passes_of (X := cxOf (L2N.CX P w) P w K mg base N_right_of "right_of" (defScope s_right_of) (He.ga K "right_of") cdv A outer s H E) rfl
  exact (css_cons (cs_drop (ce_callC c_look_at_half hr (by decide) tk (cr_cons (ce_var 0) (cr_cons (ce_var 1) cr_nil))))
    (css_cons (cs_set (i := 2) nd (ce_ix ix_seq od_ix (ce_ixN 0 ce_int (fun _ _ => rfl)) (ce_var 1) (fun _ _ => rfl)))
    (css_cons (cs_if (ct_cmp op_isA od_is (ce_var 2) ce_none (nomark _)) (css_one (cs_ret ce_none)) css_nil)
    (css_one (cs_ret (ce_ix ix_seq od_ix (ce_ixN 0 ce_int (fun _ _ => rfl)) (ce_var 2) (fun _ _ => rfl)))))))
theorem sc_patch_of : FnScope N_patch_of P_patch_of (defScope s_patch_of) := ⟨rfl, rfl, rfl, by decide +kernel, rfl, by decide +kernel, by decide +kernel⟩
theorem ok_patch_of (T : Txt K mg) (c_look_at_half : Cal P w K mg base 1 "look_at_half" 2 f_look_at_half) : Cal P w K mg base 2 "patch_of" 2 f_patch_of := by
  refine cal_of (k := 1) T.d_patch_of T.g_patch_of sc_patch_of (by decide) (fun _ _ _ _ _ _ us hl => match us, hl with | [_, _], _ => rfl) fun cdv A outer s H E hr => ?_
  have nd := sc_patch_of.nd
  have tk := fun σ => L2N.passAt (L2N.takes_of (X := cxOf (L2N.CX P w) P w K mg base N_patch_of "patch_of" (defScope s_patch_of) (He.ga K "patch_of") cdv A outer s H E) (E := E) rfl rfl rfl rfl) σ
  have tkx := L2N.takes_of (X := cxOf (L2N.CX P w) P w K mg base N_patch_of "patch_of" (defScope s_patch_of) (He.ga K "patch_of") cdv A outer s H E) (E := E) rfl rfl rfl rfl
  have hp : PassesOwn (model P w) _ _ (cxOf (L2N.CX P w) P w K mg base N_patch_of "patch_of" (defScope s_patch_of) (He.ga K "patch_of") cdv A outer s H E).xe := passes_of (X := cxOf (L2N.CX P w) P w K mg base N_patch_of "patch_of" (defScope s_patch_of) (He.ga K "patch_of") cdv A outer s H E) rfl
  exact (css_cons (cs_drop (ce_callC c_look_at_half hr (by decide) tk (cr_cons (ce_var 0) (cr_cons (ce_var 1) cr_nil))))
    (css_cons (cs_setL (i := 2) nd (cl_lst (ca_cons (ce_var 1) ca_nil)))
    (css_cons (cs_set (i := 3) nd (ce_ix ix_seq od_ix (ce_ixN 0 ce_int (fun _ _ => rfl)) (ce_var 1) (fun _ _ => rfl)))
    (css_cons (cs_while FUEL hp (ct_cmp (op_neD hr.units) od_ne (ce_var 3) (ce_var 1) (nomark _)) (css_cons (cs_drop (ce_mo 2 om_append PySem.F.slot_list_append PySem.F.type_list_append mt_append (ca_cons (ce_var 3) ca_nil)))
    (css_one (cs_set (i := 3) nd (ce_ix ix_seq od_ix (ce_ixN 0 ce_int (fun _ _ => rfl)) (ce_var 3) (fun _ _ => rfl))))))
    (css_one (cs_ret (ce_tupO 2 T.n_tuple)))))))
theorem sc_round_knot : FnScope N_round_knot P_round_knot (defScope s_round_knot) := ⟨rfl, rfl, rfl, by decide +kernel, rfl, by decide +kernel, by decide +kernel⟩
theorem ok_round_knot (T : Txt K mg) (c_right_of : Cal P w K mg base 2 "right_of" 2 f_right_of) (c_left_of : Cal P w K mg base 3 "left_of" 2 f_left_of) : Cal P w K mg base 4 "round_knot" 2 f_round_knot := by
  refine cal_of (k := 3) T.d_round_knot T.g_round_knot sc_round_knot (by decide) (fun _ _ _ _ _ _ us hl => match us, hl with | [_, _], _ => rfl) fun cdv A outer s H E hr => ?_
  have nd := sc_round_knot.nd
  have tk := fun σ => L2N.passAt (L2N.takes_of (X := cxOf (L2N.CX P w) P w K mg base N_round_knot "round_knot" (defScope s_round_knot) (He.ga K "round_knot") cdv A outer s H E) (E := E) rfl rfl rfl rfl) σ
  have tkx := L2N.takes_of (X := cxOf (L2N.CX P w) P w K mg base N_round_knot "round_knot" (defScope s_round_knot) (He.ga K "round_knot") cdv A outer s H E) (E := E) rfl rfl rfl rfl
  have hp : PassesOwn (model P w) _ _ (cxOf (L2N.CX P w) P w K mg base N_round_knot "round_knot" (defScope s_round_knot) (He.ga K "round_knot") cdv A outer s H E).xe := passes_of (X := cxOf (L2N.CX P w) P w K mg base N_round_knot "round_knot" (defScope s_round_knot) (He.ga K "round_knot") cdv A outer s H E) rfl
  exact (css_cons (cs_set (i := 2) nd (ce_var 1))
    (css_cons (cs_set (i := 3) nd (ce_callC c_right_of hr (by decide) tk (cr_cons (ce_var 0) (cr_cons (ce_var 1) cr_nil))))
    (css_cons (cs_while FUEL hp (ct_w (cw_and (ct_cmp op_isntA od_isnt (ce_var 3) ce_none (nomark _)) (cw_and1 (ct_cmp (op_neD hr.units) od_ne (ce_var 3) (ce_var 1) (nomark _))))) (css_cons (cs_set (i := 2) nd (ce_var 3))
    (css_one (cs_set (i := 3) nd (ce_callC c_right_of hr (by decide) tk (cr_cons (ce_var 0) (cr_cons (ce_var 3) cr_nil)))))))
    (css_cons (cs_if (ct_cmp (op_eqD hr.units) od_eq (ce_var 3) (ce_var 1) (nomark _)) (css_one (cs_set (i := 2) nd (ce_var 1))) css_nil)
    (css_cons (cs_setL (i := 4) nd (cl_lst (ca_cons (ce_var 2) ca_nil)))
    (css_cons (cs_set (i := 3) nd (ce_callC c_left_of hr (by decide) tk (cr_cons (ce_var 0) (cr_cons (ce_var 2) cr_nil))))
    (css_cons (cs_while FUEL hp (ct_w (cw_and (ct_cmp op_isntA od_isnt (ce_var 3) ce_none (nomark _)) (cw_and1 (ct_cmp (op_neD hr.units) od_ne (ce_var 3) (ce_var 2) (nomark _))))) (css_cons (cs_drop (ce_mo 4 om_append PySem.F.slot_list_append PySem.F.type_list_append mt_append (ca_cons (ce_var 3) ca_nil)))
    (css_one (cs_set (i := 3) nd (ce_callC c_left_of hr (by decide) tk (cr_cons (ce_var 0) (cr_cons (ce_var 3) cr_nil)))))))
    (css_one (cs_ret (ce_tupO 4 T.n_tuple))))))))))
theorem sc_look_at_times : FnScope N_look_at_times P_look_at_times (defScope s_look_at_times) := ⟨rfl, rfl, rfl, by decide +kernel, rfl, by decide +kernel, by decide +kernel⟩
theorem ok_look_at_times (T : Txt K mg)  : Cal P w K mg base 1 "look_at_times" 1 f_look_at_times := by
  refine cal_of (k := 0) T.d_look_at_times T.g_look_at_times sc_look_at_times (by decide) (fun _ _ _ _ _ _ us hl => match us, hl with | [_], _ => rfl) fun cdv A outer s H E hr => ?_
  have nd := sc_look_at_times.nd
  have tk := fun σ => L2N.passAt (L2N.takes_of (X := cxOf (L2N.CX P w) P w K mg base N_look_at_times "look_at_times" (defScope s_look_at_times) (He.ga K "look_at_times") cdv A outer s H E) (E := E) rfl rfl rfl rfl) σ
  have tkx := L2N.takes_of (X := cxOf (L2N.CX P w) P w K mg base N_look_at_times "look_at_times" (defScope s_look_at_times) (He.ga K "look_at_times") cdv A outer s H E) (E := E) rfl rfl rfl rfl
  have hp : PassesOwn (model P w) _ _ (cxOf (L2N.CX P w) P w K mg base N_look_at_times "look_at_times" (defScope s_look_at_times) (He.ga K "look_at_times") cdv A outer s H E).xe := passes_of (X := cxOf (L2N.CX P w) P w K mg base N_look_at_times "look_at_times" (defScope s_look_at_times) (He.ga K "look_at_times") cdv A outer s H E) rfl
  exact (css_one (cs_if (ct_w (cw_or (ct_cmp op_lt od_lt (ce_var 0) ce_int (nomark _)) (cw_or1 (ct_cmp op_gt od_gt (ce_var 0) (ce_globI T.c_MOST_STEPS.choose_spec) (nomark _))))) (css_one (cs_raise T.x_TooMany tkx)) css_nil))
theorem sc_Walker_back : FnScope N_Walker_back P_Walker_back (defScope s_Walker_back) := ⟨rfl, rfl, rfl, by decide +kernel, rfl, by decide +kernel, by decide +kernel⟩
theorem ok_Walker_back (T : Txt K mg)  : CalMt P w K mg base 1 "Walker" "back" 1 f_Walker_back := by
  refine calMt_of (k := 0) T.o_Walker (by decide) T.d_Walker_back sc_Walker_back (by decide) (fun _ _ _ _ _ _ us hl => match us, hl with | [_], _ => rfl) fun cdv A outer s H E hr => ?_
  have nd := sc_Walker_back.nd
  have tk := fun σ => L2N.passAt (L2N.takes_of (X := cxOf (L2N.CX P w) P w K mg base N_Walker_back "Walker.back" (defScope s_Walker_back) (He.ma K (He.ga K "Walker") "back") cdv A outer s H E) (E := E) rfl rfl rfl rfl) σ
  have tkx := L2N.takes_of (X := cxOf (L2N.CX P w) P w K mg base N_Walker_back "Walker.back" (defScope s_Walker_back) (He.ma K (He.ga K "Walker") "back") cdv A outer s H E) (E := E) rfl rfl rfl rfl
  have hp : PassesOwn (model P w) _ _ (cxOf (L2N.CX P w) P w K mg base N_Walker_back "Walker.back" (defScope s_Walker_back) (He.ma K (He.ga K "Walker") "back") cdv A outer s H E).xe := passes_of (X := cxOf (L2N.CX P w) P w K mg base N_Walker_back "Walker.back" (defScope s_Walker_back) (He.ma K (He.ga K "Walker") "back") cdv A outer s H E) rfl
  exact (css_cons (cs_if (ct_cmp (op_eqD hr.units) od_eq (ce_flen "Walker" 0 T.o_Walker.cl (T.o_Walker.no "stands" (by decide)) T.n_len) ce_int (nomark _)) (css_one (cs_raise T.x_NothingLeft tkx)) css_nil)
    (css_one (cs_drop (ce_fm0 "Walker" 0 T.o_Walker.cl (T.o_Walker.no "stands" (by decide)) om_pop PySem.F.slot_list_pop PySem.F.type_list_pop mt_pop))))
theorem sc_Walker_go_to : FnScope N_Walker_go_to P_Walker_go_to (defScope s_Walker_go_to) := ⟨rfl, rfl, rfl, by decide +kernel, rfl, by decide +kernel, by decide +kernel⟩
theorem ok_Walker_go_to (T : Txt K mg)  : CalMt P w K mg base 1 "Walker" "go_to" 3 f_Walker_go_to := by
  refine calMt_of (k := 0) T.o_Walker (by decide) T.d_Walker_go_to sc_Walker_go_to (by decide) (fun _ _ _ _ _ _ us hl => match us, hl with | [_, _, _], _ => rfl) fun cdv A outer s H E hr => ?_
  have nd := sc_Walker_go_to.nd
  have tk := fun σ => L2N.passAt (L2N.takes_of (X := cxOf (L2N.CX P w) P w K mg base N_Walker_go_to "Walker.go_to" (defScope s_Walker_go_to) (He.ma K (He.ga K "Walker") "go_to") cdv A outer s H E) (E := E) rfl rfl rfl rfl) σ
  have tkx := L2N.takes_of (X := cxOf (L2N.CX P w) P w K mg base N_Walker_go_to "Walker.go_to" (defScope s_Walker_go_to) (He.ma K (He.ga K "Walker") "go_to") cdv A outer s H E) (E := E) rfl rfl rfl rfl
  have hp : PassesOwn (model P w) _ _ (cxOf (L2N.CX P w) P w K mg base N_Walker_go_to "Walker.go_to" (defScope s_Walker_go_to) (He.ma K (He.ga K "Walker") "go_to") cdv A outer s H E).xe := passes_of (X := cxOf (L2N.CX P w) P w K mg base N_Walker_go_to "Walker.go_to" (defScope s_Walker_go_to) (He.ma K (He.ga K "Walker") "go_to") cdv A outer s H E) rfl
  exact (css_cons (cs_drop (ce_fm1 "Walker" 0 T.o_Walker.cl (T.o_Walker.no "stands" (by decide)) om_append PySem.F.slot_list_append PySem.F.type_list_append mt_append (ce_var 1)))
    (css_one (cs_ret (ce_var 2))))
theorem sc_Walker_at : FnScope N_Walker_at P_Walker_at (defScope s_Walker_at) := ⟨rfl, rfl, rfl, by decide +kernel, rfl, by decide +kernel, by decide +kernel⟩
theorem ok_Walker_at (T : Txt K mg)  : CalMt P w K mg base 1 "Walker" "at" 1 f_Walker_at := by
  refine calMt_of (k := 0) T.o_Walker (by decide) T.d_Walker_at sc_Walker_at (by decide) (fun _ _ _ _ _ _ us hl => match us, hl with | [_], _ => rfl) fun cdv A outer s H E hr => ?_
  have nd := sc_Walker_at.nd
  have tk := fun σ => L2N.passAt (L2N.takes_of (X := cxOf (L2N.CX P w) P w K mg base N_Walker_at "Walker.at" (defScope s_Walker_at) (He.ma K (He.ga K "Walker") "at") cdv A outer s H E) (E := E) rfl rfl rfl rfl) σ
  have tkx := L2N.takes_of (X := cxOf (L2N.CX P w) P w K mg base N_Walker_at "Walker.at" (defScope s_Walker_at) (He.ma K (He.ga K "Walker") "at") cdv A outer s H E) (E := E) rfl rfl rfl rfl
  have hp : PassesOwn (model P w) _ _ (cxOf (L2N.CX P w) P w K mg base N_Walker_at "Walker.at" (defScope s_Walker_at) (He.ma K (He.ga K "Walker") "at") cdv A outer s H E).xe := passes_of (X := cxOf (L2N.CX P w) P w K mg base N_Walker_at "Walker.at" (defScope s_Walker_at) (He.ma K (He.ga K "Walker") "at") cdv A outer s H E) rfl
  exact (css_one (cs_ret (ce_fix "Walker" 0 T.o_Walker.cl (T.o_Walker.no "stands" (by decide)) ce_neg (fun _ _ => rfl))))
theorem sc_Walker_on : FnScope N_Walker_on P_Walker_on (defScope s_Walker_on) := ⟨rfl, rfl, rfl, by decide +kernel, rfl, by decide +kernel, by decide +kernel⟩
theorem ok_Walker_on (T : Txt K mg) (c_look_at_times : Cal P w K mg base 1 "look_at_times" 1 f_look_at_times) (c_patch_of : Cal P w K mg base 2 "patch_of" 2 f_patch_of) (c_Walker_go_to : CalMt P w K mg base 1 "Walker" "go_to" 3 f_Walker_go_to) (c_Walker_at : CalMt P w K mg base 1 "Walker" "at" 1 f_Walker_at) : CalMt P w K mg base 3 "Walker" "on" 2 f_Walker_on := by
  refine calMt_of (k := 2) T.o_Walker (by decide) T.d_Walker_on sc_Walker_on (by decide) (fun _ _ _ _ _ _ us hl => match us, hl with | [_, _], _ => rfl) fun cdv A outer s H E hr => ?_
  have nd := sc_Walker_on.nd
  have tk := fun σ => L2N.passAt (L2N.takes_of (X := cxOf (L2N.CX P w) P w K mg base N_Walker_on "Walker.on" (defScope s_Walker_on) (He.ma K (He.ga K "Walker") "on") cdv A outer s H E) (E := E) rfl rfl rfl rfl) σ
  have tkx := L2N.takes_of (X := cxOf (L2N.CX P w) P w K mg base N_Walker_on "Walker.on" (defScope s_Walker_on) (He.ma K (He.ga K "Walker") "on") cdv A outer s H E) (E := E) rfl rfl rfl rfl
  have hp : PassesOwn (model P w) _ _ (cxOf (L2N.CX P w) P w K mg base N_Walker_on "Walker.on" (defScope s_Walker_on) (He.ma K (He.ga K "Walker") "on") cdv A outer s H E).xe := passes_of (X := cxOf (L2N.CX P w) P w K mg base N_Walker_on "Walker.on" (defScope s_Walker_on) (He.ma K (He.ga K "Walker") "on") cdv A outer s H E) rfl
  exact (css_cons (cs_drop (ce_callC c_look_at_times hr (by decide) tk (cr_cons (ce_var 1) cr_nil)))
    (css_cons (cs_set (i := 2) nd (ce_callC c_patch_of hr (by decide) tk (cr_cons (ce_fldO "Walker" 0 T.o_Walker.cl (T.o_Walker.no "cloth" (by decide))) (cr_cons (ce_meth0 (c := "Walker") (i := 0) T.o_Walker.cl c_Walker_at hr (by decide) tk) cr_nil))))
    (css_one (cs_ret (ce_meth (c := "Walker") (i := 0) T.o_Walker.cl c_Walker_go_to hr (by decide) tk (cr_cons (ce_ixN 2 (ce_bin op_mod od_mod (ce_var 1) (ce_cb cd_len cr_lenA (by rfl) T.n_len PySem.boot_len (ca_cons (ce_var 2) ca_nil))) (fun _ _ => rfl)) (cr_cons (ce_var 1) cr_nil)))))))
theorem sc_Walker_ahead : FnScope N_Walker_ahead P_Walker_ahead (defScope s_Walker_ahead) := ⟨rfl, rfl, rfl, by decide +kernel, rfl, by decide +kernel, by decide +kernel⟩
theorem ok_Walker_ahead (T : Txt K mg) (c_look_at_times : Cal P w K mg base 1 "look_at_times" 1 f_look_at_times) (c_patch_of : Cal P w K mg base 2 "patch_of" 2 f_patch_of) (c_Walker_go_to : CalMt P w K mg base 1 "Walker" "go_to" 3 f_Walker_go_to) (c_Walker_at : CalMt P w K mg base 1 "Walker" "at" 1 f_Walker_at) : CalMt P w K mg base 3 "Walker" "ahead" 2 f_Walker_ahead := by
  refine calMt_of (k := 2) T.o_Walker (by decide) T.d_Walker_ahead sc_Walker_ahead (by decide) (fun _ _ _ _ _ _ us hl => match us, hl with | [_, _], _ => rfl) fun cdv A outer s H E hr => ?_
  have nd := sc_Walker_ahead.nd
  have tk := fun σ => L2N.passAt (L2N.takes_of (X := cxOf (L2N.CX P w) P w K mg base N_Walker_ahead "Walker.ahead" (defScope s_Walker_ahead) (He.ma K (He.ga K "Walker") "ahead") cdv A outer s H E) (E := E) rfl rfl rfl rfl) σ
  have tkx := L2N.takes_of (X := cxOf (L2N.CX P w) P w K mg base N_Walker_ahead "Walker.ahead" (defScope s_Walker_ahead) (He.ma K (He.ga K "Walker") "ahead") cdv A outer s H E) (E := E) rfl rfl rfl rfl
  have hp : PassesOwn (model P w) _ _ (cxOf (L2N.CX P w) P w K mg base N_Walker_ahead "Walker.ahead" (defScope s_Walker_ahead) (He.ma K (He.ga K "Walker") "ahead") cdv A outer s H E).xe := passes_of (X := cxOf (L2N.CX P w) P w K mg base N_Walker_ahead "Walker.ahead" (defScope s_Walker_ahead) (He.ma K (He.ga K "Walker") "ahead") cdv A outer s H E) rfl
  exact (css_cons (cs_drop (ce_callC c_look_at_times hr (by decide) tk (cr_cons (ce_var 1) cr_nil)))
    (css_cons (cs_set (i := 2) nd (ce_callC c_patch_of hr (by decide) tk (cr_cons (ce_fldO "Walker" 0 T.o_Walker.cl (T.o_Walker.no "cloth" (by decide))) (cr_cons (ce_meth0 (c := "Walker") (i := 0) T.o_Walker.cl c_Walker_at hr (by decide) tk) cr_nil))))
    (css_one (cs_ret (ce_meth (c := "Walker") (i := 0) T.o_Walker.cl c_Walker_go_to hr (by decide) tk (cr_cons (ce_ixN 2 (ce_bin op_mod od_mod (ce_bin op_sub od_sub ce_int (ce_var 1)) (ce_cb cd_len cr_lenA (by rfl) T.n_len PySem.boot_len (ca_cons (ce_var 2) ca_nil))) (fun _ _ => rfl)) (cr_cons (ce_var 1) cr_nil)))))))
theorem sc_Walker_turned_by : FnScope N_Walker_turned_by P_Walker_turned_by (defScope s_Walker_turned_by) := ⟨rfl, rfl, rfl, by decide +kernel, rfl, by decide +kernel, by decide +kernel⟩
theorem ok_Walker_turned_by (T : Txt K mg) (c_round_knot : Cal P w K mg base 4 "round_knot" 2 f_round_knot) (c_Walker_go_to : CalMt P w K mg base 1 "Walker" "go_to" 3 f_Walker_go_to) (c_Walker_at : CalMt P w K mg base 1 "Walker" "at" 1 f_Walker_at) : CalMt P w K mg base 5 "Walker" "turned_by" 2 f_Walker_turned_by := by
  refine calMt_of (k := 4) T.o_Walker (by decide) T.d_Walker_turned_by sc_Walker_turned_by (by decide) (fun _ _ _ _ _ _ us hl => match us, hl with | [_, _], _ => rfl) fun cdv A outer s H E hr => ?_
  have nd := sc_Walker_turned_by.nd
  have tk := fun σ => L2N.passAt (L2N.takes_of (X := cxOf (L2N.CX P w) P w K mg base N_Walker_turned_by "Walker.turned_by" (defScope s_Walker_turned_by) (He.ma K (He.ga K "Walker") "turned_by") cdv A outer s H E) (E := E) rfl rfl rfl rfl) σ
  have tkx := L2N.takes_of (X := cxOf (L2N.CX P w) P w K mg base N_Walker_turned_by "Walker.turned_by" (defScope s_Walker_turned_by) (He.ma K (He.ga K "Walker") "turned_by") cdv A outer s H E) (E := E) rfl rfl rfl rfl
  have hp : PassesOwn (model P w) _ _ (cxOf (L2N.CX P w) P w K mg base N_Walker_turned_by "Walker.turned_by" (defScope s_Walker_turned_by) (He.ma K (He.ga K "Walker") "turned_by") cdv A outer s H E).xe := passes_of (X := cxOf (L2N.CX P w) P w K mg base N_Walker_turned_by "Walker.turned_by" (defScope s_Walker_turned_by) (He.ma K (He.ga K "Walker") "turned_by") cdv A outer s H E) rfl
  exact (css_cons (cs_set (i := 2) nd (ce_callC c_round_knot hr (by decide) tk (cr_cons (ce_fldO "Walker" 0 T.o_Walker.cl (T.o_Walker.no "cloth" (by decide))) (cr_cons (ce_meth0 (c := "Walker") (i := 0) T.o_Walker.cl c_Walker_at hr (by decide) tk) cr_nil))))
    (css_cons (cs_set (i := 3) nd (ce_bin op_addA od_add (ce_index (ce_var 2) (ce_meth0 (c := "Walker") (i := 0) T.o_Walker.cl c_Walker_at hr (by decide) tk)) (ce_var 1)))
    (css_cons (cs_if (ct_cmp op_isntA od_isnt (ce_ix ix_seq od_ix (ce_ix ix_seq od_ix (ce_fldO "Walker" 0 T.o_Walker.cl (T.o_Walker.no "cloth" (by decide))) ce_int (fun _ _ => rfl)) (ce_ixN 2 ce_int (fun _ _ => rfl)) (fun _ _ => rfl)) ce_none (nomark _)) (css_one (cs_ret (ce_meth (c := "Walker") (i := 0) T.o_Walker.cl c_Walker_go_to hr (by decide) tk (cr_cons (ce_ixN 2 (ce_bin op_mod od_mod (ce_var 3) (ce_cb cd_len cr_lenA (by rfl) T.n_len PySem.boot_len (ca_cons (ce_var 2) ca_nil))) (fun _ _ => rfl)) (cr_cons (ce_cb cd_abs call_abs (by rfl) T.n_abs (by decide +kernel) (ca_cons (ce_var 1) ca_nil)) cr_nil))))) css_nil)
    (css_cons (cs_set (i := 3) nd (ce_cb cd_max (call_max2 rfl) (by rfl) T.n_max (by decide +kernel) (ca_cons ce_int (ca_cons (ce_cb cd_min (call_min2 rfl) (by rfl) T.n_min (by decide +kernel) (ca_cons (ce_var 3) (ca_cons (ce_bin op_sub od_sub (ce_cb cd_len cr_lenA (by rfl) T.n_len PySem.boot_len (ca_cons (ce_var 2) ca_nil)) ce_int) ca_nil))) ca_nil))))
    (css_one (cs_ret (ce_meth (c := "Walker") (i := 0) T.o_Walker.cl c_Walker_go_to hr (by decide) tk (cr_cons (ce_ixN 2 (ce_var 3) (fun _ _ => rfl)) (cr_cons (ce_cb cd_abs call_abs (by rfl) T.n_abs (by decide +kernel) (ca_cons (ce_bin op_sub od_sub (ce_var 3) (ce_index (ce_var 2) (ce_meth0 (c := "Walker") (i := 0) T.o_Walker.cl c_Walker_at hr (by decide) tk))) ca_nil)) cr_nil)))))))))
theorem sc_Walker_left : FnScope N_Walker_left P_Walker_left (defScope s_Walker_left) := ⟨rfl, rfl, rfl, by decide +kernel, rfl, by decide +kernel, by decide +kernel⟩
theorem ok_Walker_left (T : Txt K mg) (c_look_at_times : Cal P w K mg base 1 "look_at_times" 1 f_look_at_times) (c_Walker_turned_by : CalMt P w K mg base 5 "Walker" "turned_by" 2 f_Walker_turned_by) : CalMt P w K mg base 6 "Walker" "left" 2 f_Walker_left := by
  refine calMt_of (k := 5) T.o_Walker (by decide) T.d_Walker_left sc_Walker_left (by decide) (fun _ _ _ _ _ _ us hl => match us, hl with | [_, _], _ => rfl) fun cdv A outer s H E hr => ?_
  have nd := sc_Walker_left.nd
  have tk := fun σ => L2N.passAt (L2N.takes_of (X := cxOf (L2N.CX P w) P w K mg base N_Walker_left "Walker.left" (defScope s_Walker_left) (He.ma K (He.ga K "Walker") "left") cdv A outer s H E) (E := E) rfl rfl rfl rfl) σ
  have tkx := L2N.takes_of (X := cxOf (L2N.CX P w) P w K mg base N_Walker_left "Walker.left" (defScope s_Walker_left) (He.ma K (He.ga K "Walker") "left") cdv A outer s H E) (E := E) rfl rfl rfl rfl
  have hp : PassesOwn (model P w) _ _ (cxOf (L2N.CX P w) P w K mg base N_Walker_left "Walker.left" (defScope s_Walker_left) (He.ma K (He.ga K "Walker") "left") cdv A outer s H E).xe := passes_of (X := cxOf (L2N.CX P w) P w K mg base N_Walker_left "Walker.left" (defScope s_Walker_left) (He.ma K (He.ga K "Walker") "left") cdv A outer s H E) rfl
  exact (css_cons (cs_drop (ce_callC c_look_at_times hr (by decide) tk (cr_cons (ce_var 1) cr_nil)))
    (css_one (cs_ret (ce_meth (c := "Walker") (i := 0) T.o_Walker.cl c_Walker_turned_by hr (by decide) tk (cr_cons (ce_var 1) cr_nil)))))
theorem sc_Walker_right : FnScope N_Walker_right P_Walker_right (defScope s_Walker_right) := ⟨rfl, rfl, rfl, by decide +kernel, rfl, by decide +kernel, by decide +kernel⟩
theorem ok_Walker_right (T : Txt K mg) (c_look_at_times : Cal P w K mg base 1 "look_at_times" 1 f_look_at_times) (c_Walker_turned_by : CalMt P w K mg base 5 "Walker" "turned_by" 2 f_Walker_turned_by) : CalMt P w K mg base 6 "Walker" "right" 2 f_Walker_right := by
  refine calMt_of (k := 5) T.o_Walker (by decide) T.d_Walker_right sc_Walker_right (by decide) (fun _ _ _ _ _ _ us hl => match us, hl with | [_, _], _ => rfl) fun cdv A outer s H E hr => ?_
  have nd := sc_Walker_right.nd
  have tk := fun σ => L2N.passAt (L2N.takes_of (X := cxOf (L2N.CX P w) P w K mg base N_Walker_right "Walker.right" (defScope s_Walker_right) (He.ma K (He.ga K "Walker") "right") cdv A outer s H E) (E := E) rfl rfl rfl rfl) σ
  have tkx := L2N.takes_of (X := cxOf (L2N.CX P w) P w K mg base N_Walker_right "Walker.right" (defScope s_Walker_right) (He.ma K (He.ga K "Walker") "right") cdv A outer s H E) (E := E) rfl rfl rfl rfl
  have hp : PassesOwn (model P w) _ _ (cxOf (L2N.CX P w) P w K mg base N_Walker_right "Walker.right" (defScope s_Walker_right) (He.ma K (He.ga K "Walker") "right") cdv A outer s H E).xe := passes_of (X := cxOf (L2N.CX P w) P w K mg base N_Walker_right "Walker.right" (defScope s_Walker_right) (He.ma K (He.ga K "Walker") "right") cdv A outer s H E) rfl
  exact (css_cons (cs_drop (ce_callC c_look_at_times hr (by decide) tk (cr_cons (ce_var 1) cr_nil)))
    (css_one (cs_ret (ce_meth (c := "Walker") (i := 0) T.o_Walker.cl c_Walker_turned_by hr (by decide) tk (cr_cons (ce_bin op_sub od_sub ce_int (ce_var 1)) cr_nil)))))
theorem sc_Walker_over : FnScope N_Walker_over P_Walker_over (defScope s_Walker_over) := ⟨rfl, rfl, rfl, by decide +kernel, rfl, by decide +kernel, by decide +kernel⟩
theorem ok_Walker_over (T : Txt K mg) (c_Walker_go_to : CalMt P w K mg base 1 "Walker" "go_to" 3 f_Walker_go_to) (c_Walker_at : CalMt P w K mg base 1 "Walker" "at" 1 f_Walker_at) : CalMt P w K mg base 2 "Walker" "over" 1 f_Walker_over := by
  refine calMt_of (k := 1) T.o_Walker (by decide) T.d_Walker_over sc_Walker_over (by decide) (fun _ _ _ _ _ _ us hl => match us, hl with | [_], _ => rfl) fun cdv A outer s H E hr => ?_
  have nd := sc_Walker_over.nd
  have tk := fun σ => L2N.passAt (L2N.takes_of (X := cxOf (L2N.CX P w) P w K mg base N_Walker_over "Walker.over" (defScope s_Walker_over) (He.ma K (He.ga K "Walker") "over") cdv A outer s H E) (E := E) rfl rfl rfl rfl) σ
  have tkx := L2N.takes_of (X := cxOf (L2N.CX P w) P w K mg base N_Walker_over "Walker.over" (defScope s_Walker_over) (He.ma K (He.ga K "Walker") "over") cdv A outer s H E) (E := E) rfl rfl rfl rfl
  have hp : PassesOwn (model P w) _ _ (cxOf (L2N.CX P w) P w K mg base N_Walker_over "Walker.over" (defScope s_Walker_over) (He.ma K (He.ga K "Walker") "over") cdv A outer s H E).xe := passes_of (X := cxOf (L2N.CX P w) P w K mg base N_Walker_over "Walker.over" (defScope s_Walker_over) (He.ma K (He.ga K "Walker") "over") cdv A outer s H E) rfl
  exact (css_cons (cs_set (i := 1) nd (ce_ix ix_seq od_ix (ce_ix ix_seq od_ix (ce_fldO "Walker" 0 T.o_Walker.cl (T.o_Walker.no "cloth" (by decide))) ce_int (fun _ _ => rfl)) (ce_meth0 (c := "Walker") (i := 0) T.o_Walker.cl c_Walker_at hr (by decide) tk) (fun _ _ => rfl)))
    (css_cons (cs_if (ct_cmp op_isA od_is (ce_var 1) ce_none (nomark _)) (css_one (cs_ret (ce_meth (c := "Walker") (i := 0) T.o_Walker.cl c_Walker_go_to hr (by decide) tk (cr_cons (ce_meth0 (c := "Walker") (i := 0) T.o_Walker.cl c_Walker_at hr (by decide) tk) (cr_cons ce_int cr_nil))))) css_nil)
    (css_one (cs_ret (ce_meth (c := "Walker") (i := 0) T.o_Walker.cl c_Walker_go_to hr (by decide) tk (cr_cons (ce_var 1) (cr_cons ce_int cr_nil)))))))
theorem sc__law_went : FnScope N__law_went P__law_went (defScope s__law_went) := ⟨rfl, rfl, rfl, by decide +kernel, rfl, by decide +kernel, by decide +kernel⟩
theorem ok__law_went (T : Txt K mg) (c_Walker_back : CalMt P w K mg base 1 "Walker" "back" 1 f_Walker_back) (c_Walker_on : CalMt P w K mg base 3 "Walker" "on" 2 f_Walker_on) (c_Walker_ahead : CalMt P w K mg base 3 "Walker" "ahead" 2 f_Walker_ahead) (c_Walker_left : CalMt P w K mg base 6 "Walker" "left" 2 f_Walker_left) (c_Walker_right : CalMt P w K mg base 6 "Walker" "right" 2 f_Walker_right) (c_Walker_over : CalMt P w K mg base 2 "Walker" "over" 1 f_Walker_over) : Cal P w K mg base 7 "_law_went" 3 f__law_went := by
  refine cal_of (k := 6) T.d__law_went T.g__law_went sc__law_went (by decide) (fun _ _ _ _ _ _ us hl => match us, hl with | [_, _, _], _ => rfl) fun cdv A outer s H E hr => ?_
  have nd := sc__law_went.nd
  have tk := fun σ => L2N.passAt (L2N.takes_of (X := cxOf (L2N.CX P w) P w K mg base N__law_went "_law_went" (defScope s__law_went) (He.ga K "_law_went") cdv A outer s H E) (E := E) rfl rfl rfl rfl) σ
  have tkx := L2N.takes_of (X := cxOf (L2N.CX P w) P w K mg base N__law_went "_law_went" (defScope s__law_went) (He.ga K "_law_went") cdv A outer s H E) (E := E) rfl rfl rfl rfl
  have hp : PassesOwn (model P w) _ _ (cxOf (L2N.CX P w) P w K mg base N__law_went "_law_went" (defScope s__law_went) (He.ga K "_law_went") cdv A outer s H E).xe := passes_of (X := cxOf (L2N.CX P w) P w K mg base N__law_went "_law_went" (defScope s__law_went) (He.ga K "_law_went") cdv A outer s H E) rfl
  exact (css_cons (cs_if (ct_cmp (op_eqD hr.units) od_eq (ce_var 1) ce_str (nomark _)) (css_one (cs_ret (ce_meth (c := "Walker") (i := 0) T.o_Walker.cl c_Walker_on hr (by decide) tk (cr_cons (ce_var 2) cr_nil)))) css_nil)
    (css_cons (cs_if (ct_cmp (op_eqD hr.units) od_eq (ce_var 1) ce_str (nomark _)) (css_one (cs_ret (ce_meth (c := "Walker") (i := 0) T.o_Walker.cl c_Walker_ahead hr (by decide) tk (cr_cons (ce_var 2) cr_nil)))) css_nil)
    (css_cons (cs_if (ct_cmp (op_eqD hr.units) od_eq (ce_var 1) ce_str (nomark _)) (css_one (cs_ret (ce_meth (c := "Walker") (i := 0) T.o_Walker.cl c_Walker_left hr (by decide) tk (cr_cons (ce_var 2) cr_nil)))) css_nil)
    (css_cons (cs_if (ct_cmp (op_eqD hr.units) od_eq (ce_var 1) ce_str (nomark _)) (css_one (cs_ret (ce_meth (c := "Walker") (i := 0) T.o_Walker.cl c_Walker_right hr (by decide) tk (cr_cons (ce_var 2) cr_nil)))) css_nil)
    (css_cons (cs_if (ct_cmp (op_eqD hr.units) od_eq (ce_var 1) ce_str (nomark _)) (css_one (cs_ret (ce_meth0 (c := "Walker") (i := 0) T.o_Walker.cl c_Walker_over hr (by decide) tk))) css_nil)
    (css_one (cs_ret (ce_meth0 (c := "Walker") (i := 0) T.o_Walker.cl c_Walker_back hr (by decide) tk))))))))
theorem sc__law_kinds : FnScope N__law_kinds P__law_kinds (defScope s__law_kinds) := ⟨rfl, rfl, rfl, by decide +kernel, rfl, by decide +kernel, by decide +kernel⟩
theorem ok__law_kinds (T : Txt K mg) : CalK P w K mg base 1 "_law_kinds" f__law_kinds := by
  refine calK_of (k := 0) T.d__law_kinds T.g__law_kinds sc__law_kinds rfl (by decide) (fun _ _ _ _ _ _ us hl => match us, hl with | [_], _ => rfl) fun cdv A outer s H a oe d c hc hz hf hot hr => ?_
  have nd := sc__law_kinds.nd
  have hp : (a, oe) ∈ (cxX P w K mg base N__law_kinds "_law_kinds" (defScope s__law_kinds) (He.ga K "_law_kinds") cdv A outer s H (a, oe)).pn := List.mem_singleton.mpr rfl
  exact (css_cons (cs_setL (i := 1) nd (cl_lst (ca_cons (ce_isK (i := 0) "Harm" T.kx hc (by decide) hp hz hf T.n_isinstance) (ca_cons (ce_isK (i := 0) "NoHalf" T.kx hc (by decide) hp hz hf T.n_isinstance) (ca_cons (ce_isK (i := 0) "NoMarks" T.kx hc (by decide) hp hz hf T.n_isinstance) (ca_cons (ce_isK (i := 0) "NoPlain" T.kx hc (by decide) hp hz hf T.n_isinstance) ca_nil))))))
    (css_cons (cs_setL (i := 1) nd (cl_bin op_catR ol_cat (ce_var 1) (ce_lst (cl_lst (ca_cons (ce_isK (i := 0) "NoRim" T.kx hc (by decide) hp hz hf T.n_isinstance) (ca_cons (ce_isK (i := 0) "NoRow" T.kx hc (by decide) hp hz hf T.n_isinstance) (ca_cons (ce_isK (i := 0) "NoSkin" T.kx hc (by decide) hp hz hf T.n_isinstance) (ca_cons (ce_isK (i := 0) "NoText" T.kx hc (by decide) hp hz hf T.n_isinstance) ca_nil))))))))
    (css_cons (cs_setL (i := 1) nd (cl_bin op_catR ol_cat (ce_var 1) (ce_lst (cl_lst (ca_cons (ce_isK (i := 0) "NothingLeft" T.kx hc (by decide) hp hz hf T.n_isinstance) (ca_cons (ce_isK (i := 0) "TooMany" T.kx hc (by decide) hp hz hf T.n_isinstance) (ca_cons (ce_isK (i := 0) "Unfit" T.kx hc (by decide) hp hz hf T.n_isinstance) (ca_cons (ce_isK (i := 0) "Unlike" T.kx hc (by decide) hp hz hf T.n_isinstance) ca_nil))))))))
    (css_cons (cs_set (i := 2) nd (ce_lst (cl_lst (ca_cons ce_str (ca_cons ce_str (ca_cons ce_str (ca_cons ce_str (ca_cons ce_str (ca_cons ce_str (ca_cons ce_str (ca_cons ce_str (ca_cons ce_str (ca_cons ce_str ca_nil)))))))))))))
    (css_cons (cs_set (i := 2) nd (ce_lst (cl_bin op_catR ol_cat (ce_var 2) (ce_lst (cl_lst (ca_cons ce_str (ca_cons ce_str (ca_cons ce_str ca_nil))))))))
    (css_cons (cs_drop (ce_mo 1 om_append PySem.F.slot_list_append PySem.F.type_list_append mt_append (ca_cons (ce_isV (i := 0) T.kx hc hp hz hf T.n_isinstance T.n_ValueError) ca_nil)))
    (css_one (cs_ret (ce_join ce_str (ce_lst (cl_compH hot hp nd (own := [("k", 3)]) (ci_range1H T.n_range (ca_cons ce_int ca_nil)) (blkOk_by (own := [("k", 3)]) (N := N__law_kinds) (sc := defScope s__law_kinds) (by decide +kernel)) (fun _ _ _ _ _ => (cg_name (i := 3) nd)) (fun _ _ _ _ _ => (cts_one (ct_tru (ce_ixN 1 (ce_var 3) (fun _ _ => rfl))))) (fun _ _ _ _ _ => (ce_ixN 2 (ce_var 3) (fun _ _ => rfl))))))))))))))
theorem sc__law_tried : FnScope N__law_tried P__law_tried (defScope s__law_tried) := ⟨rfl, rfl, rfl, by decide +kernel, rfl, by decide +kernel, by decide +kernel⟩
theorem ok__law_tried (T : Txt K mg) (c__law_went : Cal P w K mg base 7 "_law_went" 3 f__law_went) (c__law_kinds : CalK P w K mg base 1 "_law_kinds" f__law_kinds) : Cal P w K mg base 8 "_law_tried" 3 f__law_tried := by
  refine cal_of (k := 7) T.d__law_tried T.g__law_tried sc__law_tried (by decide) (fun _ _ _ _ _ _ us hl => match us, hl with | [_, _, _], _ => rfl) fun cdv A outer s H E hr => ?_
  have nd := sc__law_tried.nd
  have tk := fun σ => L2N.passAt (L2N.takes_of (X := cxOf (L2N.CX P w) P w K mg base N__law_tried "_law_tried" (defScope s__law_tried) (He.ga K "_law_tried") cdv A outer s H E) (E := E) rfl rfl rfl rfl) σ
  have tkx := L2N.takes_of (X := cxOf (L2N.CX P w) P w K mg base N__law_tried "_law_tried" (defScope s__law_tried) (He.ga K "_law_tried") cdv A outer s H E) (E := E) rfl rfl rfl rfl
  have hp : PassesOwn (model P w) _ _ (cxOf (L2N.CX P w) P w K mg base N__law_tried "_law_tried" (defScope s__law_tried) (He.ga K "_law_tried") cdv A outer s H E).xe := passes_of (X := cxOf (L2N.CX P w) P w K mg base N__law_tried "_law_tried" (defScope s__law_tried) (He.ga K "_law_tried") cdv A outer s H E) rfl
  exact (css_cons (cs_set (i := 3) nd ce_none)
    (css_cons (cs_set (i := 4) nd ce_str)
    (css_cons (cs_tryK (iE := 5) (iK := 4) T.kx tkx nd (fun _ _ _ tkx hp => have tk := fun σ => L2N.passAt tkx σ; (css_one (cs_set (i := 3) nd (ce_callC c__law_went hr (by decide) tk (cr_lend 0 (cr_cons (ce_var 1) (cr_cons (ce_var 2) cr_nil))))))) (.cons (by decide) rfl (by decide) (fun c hc hm a oe d pn hz hf => css_one (cs_set (i := 4) nd (ce_kinds (i := 5) c__law_kinds kinds_ok hc hz hf hr (by decide)))) .nil))
    (css_one (cs_ret (ce_tup (ca_cons (ce_var 3) (ca_cons (ce_var 4) ca_nil))))))))
theorem sc__law_left : FnScope N__law_left P__law_left (defScope s__law_left) := ⟨rfl, rfl, rfl, by decide +kernel, rfl, by decide +kernel, by decide +kernel⟩
theorem ok__law_left (T : Txt K mg)  : Cal P w K mg base 1 "_law_left" 2 f__law_left := by
  refine cal_of (k := 0) T.d__law_left T.g__law_left sc__law_left (by decide) (fun _ _ _ _ _ _ us hl => match us, hl with | [_, _], _ => rfl) fun cdv A outer s H E hr => ?_
  have nd := sc__law_left.nd
  have tk := fun σ => L2N.passAt (L2N.takes_of (X := cxOf (L2N.CX P w) P w K mg base N__law_left "_law_left" (defScope s__law_left) (He.ga K "_law_left") cdv A outer s H E) (E := E) rfl rfl rfl rfl) σ
  have tkx := L2N.takes_of (X := cxOf (L2N.CX P w) P w K mg base N__law_left "_law_left" (defScope s__law_left) (He.ga K "_law_left") cdv A outer s H E) (E := E) rfl rfl rfl rfl
  have hp : PassesOwn (model P w) _ _ (cxOf (L2N.CX P w) P w K mg base N__law_left "_law_left" (defScope s__law_left) (He.ga K "_law_left") cdv A outer s H E).xe := passes_of (X := cxOf (L2N.CX P w) P w K mg base N__law_left "_law_left" (defScope s__law_left) (He.ga K "_law_left") cdv A outer s H E) rfl
  exact (css_one (cs_ret (ce_ix ix_seq od_ix (ce_ixN 0 ce_int (fun _ _ => rfl)) (ce_index (ce_ixN 0 ce_int (fun _ _ => rfl)) (ce_var 1)) (fun _ _ => rfl))))
theorem sc__law_right : FnScope N__law_right P__law_right (defScope s__law_right) := ⟨rfl, rfl, rfl, by decide +kernel, rfl, by decide +kernel, by decide +kernel⟩
theorem ok__law_right (T : Txt K mg)  : Cal P w K mg base 1 "_law_right" 2 f__law_right := by
  refine cal_of (k := 0) T.d__law_right T.g__law_right sc__law_right (by decide) (fun _ _ _ _ _ _ us hl => match us, hl with | [_, _], _ => rfl) fun cdv A outer s H E hr => ?_
  have nd := sc__law_right.nd
  have tk := fun σ => L2N.passAt (L2N.takes_of (X := cxOf (L2N.CX P w) P w K mg base N__law_right "_law_right" (defScope s__law_right) (He.ga K "_law_right") cdv A outer s H E) (E := E) rfl rfl rfl rfl) σ
  have tkx := L2N.takes_of (X := cxOf (L2N.CX P w) P w K mg base N__law_right "_law_right" (defScope s__law_right) (He.ga K "_law_right") cdv A outer s H E) (E := E) rfl rfl rfl rfl
  have hp : PassesOwn (model P w) _ _ (cxOf (L2N.CX P w) P w K mg base N__law_right "_law_right" (defScope s__law_right) (He.ga K "_law_right") cdv A outer s H E).xe := passes_of (X := cxOf (L2N.CX P w) P w K mg base N__law_right "_law_right" (defScope s__law_right) (He.ga K "_law_right") cdv A outer s H E) rfl
  exact (css_cons (cs_if (ct_cmp op_isA od_is (ce_ix ix_seq od_ix (ce_ixN 0 ce_int (fun _ _ => rfl)) (ce_var 1) (fun _ _ => rfl)) ce_none (nomark _)) (css_one (cs_ret ce_none)) css_nil)
    (css_one (cs_ret (ce_ix ix_seq od_ix (ce_ixN 0 ce_int (fun _ _ => rfl)) (ce_ix ix_seq od_ix (ce_ixN 0 ce_int (fun _ _ => rfl)) (ce_var 1) (fun _ _ => rfl)) (fun _ _ => rfl)))))
theorem sc__law_knot : FnScope N__law_knot P__law_knot (defScope s__law_knot) := ⟨rfl, rfl, rfl, by decide +kernel, rfl, by decide +kernel, by decide +kernel⟩
theorem ok__law_knot (T : Txt K mg) (c__law_left : Cal P w K mg base 1 "_law_left" 2 f__law_left) (c__law_right : Cal P w K mg base 1 "_law_right" 2 f__law_right) : Cal P w K mg base 2 "_law_knot" 2 f__law_knot := by
  refine cal_of (k := 1) T.d__law_knot T.g__law_knot sc__law_knot (by decide) (fun _ _ _ _ _ _ us hl => match us, hl with | [_, _], _ => rfl) fun cdv A outer s H E hr => ?_
  have nd := sc__law_knot.nd
  have tk := fun σ => L2N.passAt (L2N.takes_of (X := cxOf (L2N.CX P w) P w K mg base N__law_knot "_law_knot" (defScope s__law_knot) (He.ga K "_law_knot") cdv A outer s H E) (E := E) rfl rfl rfl rfl) σ
  have tkx := L2N.takes_of (X := cxOf (L2N.CX P w) P w K mg base N__law_knot "_law_knot" (defScope s__law_knot) (He.ga K "_law_knot") cdv A outer s H E) (E := E) rfl rfl rfl rfl
  have hp : PassesOwn (model P w) _ _ (cxOf (L2N.CX P w) P w K mg base N__law_knot "_law_knot" (defScope s__law_knot) (He.ga K "_law_knot") cdv A outer s H E).xe := passes_of (X := cxOf (L2N.CX P w) P w K mg base N__law_knot "_law_knot" (defScope s__law_knot) (He.ga K "_law_knot") cdv A outer s H E) rfl
  exact (css_cons (cs_setL (i := 2) nd (cl_lst (ca_cons (ce_var 1) ca_nil)))
    (css_cons (cs_while FUEL hp (ct_cmp op_notInA od_notInS (ce_callC c__law_left hr (by decide) tk (cr_cons (ce_var 0) (cr_cons (ce_ixN 2 ce_neg (fun _ _ => rfl)) cr_nil))) (ce_tup (ca_cons ce_none (ca_cons (ce_var 1) ca_nil))) (by rfl)) (css_one (cs_drop (ce_mo 2 om_append PySem.F.slot_list_append PySem.F.type_list_append mt_append (ca_cons (ce_callC c__law_left hr (by decide) tk (cr_cons (ce_var 0) (cr_cons (ce_ixN 2 ce_neg (fun _ _ => rfl)) cr_nil))) ca_nil)))))
    (css_cons (cs_if (ct_cmp op_isA od_is (ce_callC c__law_left hr (by decide) tk (cr_cons (ce_var 0) (cr_cons (ce_ixN 2 ce_neg (fun _ _ => rfl)) cr_nil))) ce_none (nomark _)) (css_one (cs_while FUEL hp (ct_cmp op_isntA od_isnt (ce_callC c__law_right hr (by decide) tk (cr_cons (ce_var 0) (cr_cons (ce_ixN 2 ce_int (fun _ _ => rfl)) cr_nil))) ce_none (nomark _)) (css_one (cs_drop (ce_mo 2 om_insert PySem.F.slot_list_insert PySem.F.type_list_insert mt_insert (ca_cons ce_int (ca_cons (ce_callC c__law_right hr (by decide) tk (cr_cons (ce_var 0) (cr_cons (ce_ixN 2 ce_int (fun _ _ => rfl)) cr_nil))) ca_nil))))))) css_nil)
    (css_one (cs_ret (ce_tupO 2 T.n_tuple))))))
theorem sc__law_patch : FnScope N__law_patch P__law_patch (defScope s__law_patch) := ⟨rfl, rfl, rfl, by decide +kernel, rfl, by decide +kernel, by decide +kernel⟩
theorem ok__law_patch (T : Txt K mg)  : Cal P w K mg base 1 "_law_patch" 2 f__law_patch := by
  refine cal_of (k := 0) T.d__law_patch T.g__law_patch sc__law_patch (by decide) (fun _ _ _ _ _ _ us hl => match us, hl with | [_, _], _ => rfl) fun cdv A outer s H E hr => ?_
  have nd := sc__law_patch.nd
  have tk := fun σ => L2N.passAt (L2N.takes_of (X := cxOf (L2N.CX P w) P w K mg base N__law_patch "_law_patch" (defScope s__law_patch) (He.ga K "_law_patch") cdv A outer s H E) (E := E) rfl rfl rfl rfl) σ
  have tkx := L2N.takes_of (X := cxOf (L2N.CX P w) P w K mg base N__law_patch "_law_patch" (defScope s__law_patch) (He.ga K "_law_patch") cdv A outer s H E) (E := E) rfl rfl rfl rfl
  have hp : PassesOwn (model P w) _ _ (cxOf (L2N.CX P w) P w K mg base N__law_patch "_law_patch" (defScope s__law_patch) (He.ga K "_law_patch") cdv A outer s H E).xe := passes_of (X := cxOf (L2N.CX P w) P w K mg base N__law_patch "_law_patch" (defScope s__law_patch) (He.ga K "_law_patch") cdv A outer s H E) rfl
  exact (css_cons (cs_setL (i := 2) nd (cl_lst (ca_cons (ce_var 1) ca_nil)))
    (css_cons (cs_while FUEL hp (ct_cmp (op_neD hr.units) od_ne (ce_ix ix_seq od_ix (ce_ixN 0 ce_int (fun _ _ => rfl)) (ce_ixN 2 ce_neg (fun _ _ => rfl)) (fun _ _ => rfl)) (ce_var 1) (nomark _)) (css_one (cs_drop (ce_mo 2 om_append PySem.F.slot_list_append PySem.F.type_list_append mt_append (ca_cons (ce_ix ix_seq od_ix (ce_ixN 0 ce_int (fun _ _ => rfl)) (ce_ixN 2 ce_neg (fun _ _ => rfl)) (fun _ _ => rfl)) ca_nil)))))
    (css_one (cs_ret (ce_tupO 2 T.n_tuple)))))
theorem sc__law_goal : FnScope N__law_goal P__law_goal (defScope s__law_goal) := ⟨rfl, rfl, rfl, by decide +kernel, rfl, by decide +kernel, by decide +kernel⟩
theorem ok__law_goal (T : Txt K mg) (c__law_knot : Cal P w K mg base 2 "_law_knot" 2 f__law_knot) (c__law_patch : Cal P w K mg base 1 "_law_patch" 2 f__law_patch) : Cal P w K mg base 3 "_law_goal" 4 f__law_goal := by
  refine cal_of (k := 2) T.d__law_goal T.g__law_goal sc__law_goal (by decide) (fun _ _ _ _ _ _ us hl => match us, hl with | [_, _, _, _], _ => rfl) fun cdv A outer s H E hr => ?_
  have nd := sc__law_goal.nd
  have tk := fun σ => L2N.passAt (L2N.takes_of (X := cxOf (L2N.CX P w) P w K mg base N__law_goal "_law_goal" (defScope s__law_goal) (He.ga K "_law_goal") cdv A outer s H E) (E := E) rfl rfl rfl rfl) σ
  have tkx := L2N.takes_of (X := cxOf (L2N.CX P w) P w K mg base N__law_goal "_law_goal" (defScope s__law_goal) (He.ga K "_law_goal") cdv A outer s H E) (E := E) rfl rfl rfl rfl
  have hp : PassesOwn (model P w) _ _ (cxOf (L2N.CX P w) P w K mg base N__law_goal "_law_goal" (defScope s__law_goal) (He.ga K "_law_goal") cdv A outer s H E).xe := passes_of (X := cxOf (L2N.CX P w) P w K mg base N__law_goal "_law_goal" (defScope s__law_goal) (He.ga K "_law_goal") cdv A outer s H E) rfl
  exact (css_cons (cs_if (ct_cmp (op_eqD hr.units) od_eq (ce_var 2) ce_str (nomark _)) (css_cons (cs_set (i := 4) nd (ce_ix ix_seq od_ix (ce_ixN 0 ce_int (fun _ _ => rfl)) (ce_var 1) (fun _ _ => rfl)))
    (css_one (cs_ret (ce_if (ct_cmp op_isA od_is (ce_var 4) ce_none (nomark _)) (ce_tup (ca_cons (ce_var 1) (ca_cons ce_int ca_nil))) (ce_tup (ca_cons (ce_var 4) (ca_cons ce_int ca_nil))))))) css_nil)
    (css_cons (cs_if (ct_w (cw_or (ct_cmp (op_eqD hr.units) od_eq (ce_var 2) ce_str (nomark _)) (cw_or1 (ct_cmp (op_eqD hr.units) od_eq (ce_var 2) ce_str (nomark _))))) (css_cons (cs_set (i := 5) nd (ce_callC c__law_patch hr (by decide) tk (cr_cons (ce_var 0) (cr_cons (ce_var 1) cr_nil))))
    (css_one (cs_ret (ce_tup (ca_cons (ce_ixN 5 (ce_bin op_mod od_mod (ce_ix ix_seq od_ix (ce_lst (cl_lst (ca_cons (ce_var 3) (ca_cons (ce_bin op_sub od_sub ce_int (ce_var 3)) ca_nil)))) (ce_ct cd_int call_int1 (by rfl) T.n_int (by decide +kernel) (ca_cons (ce_cmp (op_eqD hr.units) od_eq (ce_var 2) ce_str (nomark _)) ca_nil)) (fun _ _ => rfl)) (ce_cb cd_len cr_lenA (by rfl) T.n_len PySem.boot_len (ca_cons (ce_var 5) ca_nil))) (fun _ _ => rfl)) (ca_cons (ce_var 3) ca_nil)))))) css_nil)
    (css_cons (cs_set (i := 5) nd (ce_callC c__law_knot hr (by decide) tk (cr_cons (ce_var 0) (cr_cons (ce_var 1) cr_nil))))
    (css_cons (cs_set (i := 6) nd (ce_index (ce_var 5) (ce_var 1)))
    (css_cons (cs_if (ct_cmp op_isntA od_isnt (ce_ix ix_seq od_ix (ce_ixN 0 ce_int (fun _ _ => rfl)) (ce_ixN 5 ce_int (fun _ _ => rfl)) (fun _ _ => rfl)) ce_none (nomark _)) (css_one (cs_ret (ce_tup (ca_cons (ce_ixN 5 (ce_bin op_mod od_mod (ce_bin op_addA od_add (ce_var 6) (ce_ix ix_seq od_ix (ce_lst (cl_lst (ca_cons (ce_var 3) (ca_cons (ce_bin op_sub od_sub ce_int (ce_var 3)) ca_nil)))) (ce_ct cd_int call_int1 (by rfl) T.n_int (by decide +kernel) (ca_cons (ce_cmp (op_eqD hr.units) od_eq (ce_var 2) ce_str (nomark _)) ca_nil)) (fun _ _ => rfl))) (ce_cb cd_len cr_lenA (by rfl) T.n_len PySem.boot_len (ca_cons (ce_var 5) ca_nil))) (fun _ _ => rfl)) (ca_cons (ce_var 3) ca_nil))))) css_nil)
    (css_cons (cs_set (i := 7) nd (ce_ix ix_seq od_ix (ce_lst (cl_lst (ca_cons (ce_bin op_sub od_sub (ce_bin op_sub od_sub (ce_cb cd_len cr_lenA (by rfl) T.n_len PySem.boot_len (ca_cons (ce_var 5) ca_nil)) ce_int) (ce_var 6)) (ca_cons (ce_var 6) ca_nil)))) (ce_ct cd_int call_int1 (by rfl) T.n_int (by decide +kernel) (ca_cons (ce_cmp (op_eqD hr.units) od_eq (ce_var 2) ce_str (nomark _)) ca_nil)) (fun _ _ => rfl)))
    (css_cons (cs_set (i := 8) nd (ce_cb cd_min (call_min2 rfl) (by rfl) T.n_min (by decide +kernel) (ca_cons (ce_var 7) (ca_cons (ce_var 3) ca_nil))))
    (css_one (cs_ret (ce_tup (ca_cons (ce_ixN 5 (ce_bin op_addA od_add (ce_var 6) (ce_ix ix_seq od_ix (ce_lst (cl_lst (ca_cons (ce_var 8) (ca_cons (ce_bin op_sub od_sub ce_int (ce_var 8)) ca_nil)))) (ce_ct cd_int call_int1 (by rfl) T.n_int (by decide +kernel) (ca_cons (ce_cmp (op_eqD hr.units) od_eq (ce_var 2) ce_str (nomark _)) ca_nil)) (fun _ _ => rfl))) (fun _ _ => rfl)) (ca_cons (ce_var 8) ca_nil))))))))))))
theorem sc_Walker_init : FnScope N_Walker_init P_Walker_init (defScope s_Walker_init) := ⟨rfl, rfl, rfl, by decide +kernel, rfl, by decide +kernel, by decide +kernel⟩
theorem ok_Walker_init (T : Txt K mg) (c_look_at_half : Cal P w K mg base 1 "look_at_half" 2 f_look_at_half) : CalMk P w K mg base 2 "Walker" 3 f_Walker_init := by
  refine calMk_of (k := 1) T.o_Walker T.d_Walker_init sc_Walker_init (by decide) (fun _ _ _ _ _ _ us hl => match us, hl with | [_, _, _], _ => rfl) fun cdv A outer s H E hr => ?_
  have nd := sc_Walker_init.nd
  have tk := fun σ => L2N.passAt (L2N.takes_of (X := cxOf (L2N.CX P w) P w K mg base N_Walker_init "Walker.__init__" (defScope s_Walker_init) (He.ma K (He.ga K "Walker") "__init__") cdv A outer s H E) (E := E) rfl rfl rfl rfl) σ
  have tkx := L2N.takes_of (X := cxOf (L2N.CX P w) P w K mg base N_Walker_init "Walker.__init__" (defScope s_Walker_init) (He.ma K (He.ga K "Walker") "__init__") cdv A outer s H E) (E := E) rfl rfl rfl rfl
  have hp : PassesOwn (model P w) _ _ (cxOf (L2N.CX P w) P w K mg base N_Walker_init "Walker.__init__" (defScope s_Walker_init) (He.ma K (He.ga K "Walker") "__init__") cdv A outer s H E).xe := passes_of (X := cxOf (L2N.CX P w) P w K mg base N_Walker_init "Walker.__init__" (defScope s_Walker_init) (He.ma K (He.ga K "Walker") "__init__") cdv A outer s H E) rfl
  exact (css_cons (cs_drop (ce_callC c_look_at_half hr (by decide) tk (cr_cons (ce_var 1) (cr_cons (ce_var 2) cr_nil))))
    (css_cons (cs_fldD "Walker" 0 T.o_Walker.cl (T.o_Walker.no "cloth" (by decide)) (ce_var 1))
    (css_one (cs_fldL "Walker" 0 T.o_Walker.cl (T.o_Walker.no "stands" (by decide)) (cl_lst (ca_cons (ce_var 2) ca_nil))))))
theorem sc__law_made_at : FnScope N__law_made_at P__law_made_at (defScope s__law_made_at) := ⟨rfl, rfl, rfl, by decide +kernel, rfl, by decide +kernel, by decide +kernel⟩
theorem ok__law_made_at (T : Txt K mg) (c_Walker_init : CalMk P w K mg base 2 "Walker" 3 f_Walker_init) (c__law_kinds : CalK P w K mg base 1 "_law_kinds" f__law_kinds) : Cal P w K mg base 4 "_law_made_at" 2 f__law_made_at := by
  refine cal_of (k := 3) T.d__law_made_at T.g__law_made_at sc__law_made_at (by decide) (fun _ _ _ _ _ _ us hl => match us, hl with | [_, _], _ => rfl) fun cdv A outer s H E hr => ?_
  have nd := sc__law_made_at.nd
  have tk := fun σ => L2N.passAt (L2N.takes_of (X := cxOf (L2N.CX P w) P w K mg base N__law_made_at "_law_made_at" (defScope s__law_made_at) (He.ga K "_law_made_at") cdv A outer s H E) (E := E) rfl rfl rfl rfl) σ
  have tkx := L2N.takes_of (X := cxOf (L2N.CX P w) P w K mg base N__law_made_at "_law_made_at" (defScope s__law_made_at) (He.ga K "_law_made_at") cdv A outer s H E) (E := E) rfl rfl rfl rfl
  have hp : PassesOwn (model P w) _ _ (cxOf (L2N.CX P w) P w K mg base N__law_made_at "_law_made_at" (defScope s__law_made_at) (He.ga K "_law_made_at") cdv A outer s H E).xe := passes_of (X := cxOf (L2N.CX P w) P w K mg base N__law_made_at "_law_made_at" (defScope s__law_made_at) (He.ga K "_law_made_at") cdv A outer s H E) rfl
  exact (css_cons (cs_set (i := 2) nd ce_str)
    (css_cons (cs_tryK (iE := 3) (iK := 2) T.kx tkx nd (fun _ _ _ tkx hp => have tk := fun σ => L2N.passAt tkx σ; (css_one (cs_makeX c_Walker_init hr (by decide) tk (ca_cons (ce_var 0) (ca_cons (ce_var 1) ca_nil))))) (.cons (by decide) rfl (by decide) (fun c hc hm a oe d pn hz hf => css_one (cs_set (i := 2) nd (ce_kinds (i := 3) c__law_kinds kinds_ok hc hz hf hr (by decide)))) .nil))
    (css_one (cs_ret (ce_var 2)))))
theorem sc__law_bag : FnScope N__law_bag P__law_bag (defScope s__law_bag) := ⟨rfl, rfl, rfl, by decide +kernel, rfl, by decide +kernel, by decide +kernel⟩
theorem ok__law_bag (T : Txt K mg)  : Cal P w K mg base 1 "_law_bag" 2 f__law_bag := by
  refine cal_of (k := 0) T.d__law_bag T.g__law_bag sc__law_bag (by decide) (fun _ _ _ _ _ _ us hl => match us, hl with | [_, _], _ => rfl) fun cdv A outer s H E hr => ?_
  have nd := sc__law_bag.nd
  have tk := fun σ => L2N.passAt (L2N.takes_of (X := cxOf (L2N.CX P w) P w K mg base N__law_bag "_law_bag" (defScope s__law_bag) (He.ga K "_law_bag") cdv A outer s H E) (E := E) rfl rfl rfl rfl) σ
  have tkx := L2N.takes_of (X := cxOf (L2N.CX P w) P w K mg base N__law_bag "_law_bag" (defScope s__law_bag) (He.ga K "_law_bag") cdv A outer s H E) (E := E) rfl rfl rfl rfl
  have hp : PassesOwn (model P w) _ _ (cxOf (L2N.CX P w) P w K mg base N__law_bag "_law_bag" (defScope s__law_bag) (He.ga K "_law_bag") cdv A outer s H E).xe := passes_of (X := cxOf (L2N.CX P w) P w K mg base N__law_bag "_law_bag" (defScope s__law_bag) (He.ga K "_law_bag") cdv A outer s H E) rfl
  exact (css_cons (cs_set (i := 2) nd ce_int)
    (css_cons (cs_if (ct_cmp op_lt od_lt (ce_var 1) (ce_cb cd_len cr_lenA (by rfl) T.n_len PySem.boot_len (ca_cons (ce_var 0) ca_nil)) (nomark _)) (css_one (cs_set (i := 2) nd (ce_bin op_mod od_mod (ce_ixN 0 (ce_var 1) (fun _ _ => rfl)) (ce_bin op_mulAT od_mulT (ce_bin op_pow od_pow ce_int ce_int) (ce_bin op_pow od_pow ce_int ce_int))))) css_nil)
    (css_cons (cs_if (ct_cmp op_lt od_lt (ce_var 2) (ce_bin op_pow od_pow ce_int ce_int) (nomark _)) (css_one (cs_retL (cl_lst (ca_cons ce_int (ca_cons (ce_bin op_addA od_add ce_int (ce_bin op_mod od_mod (ce_bin op_addA od_add (ce_bin op_mulAT od_mulT (ce_var 2) ce_int) (ce_bin op_mulAT od_mulT ce_int (ce_var 1))) ce_int)) ca_nil))))) css_nil)
    (css_one (cs_retL (cl_lst (ca_cons (ce_var 2) (ca_cons (ce_bin op_addA od_add ce_int (ce_bin op_mod od_mod (ce_bin op_addA od_add (ce_var 2) (ce_var 1)) ce_int)) ca_nil))))))))
theorem sc__law_take : FnScope N__law_take P__law_take (defScope s__law_take) := ⟨rfl, rfl, rfl, by decide +kernel, rfl, by decide +kernel, by decide +kernel⟩
theorem ok__law_take (T : Txt K mg)  : Cal P w K mg base 1 "_law_take" 2 f__law_take := by
  refine cal_of (k := 0) T.d__law_take T.g__law_take sc__law_take (by decide) (fun _ _ _ _ _ _ us hl => match us, hl with | [_, _], _ => rfl) fun cdv A outer s H E hr => ?_
  have nd := sc__law_take.nd
  have tk := fun σ => L2N.passAt (L2N.takes_of (X := cxOf (L2N.CX P w) P w K mg base N__law_take "_law_take" (defScope s__law_take) (He.ga K "_law_take") cdv A outer s H E) (E := E) rfl rfl rfl rfl) σ
  have tkx := L2N.takes_of (X := cxOf (L2N.CX P w) P w K mg base N__law_take "_law_take" (defScope s__law_take) (He.ga K "_law_take") cdv A outer s H E) (E := E) rfl rfl rfl rfl
  have hp : PassesOwn (model P w) _ _ (cxOf (L2N.CX P w) P w K mg base N__law_take "_law_take" (defScope s__law_take) (He.ga K "_law_take") cdv A outer s H E).xe := passes_of (X := cxOf (L2N.CX P w) P w K mg base N__law_take "_law_take" (defScope s__law_take) (He.ga K "_law_take") cdv A outer s H E) rfl
  exact (css_cons (cs_if (ct_cmp op_gt od_gt (ce_ixN 0 ce_int (fun _ _ => rfl)) ce_int (nomark _)) (css_cons (cs_set (i := 2) nd (ce_bin op_mod od_mod (ce_ixN 0 ce_int (fun _ _ => rfl)) (ce_var 1)))
    (css_cons (cs_setO 0 ce_int (ce_bin op_fdivW od_fdiv (ce_ixN 0 ce_int (fun _ _ => rfl)) (ce_var 1)))
    (css_one (cs_ret (ce_var 2))))) css_nil)
    (css_cons (cs_setO 0 ce_int (ce_bin op_mod od_mod (ce_bin op_mulAT od_mulT (ce_ixN 0 ce_int (fun _ _ => rfl)) ce_int) ce_int))
    (css_one (cs_ret (ce_bin op_mod od_mod (ce_bin op_fdivW od_fdiv (ce_bin op_mod od_mod (ce_bin op_mulAT od_mulT (ce_ixN 0 ce_int (fun _ _ => rfl)) (ce_ixN 0 ce_int (fun _ _ => rfl))) ce_int) ce_int) (ce_var 1))))))
theorem sc__law_skin : FnScope N__law_skin P__law_skin (defScope s__law_skin) := ⟨rfl, rfl, rfl, by decide +kernel, rfl, by decide +kernel, by decide +kernel⟩
theorem ok__law_skin (T : Txt K mg) (c__law_take : Cal P w K mg base 1 "_law_take" 2 f__law_take) : Cal P w K mg base 2 "_law_skin" 2 f__law_skin := by
  refine cal_of (k := 1) T.d__law_skin T.g__law_skin sc__law_skin (by decide) (fun _ _ _ _ _ _ us hl => match us, hl with | [_, _], _ => rfl) fun cdv A outer s H E hr => ?_
  have nd := sc__law_skin.nd
  have tk := fun σ => L2N.passAt (L2N.takes_of (X := cxOf (L2N.CX P w) P w K mg base N__law_skin "_law_skin" (defScope s__law_skin) (He.ga K "_law_skin") cdv A outer s H E) (E := E) rfl rfl rfl rfl) σ
  have tkx := L2N.takes_of (X := cxOf (L2N.CX P w) P w K mg base N__law_skin "_law_skin" (defScope s__law_skin) (He.ga K "_law_skin") cdv A outer s H E) (E := E) rfl rfl rfl rfl
  have hp : PassesOwn (model P w) _ _ (cxOf (L2N.CX P w) P w K mg base N__law_skin "_law_skin" (defScope s__law_skin) (He.ga K "_law_skin") cdv A outer s H E).xe := passes_of (X := cxOf (L2N.CX P w) P w K mg base N__law_skin "_law_skin" (defScope s__law_skin) (He.ga K "_law_skin") cdv A outer s H E) rfl
  exact (css_cons (cs_set (i := 2) nd (ce_bin op_addA od_add ce_int (ce_callC c__law_take hr (by decide) tk (cr_lend 0 (cr_cons (ce_var 1) cr_nil)))))
    (css_cons (cs_setL (i := 3) nd (cl_lst ca_nil))
    (css_cons (cs_for hp rfl (ci_range1 T.n_range (ca_cons (ce_var 2) ca_nil)) (cg_name (i := 4) nd) (css_one (cs_drop (ce_mo 3 om_insert PySem.F.slot_list_insert PySem.F.type_list_insert mt_insert (ca_cons (ce_callC c__law_take hr (by decide) tk (cr_lend 0 (cr_cons (ce_bin op_addA od_add (ce_var 4) ce_int) cr_nil))) (ca_cons (ce_var 4) ca_nil))))))
    (css_cons (cs_setL (i := 5) nd (cl_rep (cl_lst (ca_cons ce_int ca_nil)) (ce_var 2)))
    (css_cons (cs_set (i := 6) nd (ce_ix ix_seq od_ix (ce_lst (cl_lst (ca_cons (ce_bin op_addA od_add ce_int (ce_callC c__law_take hr (by decide) tk (cr_lend 0 (cr_cons ce_int cr_nil)))) (ca_cons ce_int (ca_cons (ce_var 2) ca_nil))))) (ce_callC c__law_take hr (by decide) tk (cr_lend 0 (cr_cons ce_int cr_nil))) (fun _ _ => rfl)))
    (css_cons (cs_set (i := 7) nd (ce_lst (cl_listA 3 T.n_list)))
    (css_cons (cs_while FUEL hp (ct_cmp (op_neD hr.units) od_ne (ce_var 7) (ce_lst (cl_lst ca_nil)) (nomark _)) (css_cons (cs_set (i := 8) nd (ce_cb cd_min (call_min2 rfl) (by rfl) T.n_min (by decide +kernel) (ca_cons (ce_cb cd_len cr_lenA (by rfl) T.n_len PySem.boot_len (ca_cons (ce_var 7) ca_nil)) (ca_cons (ce_ix ix_seq od_ix (ce_lst (cl_lst (ca_cons (ce_var 6) (ca_cons (ce_bin op_addA od_add ce_int (ce_callC c__law_take hr (by decide) tk (cr_lend 0 (cr_cons (ce_var 6) cr_nil)))) ca_nil)))) (ce_callC c__law_take hr (by decide) tk (cr_lend 0 (cr_cons ce_int cr_nil))) (fun _ _ => rfl)) ca_nil))))
    (css_cons (cs_set (i := 9) nd (ce_sl (ce_var 7) co_none (co_some (ce_var 8))))
    (css_cons (cs_set (i := 7) nd (ce_sl (ce_var 7) (co_some (ce_var 8)) co_none))
    (css_one (cs_for hp rfl (ci_range1 T.n_range (ca_cons (ce_var 8) ca_nil)) (cg_name (i := 10) nd) (css_one (cs_setO 5 (ce_ixN 9 (ce_bin op_sub od_sub (ce_var 10) ce_int) (fun _ _ => rfl)) (ce_ixN 9 (ce_var 10) (fun _ _ => rfl))))))))))
    (css_cons (cs_setL (i := 11) nd (cl_rep (cl_lst (ca_cons ce_none ca_nil)) (ce_var 2)))
    (css_cons (cs_set (i := 12) nd (ce_ix ix_seq od_ix (ce_lst (cl_lst (ca_cons ce_int (ca_cons ce_int (ca_cons ce_int ca_nil))))) (ce_callC c__law_take hr (by decide) tk (cr_lend 0 (cr_cons ce_int cr_nil))) (fun _ _ => rfl)))
    (css_cons (cs_setL (i := 13) nd (cl_listRg rfl T.n_list T.n_range (ce_var 2)))
    (css_cons (cs_while FUEL hp (ct_cmp op_gt od_gt (ce_lenO 13 T.n_len) ce_int (nomark _)) (css_cons (cs_set (i := 14) nd (ce_mo 13 om_popAt PySem.F.slot_list_pop PySem.F.type_list_pop mt_popAt (ca_cons (ce_callC c__law_take hr (by decide) tk (cr_lend 0 (cr_cons (ce_lenO 13 T.n_len) cr_nil))) ca_nil)))
    (css_cons (cs_set (i := 15) nd (ce_mo 13 om_popAt PySem.F.slot_list_pop PySem.F.type_list_pop mt_popAt (ca_cons (ce_callC c__law_take hr (by decide) tk (cr_lend 0 (cr_cons (ce_lenO 13 T.n_len) cr_nil))) ca_nil)))
    (css_one (cs_if (ct_cmp op_gt od_gt (ce_callC c__law_take hr (by decide) tk (cr_lend 0 (cr_cons (ce_var 12) cr_nil))) ce_int (nomark _)) (css_cons (cs_setO 11 (ce_var 14) (ce_var 15))
    (css_one (cs_setO 11 (ce_var 15) (ce_var 14)))) css_nil)))))
    (css_one (cs_ret (ce_tup (ca_cons (ce_tupO 5 T.n_tuple) (ca_cons (ce_tupO 11 T.n_tuple) ca_nil))))))))))))))))
theorem sc_Walker_deeds : FnScope N_Walker_deeds P_Walker_deeds (defScope s_Walker_deeds) := ⟨rfl, rfl, rfl, by decide +kernel, rfl, by decide +kernel, by decide +kernel⟩
theorem ok_Walker_deeds (T : Txt K mg)  : CalMt P w K mg base 1 "Walker" "deeds" 1 f_Walker_deeds := by
  refine calMt_of (k := 0) T.o_Walker (by decide) T.d_Walker_deeds sc_Walker_deeds (by decide) (fun _ _ _ _ _ _ us hl => match us, hl with | [_], _ => rfl) fun cdv A outer s H E hr => ?_
  have nd := sc_Walker_deeds.nd
  have tk := fun σ => L2N.passAt (L2N.takes_of (X := cxOf (L2N.CX P w) P w K mg base N_Walker_deeds "Walker.deeds" (defScope s_Walker_deeds) (He.ma K (He.ga K "Walker") "deeds") cdv A outer s H E) (E := E) rfl rfl rfl rfl) σ
  have tkx := L2N.takes_of (X := cxOf (L2N.CX P w) P w K mg base N_Walker_deeds "Walker.deeds" (defScope s_Walker_deeds) (He.ma K (He.ga K "Walker") "deeds") cdv A outer s H E) (E := E) rfl rfl rfl rfl
  have hp : PassesOwn (model P w) _ _ (cxOf (L2N.CX P w) P w K mg base N_Walker_deeds "Walker.deeds" (defScope s_Walker_deeds) (He.ma K (He.ga K "Walker") "deeds") cdv A outer s H E).xe := passes_of (X := cxOf (L2N.CX P w) P w K mg base N_Walker_deeds "Walker.deeds" (defScope s_Walker_deeds) (He.ma K (He.ga K "Walker") "deeds") cdv A outer s H E) rfl
  exact (css_one (cs_ret (ce_bin op_sub od_sub (ce_flen "Walker" 0 T.o_Walker.cl (T.o_Walker.no "stands" (by decide)) T.n_len) ce_int)))
theorem sc_law : FnScope N_law P_law (defScope s_law) := ⟨rfl, rfl, rfl, by decide +kernel, rfl, by decide +kernel, by decide +kernel⟩
theorem ok_law (T : Txt K mg) (c__law_bag : Cal P w K mg base 1 "_law_bag" 2 f__law_bag) (c__law_skin : Cal P w K mg base 2 "_law_skin" 2 f__law_skin) (c_Walker_init : CalMk P w K mg base 2 "Walker" 3 f_Walker_init) (c__law_take : Cal P w K mg base 1 "_law_take" 2 f__law_take) (c__law_made_at : Cal P w K mg base 4 "_law_made_at" 2 f__law_made_at) (c__law_tried : Cal P w K mg base 8 "_law_tried" 3 f__law_tried) (c__law_goal : Cal P w K mg base 3 "_law_goal" 4 f__law_goal) (c_Walker_at : CalMt P w K mg base 1 "Walker" "at" 1 f_Walker_at) (c_Walker_deeds : CalMt P w K mg base 1 "Walker" "deeds" 1 f_Walker_deeds) {fd : FuncData} (F : FnT K "law" s_law fd) : FnOk P w K mg base (L2N.CX P w) 9 (He.ga K "law") fd P_law (spD K mg 1 f_law) := by
  refine fn_bodyD (k := 8) F sc_law (by decide) fun cdv A outer s H E hr => ?_
  have nd := sc_law.nd
  have tk := fun σ => L2N.passAt (L2N.takes_of (X := cxOf (L2N.CX P w) P w K mg base N_law "law" (defScope s_law) (He.ga K "law") cdv A outer s H E) (E := E) rfl rfl rfl rfl) σ
  have tkx := L2N.takes_of (X := cxOf (L2N.CX P w) P w K mg base N_law "law" (defScope s_law) (He.ga K "law") cdv A outer s H E) (E := E) rfl rfl rfl rfl
  have hp : PassesOwn (model P w) _ _ (cxOf (L2N.CX P w) P w K mg base N_law "law" (defScope s_law) (He.ga K "law") cdv A outer s H E).xe := passes_of (X := cxOf (L2N.CX P w) P w K mg base N_law "law" (defScope s_law) (He.ga K "law") cdv A outer s H E) rfl
  exact (css_cons (cs_setL (i := 1) nd (cl_callC c__law_bag hr (by decide) tk (cr_cons (ce_var 0) (cr_cons ce_int cr_nil))))
    (css_cons (cs_set (i := 2) nd (ce_callC c__law_skin hr (by decide) tk (cr_lend 1 (cr_cons (ce_ix ix_seq od_ix (ce_lst (cl_lst (ca_cons ce_int (ca_cons ce_int ca_nil)))) (ce_ct cd_int call_int1 (by rfl) T.n_int (by decide +kernel) (ca_cons (ce_cmp (op_eqD hr.units) od_eq (ce_callC c__law_take hr (by decide) tk (cr_lend 1 (cr_cons ce_int cr_nil))) ce_int (nomark _)) ca_nil)) (fun _ _ => rfl)) cr_nil))))
    (css_cons (cs_setL (i := 3) nd (cl_lst (ca_cons (ce_callC c__law_take hr (by decide) tk (cr_lend 1 (cr_cons (ce_cb cd_len cr_lenA (by rfl) T.n_len PySem.boot_len (ca_cons (ce_ixN 2 ce_int (fun _ _ => rfl)) ca_nil)) cr_nil))) ca_nil)))
    (css_cons (cs_make (i := 4) nd c_Walker_init hr (by decide) tk (ca_cons (ce_var 2) (ca_cons (ce_ixN 3 ce_int (fun _ _ => rfl)) ca_nil)))
    (css_cons (cs_for hp rfl (ci_seqS (ce_lst (cl_lst (ca_cons ce_neg (ca_cons (ce_cb cd_len cr_lenA (by rfl) T.n_len PySem.boot_len (ca_cons (ce_ixN 2 ce_int (fun _ _ => rfl)) ca_nil)) (ca_cons (ce_bin op_pow od_pow ce_int ce_int) ca_nil)))))) (cg_name (i := 5) nd) (css_one (cs_if (ct_cmp (op_neD hr.units) od_ne (ce_callC c__law_made_at hr (by decide) tk (cr_cons (ce_var 2) (cr_cons (ce_var 5) cr_nil))) ce_str (nomark _)) (css_one (cs_ret ce_bool)) css_nil)))
    (css_cons (cs_for hp rfl (ci_range1 T.n_range (ca_cons (ce_bin op_addA od_add ce_int (ce_cb cd_min (call_min2 rfl) (by rfl) T.n_min (by decide +kernel) (ca_cons (ce_cb cd_len cr_lenA (by rfl) T.n_len PySem.boot_len (ca_cons (ce_var 0) ca_nil)) (ca_cons ce_int ca_nil)))) ca_nil)) (cg_name (i := 6) nd) (css_cons (cs_setL (i := 7) nd (cl_callC c__law_bag hr (by decide) tk (cr_cons (ce_var 0) (cr_cons (ce_var 6) cr_nil))))
    (css_cons (cs_set (i := 8) nd (ce_ix ix_seq od_ix (ce_lst (cl_lst (ca_cons ce_str (ca_cons ce_str (ca_cons ce_str (ca_cons ce_str (ca_cons ce_str (ca_cons ce_str (ca_cons ce_str ca_nil))))))))) (ce_callC c__law_take hr (by decide) tk (cr_lend 7 (cr_cons ce_int cr_nil))) (fun _ _ => rfl)))
    (css_cons (cs_set (i := 9) nd (ce_lst (cl_lst (ca_cons (ce_callC c__law_take hr (by decide) tk (cr_lend 7 (cr_cons ce_int cr_nil))) (ca_cons (ce_callC c__law_take hr (by decide) tk (cr_lend 7 (cr_cons ce_int cr_nil))) (ca_cons (ce_bin op_sub od_sub (ce_bin op_pow od_pow ce_int ce_int) (ce_callC c__law_take hr (by decide) tk (cr_lend 7 (cr_cons ce_int cr_nil)))) (ca_cons ce_neg (ca_cons (ce_bin op_addA od_add (ce_bin op_pow od_pow ce_int ce_int) ce_int) ca_nil))))))))
    (css_cons (cs_set (i := 9) nd (ce_ixN 9 (ce_ix ix_seq od_ix (ce_lst (cl_lst (ca_cons ce_int (ca_cons ce_int (ca_cons ce_int (ca_cons ce_int (ca_cons ce_int (ca_cons ce_int (ca_cons ce_int (ca_cons ce_int (ca_cons ce_int ca_nil))))))))))) (ce_callC c__law_take hr (by decide) tk (cr_lend 7 (cr_cons ce_int cr_nil))) (fun _ _ => rfl)) (fun _ _ => rfl)))
    (css_cons (cs_if (ct_w (cw_and (ct_cmp op_inA od_inS (ce_var 8) (ce_lst (cl_lst (ca_cons ce_str (ca_cons ce_str (ca_cons ce_str (ca_cons ce_str ca_nil)))))) (by rfl)) (cw_and1 (ct_not (ct_chain op_le od_le op_le od_le ce_int (ce_var 9) (ce_bin op_pow od_pow ce_int ce_int)))))) (css_one (cs_set (i := 10) nd (ce_tup (ca_cons ce_none (ca_cons ce_str ca_nil))))) (css_one (cs_if (ct_cmp (op_eqD hr.units) od_eq (ce_var 8) ce_str (nomark _)) (css_cons (cs_set (i := 10) nd (ce_tup (ca_cons ce_none (ca_cons (ce_ix ix_seq od_ix (ce_lst (cl_lst (ca_cons ce_str (ca_cons ce_str ca_nil)))) (ce_ct cd_int call_int1 (by rfl) T.n_int (by decide +kernel) (ca_cons (ce_cmp (op_eqD hr.units) od_eq (ce_lenO 3 T.n_len) ce_int (nomark _)) ca_nil)) (fun _ _ => rfl)) ca_nil))))
    (css_one (cs_setL (i := 3) nd (cl_slA 3 co_none (co_some (ce_cb cd_max (call_max2 rfl) (by rfl) T.n_max (by decide +kernel) (ca_cons ce_int (ca_cons (ce_bin op_sub od_sub (ce_lenO 3 T.n_len) ce_int) ca_nil)))))))) (css_cons (cs_asg (ce_callC c__law_goal hr (by decide) tk (cr_cons (ce_var 2) (cr_cons (ce_ixN 3 ce_neg (fun _ _ => rfl)) (cr_cons (ce_var 8) (cr_cons (ce_var 9) cr_nil))))) (cg_tup rfl (cgs_cons (cg_name (i := 11) nd) (cgs_cons (cg_name (i := 12) nd) cgs_nil))))
    (css_cons (cs_set (i := 10) nd (ce_tup (ca_cons (ce_var 12) (ca_cons ce_str ca_nil))))
    (css_one (cs_drop (ce_mo 3 om_append PySem.F.slot_list_append PySem.F.type_list_append mt_append (ca_cons (ce_var 11) ca_nil)))))))))
    (css_cons (cs_if (ct_cmp (op_neD hr.units) od_ne (ce_callC c__law_tried hr (by decide) tk (cr_lend 4 (cr_cons (ce_var 8) (cr_cons (ce_var 9) cr_nil)))) (ce_var 10) (nomark _)) (css_one (cs_ret ce_bool)) css_nil)
    (css_one (cs_if (ct_w (cw_or (ct_cmp (op_neD hr.units) od_ne (ce_meth0 (c := "Walker") (i := 4) T.o_Walker.cl c_Walker_at hr (by decide) tk) (ce_ixN 3 ce_neg (fun _ _ => rfl)) (nomark _)) (cw_or (ct_cmp (op_neD hr.units) od_ne (ce_meth0 (c := "Walker") (i := 4) T.o_Walker.cl c_Walker_deeds hr (by decide) tk) (ce_bin op_sub od_sub (ce_lenO 3 T.n_len) ce_int) (nomark _)) (cw_or1 (ct_val (ce_isi "bool" (by decide +kernel) T.n_bool T.n_isinstance (ce_meth0 (c := "Walker") (i := 4) T.o_Walker.cl c_Walker_at hr (by decide) tk))))))) (css_one (cs_ret ce_bool)) css_nil)))))))))
    (css_one (cs_ret ce_bool))))))))
end
end K35
set_option Elab.async false
set_option linter.all false
set_option maxRecDepth 100000
set_option maxHeartbeats 4000000
namespace K35
open PySem L2 DL LW
def fn : List He.DefD := [defD "look_at_half" s_look_at_half, defD "ahead_of" s_ahead_of, defD "left_of" s_left_of, defD "right_of" s_right_of, defD "patch_of" s_patch_of, defD "round_knot" s_round_knot, defD "look_at_times" s_look_at_times, defD "_law_went" s__law_went, defD "_law_kinds" s__law_kinds, defD "_law_tried" s__law_tried, defD "_law_left" s__law_left, defD "_law_right" s__law_right, defD "_law_knot" s__law_knot, defD "_law_patch" s__law_patch, defD "_law_goal" s__law_goal, defD "_law_made_at" s__law_made_at, defD "_law_bag" s__law_bag, defD "_law_take" s__law_take, defD "_law_skin" s__law_skin, defD "law" s_law, ⟨("Walker", some "back"), "back", "Walker.back", defArgs s_Walker_back, defBody s_Walker_back, defScope s_Walker_back, [], []⟩, ⟨("Walker", some "go_to"), "go_to", "Walker.go_to", defArgs s_Walker_go_to, defBody s_Walker_go_to, defScope s_Walker_go_to, [], []⟩, ⟨("Walker", some "at"), "at", "Walker.at", defArgs s_Walker_at, defBody s_Walker_at, defScope s_Walker_at, [], []⟩, ⟨("Walker", some "on"), "on", "Walker.on", defArgs s_Walker_on, defBody s_Walker_on, defScope s_Walker_on, [], []⟩, ⟨("Walker", some "ahead"), "ahead", "Walker.ahead", defArgs s_Walker_ahead, defBody s_Walker_ahead, defScope s_Walker_ahead, [], []⟩, ⟨("Walker", some "turned_by"), "turned_by", "Walker.turned_by", defArgs s_Walker_turned_by, defBody s_Walker_turned_by, defScope s_Walker_turned_by, [], []⟩, ⟨("Walker", some "left"), "left", "Walker.left", defArgs s_Walker_left, defBody s_Walker_left, defScope s_Walker_left, [], []⟩, ⟨("Walker", some "right"), "right", "Walker.right", defArgs s_Walker_right, defBody s_Walker_right, defScope s_Walker_right, [], []⟩, ⟨("Walker", some "over"), "over", "Walker.over", defArgs s_Walker_over, defBody s_Walker_over, defScope s_Walker_over, [], []⟩, ⟨("Walker", some "__init__"), "__init__", "Walker.__init__", defArgs s_Walker_init, defBody s_Walker_init, defScope s_Walker_init, [], []⟩, ⟨("Walker", some "deeds"), "deeds", "Walker.deeds", defArgs s_Walker_deeds, defBody s_Walker_deeds, defScope s_Walker_deeds, [], []⟩]
def fa : List He.Fa := [.glo "look_at_half", .glo "ahead_of", .glo "left_of", .glo "right_of", .glo "patch_of", .glo "round_knot", .glo "look_at_times", .glo "_law_went", .glo "_law_kinds", .glo "_law_tried", .glo "_law_left", .glo "_law_right", .glo "_law_knot", .glo "_law_patch", .glo "_law_goal", .glo "_law_made_at", .glo "_law_bag", .glo "_law_take", .glo "_law_skin", .glo "law", .free "ValueError", .free "abs", .free "bool", .free "int", .free "isinstance", .free "len", .free "list", .free "max", .free "min", .free "range", .free "tuple", .int "MOST_STEPS" 1000000000000000000000000000000, .glo "NoHalf", .glo "NothingLeft", .glo "TooMany", .exc "NoHalf", .exc "NothingLeft", .exc "TooMany", .glo "Harm", .glo "NoHalf", .glo "NoMarks", .glo "NoPlain", .glo "NoRim", .glo "NoRow", .glo "NoSkin", .glo "NoText", .glo "NothingLeft", .glo "TooMany", .glo "Unfit", .glo "Unlike", .glo "SkinError", .glo "Walker"]
def exB (K : PySem.W.Frag) : Bool := obfB K "Walker" ["cloth", "stands"] ["go_to", "on", "ahead", "over", "turned_by", "left", "right", "back", "at", "deeds"] && (kxB K && (true))
abbrev Rw : PySem.W.OpenRow := PySem.W.OpenLaw.row PySem.Challenge.rw_halfseams_k35_walkers_by_hand
abbrev hk : PySem.W.Hook := hookB 4 fa fn exB
def ob (s : PySem.W.SharedT) : He.AlD × Bool := obsB 4 fa fn exB (HandSHeadRun.getT s)
theorem ob_eq (s : PySem.W.SharedT) : ob s = hk.obs s.abs := obsB_eq (HandSHeadRun.getT_eq s)
def loose : List Str := (["SkinError", "NoHalf", "NoRim", "Unlike", "TooMany", "NoPlain", "NoMarks", "NothingLeft", "Unfit", "NoText", "NoRow", "NoSkin", "Harm", "Walker", "MOST_STEPS", "look_at_half", "ahead_of", "left_of", "right_of", "patch_of", "round_knot", "look_at_times", "_law_went", "_law_tried", "_law_goal", "_law_made_at", "_law_bag", "_law_take", "_law_skin", "_law_left"] : List Str) ++ (["_law_right", "_law_knot", "_law_patch", "_law_kinds"] : List Str)
theorem run (w : World) : HandSHeadRun.RunEq Rw (PySem.W.view Rw.prog [39]) hk ob 100000 loose w := by
  intro os
  kernel_rfl
theorem txt {K : PySem.W.Frag} {h : Heap} {mg : Str → Option Value} (X : K.In h) (G : h.Ns mainGlobals mg) (c : He.SaysD fa fn K) (e : exB K = true) : Txt K mg where
  d_look_at_half := c.def_ 0 (d := defD "look_at_half" s_look_at_half) rfl
  g_look_at_half := He.glo_ok X G (c.fact 0 (f := .glo "look_at_half") rfl)
  d_ahead_of := c.def_ 1 (d := defD "ahead_of" s_ahead_of) rfl
  g_ahead_of := He.glo_ok X G (c.fact 1 (f := .glo "ahead_of") rfl)
  d_left_of := c.def_ 2 (d := defD "left_of" s_left_of) rfl
  g_left_of := He.glo_ok X G (c.fact 2 (f := .glo "left_of") rfl)
  d_right_of := c.def_ 3 (d := defD "right_of" s_right_of) rfl
  g_right_of := He.glo_ok X G (c.fact 3 (f := .glo "right_of") rfl)
  d_patch_of := c.def_ 4 (d := defD "patch_of" s_patch_of) rfl
  g_patch_of := He.glo_ok X G (c.fact 4 (f := .glo "patch_of") rfl)
  d_round_knot := c.def_ 5 (d := defD "round_knot" s_round_knot) rfl
  g_round_knot := He.glo_ok X G (c.fact 5 (f := .glo "round_knot") rfl)
  d_look_at_times := c.def_ 6 (d := defD "look_at_times" s_look_at_times) rfl
  g_look_at_times := He.glo_ok X G (c.fact 6 (f := .glo "look_at_times") rfl)
  d__law_went := c.def_ 7 (d := defD "_law_went" s__law_went) rfl
  g__law_went := He.glo_ok X G (c.fact 7 (f := .glo "_law_went") rfl)
  d__law_kinds := c.def_ 8 (d := defD "_law_kinds" s__law_kinds) rfl
  g__law_kinds := He.glo_ok X G (c.fact 8 (f := .glo "_law_kinds") rfl)
  d__law_tried := c.def_ 9 (d := defD "_law_tried" s__law_tried) rfl
  g__law_tried := He.glo_ok X G (c.fact 9 (f := .glo "_law_tried") rfl)
  d__law_left := c.def_ 10 (d := defD "_law_left" s__law_left) rfl
  g__law_left := He.glo_ok X G (c.fact 10 (f := .glo "_law_left") rfl)
  d__law_right := c.def_ 11 (d := defD "_law_right" s__law_right) rfl
  g__law_right := He.glo_ok X G (c.fact 11 (f := .glo "_law_right") rfl)
  d__law_knot := c.def_ 12 (d := defD "_law_knot" s__law_knot) rfl
  g__law_knot := He.glo_ok X G (c.fact 12 (f := .glo "_law_knot") rfl)
  d__law_patch := c.def_ 13 (d := defD "_law_patch" s__law_patch) rfl
  g__law_patch := He.glo_ok X G (c.fact 13 (f := .glo "_law_patch") rfl)
  d__law_goal := c.def_ 14 (d := defD "_law_goal" s__law_goal) rfl
  g__law_goal := He.glo_ok X G (c.fact 14 (f := .glo "_law_goal") rfl)
  d__law_made_at := c.def_ 15 (d := defD "_law_made_at" s__law_made_at) rfl
  g__law_made_at := He.glo_ok X G (c.fact 15 (f := .glo "_law_made_at") rfl)
  d__law_bag := c.def_ 16 (d := defD "_law_bag" s__law_bag) rfl
  g__law_bag := He.glo_ok X G (c.fact 16 (f := .glo "_law_bag") rfl)
  d__law_take := c.def_ 17 (d := defD "_law_take" s__law_take) rfl
  g__law_take := He.glo_ok X G (c.fact 17 (f := .glo "_law_take") rfl)
  d__law_skin := c.def_ 18 (d := defD "_law_skin" s__law_skin) rfl
  g__law_skin := He.glo_ok X G (c.fact 18 (f := .glo "_law_skin") rfl)
  d_law := c.def_ 19 (d := defD "law" s_law) rfl
  g_law := He.glo_ok X G (c.fact 19 (f := .glo "law") rfl)
  n_ValueError := He.free_ok X G (c.fact 20 (f := .free "ValueError") rfl)
  n_abs := He.free_ok X G (c.fact 21 (f := .free "abs") rfl)
  n_bool := He.free_ok X G (c.fact 22 (f := .free "bool") rfl)
  n_int := He.free_ok X G (c.fact 23 (f := .free "int") rfl)
  n_isinstance := He.free_ok X G (c.fact 24 (f := .free "isinstance") rfl)
  n_len := He.free_ok X G (c.fact 25 (f := .free "len") rfl)
  n_list := He.free_ok X G (c.fact 26 (f := .free "list") rfl)
  n_max := He.free_ok X G (c.fact 27 (f := .free "max") rfl)
  n_min := He.free_ok X G (c.fact 28 (f := .free "min") rfl)
  n_range := He.free_ok X G (c.fact 29 (f := .free "range") rfl)
  n_tuple := He.free_ok X G (c.fact 30 (f := .free "tuple") rfl)
  c_MOST_STEPS := He.int_ok X G (c.fact 31 (f := .int "MOST_STEPS" 1000000000000000000000000000000) rfl)
  x_NoHalf := let q := He.exc_ok (c.fact 35 (f := .exc "NoHalf") rfl); ⟨He.glo_ok X G (c.fact 32 (f := .glo "NoHalf") rfl), q.1, q.2.1, q.2.2.1, q.2.2.2⟩
  x_NothingLeft := let q := He.exc_ok (c.fact 36 (f := .exc "NothingLeft") rfl); ⟨He.glo_ok X G (c.fact 33 (f := .glo "NothingLeft") rfl), q.1, q.2.1, q.2.2.1, q.2.2.2⟩
  x_TooMany := let q := He.exc_ok (c.fact 37 (f := .exc "TooMany") rfl); ⟨He.glo_ok X G (c.fact 34 (f := .glo "TooMany") rfl), q.1, q.2.1, q.2.2.1, q.2.2.2⟩
  kx := kxB_ok (He.ba (He.ba e).2).1 (fun c1 hc => by
    simp only [kNames, List.mem_cons, List.not_mem_nil, or_false] at hc
    rcases hc with rfl | rfl | rfl | rfl | rfl | rfl | rfl | rfl | rfl | rfl | rfl | rfl
    · exact He.glo_ok X G (c.fact 38 (f := .glo "Harm") rfl)
    · exact He.glo_ok X G (c.fact 39 (f := .glo "NoHalf") rfl)
    · exact He.glo_ok X G (c.fact 40 (f := .glo "NoMarks") rfl)
    · exact He.glo_ok X G (c.fact 41 (f := .glo "NoPlain") rfl)
    · exact He.glo_ok X G (c.fact 42 (f := .glo "NoRim") rfl)
    · exact He.glo_ok X G (c.fact 43 (f := .glo "NoRow") rfl)
    · exact He.glo_ok X G (c.fact 44 (f := .glo "NoSkin") rfl)
    · exact He.glo_ok X G (c.fact 45 (f := .glo "NoText") rfl)
    · exact He.glo_ok X G (c.fact 46 (f := .glo "NothingLeft") rfl)
    · exact He.glo_ok X G (c.fact 47 (f := .glo "TooMany") rfl)
    · exact He.glo_ok X G (c.fact 48 (f := .glo "Unfit") rfl)
    · exact He.glo_ok X G (c.fact 49 (f := .glo "Unlike") rfl)
    ) (He.glo_ok X G (c.fact 50 (f := .glo "SkinError") rfl))
  o_Walker := obfB_ok (He.ba e).1 (He.glo_ok X G (c.fact 51 (f := .glo "Walker") rfl))
  d_Walker_back := c.def_ 20 (d := ⟨("Walker", some "back"), "back", "Walker.back", defArgs s_Walker_back, defBody s_Walker_back, defScope s_Walker_back, [], []⟩) rfl
  d_Walker_go_to := c.def_ 21 (d := ⟨("Walker", some "go_to"), "go_to", "Walker.go_to", defArgs s_Walker_go_to, defBody s_Walker_go_to, defScope s_Walker_go_to, [], []⟩) rfl
  d_Walker_at := c.def_ 22 (d := ⟨("Walker", some "at"), "at", "Walker.at", defArgs s_Walker_at, defBody s_Walker_at, defScope s_Walker_at, [], []⟩) rfl
  d_Walker_on := c.def_ 23 (d := ⟨("Walker", some "on"), "on", "Walker.on", defArgs s_Walker_on, defBody s_Walker_on, defScope s_Walker_on, [], []⟩) rfl
  d_Walker_ahead := c.def_ 24 (d := ⟨("Walker", some "ahead"), "ahead", "Walker.ahead", defArgs s_Walker_ahead, defBody s_Walker_ahead, defScope s_Walker_ahead, [], []⟩) rfl
  d_Walker_turned_by := c.def_ 25 (d := ⟨("Walker", some "turned_by"), "turned_by", "Walker.turned_by", defArgs s_Walker_turned_by, defBody s_Walker_turned_by, defScope s_Walker_turned_by, [], []⟩) rfl
  d_Walker_left := c.def_ 26 (d := ⟨("Walker", some "left"), "left", "Walker.left", defArgs s_Walker_left, defBody s_Walker_left, defScope s_Walker_left, [], []⟩) rfl
  d_Walker_right := c.def_ 27 (d := ⟨("Walker", some "right"), "right", "Walker.right", defArgs s_Walker_right, defBody s_Walker_right, defScope s_Walker_right, [], []⟩) rfl
  d_Walker_over := c.def_ 28 (d := ⟨("Walker", some "over"), "over", "Walker.over", defArgs s_Walker_over, defBody s_Walker_over, defScope s_Walker_over, [], []⟩) rfl
  d_Walker_init := c.def_ 29 (d := ⟨("Walker", some "__init__"), "__init__", "Walker.__init__", defArgs s_Walker_init, defBody s_Walker_init, defScope s_Walker_init, [], []⟩) rfl
  d_Walker_deeds := c.def_ 30 (d := ⟨("Walker", some "deeds"), "deeds", "Walker.deeds", defArgs s_Walker_deeds, defBody s_Walker_deeds, defScope s_Walker_deeds, [], []⟩) rfl
theorem law_fn {P : Program} {w : World} {K : PySem.W.Frag} {mg : Str → Option Value} {base : Heap} (T : Txt K mg) {fd : FuncData} (F : FnT K "law" s_law fd) : FnOk P w K mg base (L2N.CX P w) 9 (He.ga K "law") fd P_law (spD K mg 1 f_law) := by
  have c_look_at_half := ok_look_at_half (P := P) (w := w) (base := base) T 
  have c_ahead_of := ok_ahead_of (P := P) (w := w) (base := base) T c_look_at_half
  have c_left_of := ok_left_of (P := P) (w := w) (base := base) T c_ahead_of
  have c_right_of := ok_right_of (P := P) (w := w) (base := base) T c_look_at_half
  have c_patch_of := ok_patch_of (P := P) (w := w) (base := base) T c_look_at_half
  have c_round_knot := ok_round_knot (P := P) (w := w) (base := base) T c_right_of c_left_of
  have c_look_at_times := ok_look_at_times (P := P) (w := w) (base := base) T 
  have c_Walker_back := ok_Walker_back (P := P) (w := w) (base := base) T 
  have c_Walker_go_to := ok_Walker_go_to (P := P) (w := w) (base := base) T 
  have c_Walker_at := ok_Walker_at (P := P) (w := w) (base := base) T 
  have c_Walker_on := ok_Walker_on (P := P) (w := w) (base := base) T c_look_at_times c_patch_of c_Walker_go_to c_Walker_at
  have c_Walker_ahead := ok_Walker_ahead (P := P) (w := w) (base := base) T c_look_at_times c_patch_of c_Walker_go_to c_Walker_at
  have c_Walker_turned_by := ok_Walker_turned_by (P := P) (w := w) (base := base) T c_round_knot c_Walker_go_to c_Walker_at
  have c_Walker_left := ok_Walker_left (P := P) (w := w) (base := base) T c_look_at_times c_Walker_turned_by
  have c_Walker_right := ok_Walker_right (P := P) (w := w) (base := base) T c_look_at_times c_Walker_turned_by
  have c_Walker_over := ok_Walker_over (P := P) (w := w) (base := base) T c_Walker_go_to c_Walker_at
  have c__law_went := ok__law_went (P := P) (w := w) (base := base) T c_Walker_back c_Walker_on c_Walker_ahead c_Walker_left c_Walker_right c_Walker_over
  have c__law_kinds := ok__law_kinds (P := P) (w := w) (base := base) T 
  have c__law_tried := ok__law_tried (P := P) (w := w) (base := base) T c__law_went c__law_kinds
  have c__law_left := ok__law_left (P := P) (w := w) (base := base) T 
  have c__law_right := ok__law_right (P := P) (w := w) (base := base) T 
  have c__law_knot := ok__law_knot (P := P) (w := w) (base := base) T c__law_left c__law_right
  have c__law_patch := ok__law_patch (P := P) (w := w) (base := base) T 
  have c__law_goal := ok__law_goal (P := P) (w := w) (base := base) T c__law_knot c__law_patch
  have c_Walker_init := ok_Walker_init (P := P) (w := w) (base := base) T c_look_at_half
  have c__law_made_at := ok__law_made_at (P := P) (w := w) (base := base) T c_Walker_init c__law_kinds
  have c__law_bag := ok__law_bag (P := P) (w := w) (base := base) T 
  have c__law_take := ok__law_take (P := P) (w := w) (base := base) T 
  have c__law_skin := ok__law_skin (P := P) (w := w) (base := base) T c__law_take
  have c_Walker_deeds := ok_Walker_deeds (P := P) (w := w) (base := base) T 
  exact ok_law (P := P) (w := w) (base := base) T c__law_bag c__law_skin c_Walker_init c__law_take c__law_made_at c__law_tried c__law_goal c_Walker_at c_Walker_deeds F
end K35
set_option Elab.async false
set_option linter.all false
set_option maxRecDepth 100000
set_option maxHeartbeats 4000000
namespace LW
open PySem L2 DL
def isBoolD : D → Bool
  | .bool _ => true
  | _ => false
theorem isi_of {T : String} {d : D} {b : Bool} (h : kitB (tyD d) T = some b) : isiD T d = some (.bool b) := by
  unfold isiD
  rw [h]
  rfl
theorem isi_bool (d : D) : isiD "bool" d = some (.bool (isBoolD d)) := by
  cases d with
  | none => exact isi_of (show kitB "NoneType" "bool" = some false by decide +kernel)
  | bool _ => exact isi_of (show kitB "bool" "bool" = some true by decide +kernel)
  | int _ => exact isi_of (show kitB "int" "bool" = some false by decide +kernel)
  | str _ => exact isi_of (show kitB "str" "bool" = some false by decide +kernel)
  | list _ => exact isi_of (show kitB "list" "bool" = some false by decide +kernel)
  | tuple _ => exact isi_of (show kitB "tuple" "bool" = some false by decide +kernel)
  | dict _ => exact isi_of (show kitB "dict" "bool" = some false by decide +kernel)
theorem divOk_of {m : Int} (h : 0 < m) (h2 : m < 2 ^ 64) : divOk m = true := by
  unfold divOk
  have h3 : m.natAbs < 2 ^ 64 := by omega
  have h4 : m.natAbs < 2 ^ 4000 := Nat.lt_of_lt_of_le h3 (Nat.pow_le_pow_right (by decide) (by decide))
  rw [decide_eq_true h, decide_eq_true h4]
  rfl
theorem mulOk_r {i j : Int} (h1 : -(2 ^ 64) < j) (h2 : j < 2 ^ 64) : mulOk i j = true := by
  unfold mulOk
  rw [decide_eq_true h1, decide_eq_true h2]
  simp
theorem mulOk_l {i j : Int} (h1 : -(2 ^ 64) < i) (h2 : i < 2 ^ 64) : mulOk i j = true := by
  unfold mulOk
  rw [decide_eq_true h1, decide_eq_true h2]
  simp
def T18 : Int := 10 ^ 18
def T120 : Int := 10 ^ 60 * 10 ^ 60
theorem T120_pos : 0 < T120 := by decide +kernel
theorem powOk60 : powOk 10 60 = true := by decide +kernel
theorem powOk18 : powOk 10 18 = true := by decide +kernel
theorem mulOk60 : mulOk ((10 : Int) ^ (60 : Int).toNat) ((10 : Int) ^ (60 : Int).toNat) = true := by decide +kernel
end LW
set_option Elab.async false
set_option linter.all false
set_option maxRecDepth 100000
set_option maxHeartbeats 4000000
namespace DL
open PySem L2
def np : Sl → Bool
  | .p _ => false
  | _ => true
def Fl.out (args : DEnv) : Fl → Fo
  | .nx e => .ok .none (outsOf args e)
  | .rt d e => .ok d (outsOf args e)
  | .rl xs e => .okl xs (outsOf args e)
  | .ex x e => .ex x (outsOf args e)
  | _ => .stuck
theorem bodyF_ap (n : Nat) (ds : DS) (args : DEnv) : bodyF n ds args = (ds (args ++ List.replicate (n - args.length) Sl.no)).out args := by
  unfold bodyF
  cases ds (args ++ List.replicate (n - args.length) Sl.no) <;> rfl
end DL
namespace LW
open PySem L2 DL
def shD (k : Nat) (d : D) : Prop := d.canLay0 = true ∧ d.depth ≤ k
def shA (k : Nat) (xs : List D) : Prop := ∀ x, x ∈ xs → shD k x
theorem shA_lay {k : Nat} : ∀ {xs : List D}, shA k xs → PyData.canLayAll0 xs = true ∧ PyData.depthAll xs ≤ k
  | [], _ => ⟨rfl, Nat.zero_le _⟩
  | x :: xs, h => by
    have a := h x (List.mem_cons_self ..)
    have b := shA_lay (xs := xs) fun y hy => h y (List.mem_cons_of_mem _ hy)
    simp only [PyData.canLayAll0, PyData.depthAll, Bool.and_eq_true]
    exact ⟨⟨a.1, b.1⟩, Nat.max_le.2 ⟨a.2, b.2⟩⟩
theorem shD_tup {k : Nat} {xs : List D} (h : shA k xs) : shD (k + 1) (.tuple xs) := by
  obtain ⟨a, b⟩ := shA_lay h
  exact ⟨by simpa [PyData.canLay0] using a, by simp [PyData.depth]; exact b⟩
theorem shD_lst {k : Nat} {xs : List D} (h : shA k xs) : shD (k + 1) (.list xs) := by
  obtain ⟨a, b⟩ := shA_lay h
  exact ⟨by simpa [PyData.canLay0] using a, by simp [PyData.depth]; exact b⟩
theorem shD_int (k : Nat) (i : Int) : shD k (.int i) := ⟨rfl, by simp [PyData.depth]⟩
theorem shD_bool (k : Nat) (i : Bool) : shD k (.bool i) := ⟨rfl, by simp [PyData.depth]⟩
theorem shD_none (k : Nat) : shD k .none := ⟨rfl, by simp [PyData.depth]⟩
theorem shD_up {k m : Nat} (hk : k ≤ m) {d : D} (h : shD k d) : shD m d := ⟨h.1, Nat.le_trans h.2 hk⟩
theorem shaped_of {k : Nat} (hk : k ≤ 64) {d : D} (h : shD k d) : SeqAt.shaped d = true := by
  unfold SeqAt.shaped
  simp [h.1]
  exact Nat.le_trans h.2 hk
theorem dEq_of {k : Nat} (hk : k ≤ 64) {a b : D} (ha : shD k a) (hb : shD k b) : dEq a b = some (.bool (PyData.eqv a b)) := by
  unfold dEq
  rw [if_pos ⟨shaped_of hk ha, shaped_of hk hb⟩]
theorem dNe_of {k : Nat} (hk : k ≤ 64) {a b : D} (ha : shD k a) (hb : shD k b) : dNe a b = some (.bool (!PyData.eqv a b)) := by
  unfold dNe
  rw [if_pos ⟨shaped_of hk ha, shaped_of hk hb⟩]
@[simp] theorem dEq_int (i j : Int) : dEq (.int i) (.int j) = some (.bool (decide (i = j))) := by
  rw [dEq_of (k := 0) (by decide) (shD_int ..) (shD_int ..)]
  simp [PyData.eqv]
  rfl
@[simp] theorem dNe_int (i j : Int) : dNe (.int i) (.int j) = some (.bool (!decide (i = j))) := by
  rw [dNe_of (k := 0) (by decide) (shD_int ..) (shD_int ..)]
  simp [PyData.eqv]
  rfl
@[simp] theorem dNe_bool (i j : Bool) : dNe (.bool i) (.bool j) = some (.bool (i != j)) := by
  rw [dNe_of (k := 0) (by decide) (shD_bool ..) (shD_bool ..)]
  simp only [PyData.eqv, bne]
def nD (k : Nat) : D := .int (k : Int)
def nsD (L : List Nat) : List D := L.map nD
def oD : Option Nat → D
  | none => .none
  | some k => nD k
def osD (L : List (Option Nat)) : List D := L.map oD
@[simp] theorem nsD_len (L : List Nat) : (nsD L).length = L.length := by simp [nsD]
@[simp] theorem osD_len (L : List (Option Nat)) : (osD L).length = L.length := by simp [osD]
@[simp] theorem nsD_empty (L : List Nat) : (nsD L).isEmpty = L.isEmpty := by cases L <;> rfl
theorem nsD_get (L : List Nat) (i : Nat) : (nsD L)[i]? = (L[i]?).map nD := by simp [nsD]
theorem ixN_of {n k : Nat} (h : k < n) : ixN n (k : Int) = some k := by
  unfold ixN
  rw [if_pos (by omega), if_pos (by omega)]
  simp
theorem seqIx_of {n k : Nat} (h : k < n) : seqIndex? (k : Int) n = some k := (ixN_seq (ixN_of h)).1
theorem atI_k {xs : List D} {k : Nat} {d : D} (h : xs[k]? = some d) : atI xs (k : Int) = some d := atI_nat h
/-- the one told ahead in a row that comes round -/
def prevOf (p : List Nat) (i : Nat) : Nat := if i = 0 then p.getD (p.length - 1) 0 else p.getD (i - 1) 0
theorem atI_prev {p : List Nat} {i : Nat} (h : i < p.length) : atI (nsD p) ((i : Int) - 1) = some (nD (prevOf p i)) := by
  unfold prevOf
  by_cases c : i = 0
  · subst c
    rw [if_pos rfl]
    unfold atI ixN
    have h1 : ¬ (0 ≤ ((0 : Nat) : Int) - 1) := by omega
    have h2 : -((nsD p).length : Int) ≤ ((0 : Nat) : Int) - 1 := by rw [nsD_len]; omega
    rw [if_neg h1, if_pos h2]
    have h3 : (((0 : Nat) : Int) - 1 + ((nsD p).length : Int)).toNat = p.length - 1 := by rw [nsD_len]; omega
    rw [h3]
    show (nsD p)[p.length - 1]? = _
    rw [nsD_get, List.getElem?_eq_getElem (by omega : p.length - 1 < p.length)]
    simp [List.getD, List.getElem?_eq_getElem (by omega : p.length - 1 < p.length)]
  · rw [if_neg c]
    have h3 : (i : Int) - 1 = ((i - 1 : Nat) : Int) := by omega
    rw [h3]
    refine atI_k ?_
    rw [nsD_get, List.getElem?_eq_getElem (by omega : i - 1 < p.length)]
    simp [List.getD, List.getElem?_eq_getElem (by omega : i - 1 < p.length)]
theorem prev_mem {p : List Nat} {i : Nat} (h : i < p.length) : prevOf p i ∈ p := by
  unfold prevOf
  split
  · simp [List.getD, List.getElem?_eq_getElem (by omega : p.length - 1 < p.length)]
  · simp [List.getD, List.getElem?_eq_getElem (by omega : i - 1 < p.length)]
theorem getD_inj {p : List Nat} (hn : p.Nodup) {i j : Nat} (hi : i < p.length) (hj : j < p.length) (h : p.getD i 0 = p.getD j 0) : i = j := by
  simp [List.getD, List.getElem?_eq_getElem hi, List.getElem?_eq_getElem hj] at h
  have pw := List.pairwise_iff_getElem.1 hn
  rcases Nat.lt_trichotomy i j with c | c | c
  · exact absurd h (pw i j hi hj c)
  · exact c
  · exact absurd h.symm (pw j i hj hi c)
theorem prev_inj {p : List Nat} (hn : p.Nodup) {i j : Nat} (hi : i < p.length) (hj : j < p.length) (h : prevOf p i = prevOf p j) : i = j := by
  unfold prevOf at h
  by_cases c : i = 0
  · rw [if_pos c] at h
    by_cases d : j = 0
    · omega
    · rw [if_neg d] at h
      have := getD_inj hn (by omega) (by omega) h
      omega
  · rw [if_neg c] at h
    by_cases d : j = 0
    · rw [if_pos d] at h
      have := getD_inj hn (by omega) (by omega) h
      omega
    · rw [if_neg d] at h
      have := getD_inj hn (by omega) (by omega) h
      omega
/-- a row that was told to come round, does -/
theorem round_perm {p on : List Nat} (hn : p.Nodup) (h : ∀ i, i < p.length → on[prevOf p i]? = some (p.getD i 0)) : (p.map fun x => on.getD x 0).Perm p := by
  have e : (p.map fun x => on.getD x 0) = p.drop 1 ++ p.take 1 := by
    apply List.ext_getElem
    · simp; omega
    · intro j h1 h2
      simp only [List.length_map] at h1
      rw [List.getElem_map]
      by_cases c : j + 1 < p.length
      · have := h (j + 1) c
        unfold prevOf at this
        rw [if_neg (by omega), Nat.add_sub_cancel] at this
        simp only [List.getD, List.getElem?_eq_getElem h1, List.getElem?_eq_getElem c, Option.getD_some] at this
        rw [List.getElem_append_left (by simp; omega)]
        simp only [List.getD, this, Option.getD_some, List.getElem_drop]
        congr 1
        omega
      · have := h 0 (by omega)
        unfold prevOf at this
        rw [if_pos rfl] at this
        have e1 : p.length - 1 = j := by omega
        rw [e1] at this
        simp only [List.getD, List.getElem?_eq_getElem h1, Option.getD_some] at this
        rw [List.getElem?_eq_getElem (show 0 < p.length by omega), Option.getD_some] at this
        rw [List.getElem_append_right (by simp; omega)]
        simp only [List.getD, this, Option.getD_some, List.getElem_take]
        congr 1
        simp
        omega
  rw [e]
  have := List.perm_append_comm (l₁ := p.drop 1) (l₂ := p.take 1)
  rw [List.take_append_drop] at this
  exact this
theorem map_range_getD (on : List Nat) : (List.range on.length).map (fun x => on.getD x 0) = on := by
  apply List.ext_getElem
  · simp
  · intro i h1 h2
    simp [List.getD, List.getElem?_eq_getElem h2]
structure SkinP (n : Nat) (on : List Nat) (ms : List (Option Nat)) : Prop where
  perm : on.Perm (List.range n)
  len : ms.length = n
  mate : ∀ i j : Nat, ms[i]? = some (some j) → j < n ∧ j ≠ i ∧ ms[j]? = some (some i)
structure SkM (n : Nat) (ms : List (Option Nat)) (wt : List Nat) : Prop where
  len : ms.length = n
  nod : wt.Nodup
  lew : wt.length ≤ n
  lone : ∀ x, x ∈ wt → x < n ∧ ms[x]? = some none
  mate : ∀ i j : Nat, ms[i]? = some (some j) → j < n ∧ j ≠ i ∧ ms[j]? = some (some i)
theorem SkM.put {n : Nat} {ms : List (Option Nat)} {wt : List Nat} (h : SkM n ms wt) {a b : Nat} (ha : a ∉ wt) (hb : b ∉ wt) (hab : a ≠ b) (la : a < n) (lb : b < n) (na : ms[a]? = some none) (nb : ms[b]? = some none) : SkM n ((ms.set a (some b)).set b (some a)) wt where
  len := by simp [h.len]
  nod := h.nod
  lew := h.lew
  lone := fun x hx => by
    have := h.lone x hx
    refine ⟨this.1, ?_⟩
    have xb : b ≠ x := fun e => hb (by rw [e]; exact hx)
    have xa : a ≠ x := fun e => ha (by rw [e]; exact hx)
    rw [List.getElem?_set_ne xb, List.getElem?_set_ne xa]
    exact this.2
  mate := fun i j hij => by
    have l1 : a < ms.length := by rw [h.len]; exact la
    have l2 : b < (ms.set a (some b)).length := by simp [h.len, lb]
    by_cases c : i = b
    · subst c
      rw [List.getElem?_set_self l2] at hij
      cases hij
      refine ⟨la, hab, ?_⟩
      rw [List.getElem?_set_ne (Ne.symm hab), List.getElem?_set_self l1]
    · rw [List.getElem?_set_ne (Ne.symm c)] at hij
      by_cases d : i = a
      · subst d
        rw [List.getElem?_set_self l1] at hij
        cases hij
        exact ⟨lb, Ne.symm c, by rw [List.getElem?_set_self l2]⟩
      · rw [List.getElem?_set_ne (Ne.symm d)] at hij
        obtain ⟨x, y, z⟩ := h.mate i j hij
        have ja : j ≠ a := fun e => by rw [e, na] at z; cases z
        have jb : j ≠ b := fun e => by rw [e, nb] at z; cases z
        refine ⟨x, y, ?_⟩
        rw [List.getElem?_set_ne (Ne.symm jb), List.getElem?_set_ne (Ne.symm ja)]
        exact z
theorem SkM.drop {n : Nat} {ms : List (Option Nat)} {wt : List Nat} (h : SkM n ms wt) (k : Nat) : SkM n ms (wt.eraseIdx k) :=
  ⟨h.len, h.nod.sublist (List.eraseIdx_sublist _ _), Nat.le_trans (List.eraseIdx_sublist _ _).length_le h.lew, fun x hx => h.lone x ((List.eraseIdx_sublist _ _).subset hx), h.mate⟩
theorem erase_out {wt : List Nat} (h : wt.Nodup) {k : Nat} (hk : k < wt.length) : wt[k] ∉ wt.eraseIdx k := fun hx => by
  rw [List.mem_eraseIdx_iff_getElem] at hx
  obtain ⟨i, hi, hik, e⟩ := hx
  have pw := List.pairwise_iff_getElem.1 h
  rcases Nat.lt_or_gt_of_ne hik with c | c
  · exact pw i k hi hk c e
  · exact pw k i hk hi c e.symm
end LW
set_option Elab.async false
set_option linter.all false
set_option autoImplicit false
namespace NT
open PySem L2 DL LW
inductive N (α : Type) where
  | ok (a : α)
  | ex (x : Xc)
  | stuck
inductive Ct (σ l ρ : Type) where
  | nx (s : σ)
  | rt (r : ρ)
  | bk (s : l)
  | ct (s : l)
  | ex (x : Xc)
  | stuck
section
variable {α β σ τ l ρ : Type}
def N.bd (m : N α) (k : α → N β) : N β := match m with
  | .ok a => k a
  | .ex x => .ex x
  | .stuck => .stuck
def N.ct (m : N α) (k : α → Ct σ l ρ) : Ct σ l ρ := match m with
  | .ok a => k a
  | .ex x => .ex x
  | .stuck => .stuck
def Ct.sq (m : Ct σ l ρ) (k : σ → Ct τ l ρ) : Ct τ l ρ := match m with
  | .nx s => k s
  | .rt r => .rt r
  | .bk s => .bk s
  | .ct s => .ct s
  | .ex x => .ex x
  | .stuck => .stuck
/-- a def's answer: what it returns -/
def Ct.fn (m : Ct σ l ρ) : N ρ := match m with
  | .rt r => .ok r
  | .ex x => .ex x
  | _ => .stuck
/-- the answer of a def that returns nothing: what it leaves -/
def Ct.fp (m : Ct ρ l ρ) : N ρ := match m with
  | .nx r => .ok r
  | .rt r => .ok r
  | .ex x => .ex x
  | _ => .stuck
def ofO (o : Option α) : N α := match o with
  | some a => .ok a
  | none => .stuck
def gd (b : Bool) : N Unit := match b with
  | true => .ok ()
  | false => .stuck
def optC {γ : Type} (x : Option α) (a : γ) (b : α → γ) : γ := match x with
  | none => a
  | some y => b y
@[simp] theorem bd_ok (a : α) (k : α → N β) : (N.ok a).bd k = k a := rfl
@[simp] theorem bd_ex (x : Xc) (k : α → N β) : (N.ex x : N α).bd k = .ex x := rfl
@[simp] theorem bd_stuck (k : α → N β) : (N.stuck : N α).bd k = .stuck := rfl
@[simp] theorem ct_ok (a : α) (k : α → Ct σ l ρ) : (N.ok a).ct k = k a := rfl
@[simp] theorem ct_ex (x : Xc) (k : α → Ct σ l ρ) : (N.ex x : N α).ct k = .ex x := rfl
@[simp] theorem ct_stuck (k : α → Ct σ l ρ) : (N.stuck : N α).ct k = .stuck := rfl
@[simp] theorem sq_nx (s : σ) (k : σ → Ct τ l ρ) : (Ct.nx s : Ct σ l ρ).sq k = k s := rfl
@[simp] theorem sq_rt (s : ρ) (k : σ → Ct τ l ρ) : (Ct.rt s : Ct σ l ρ).sq k = .rt s := rfl
@[simp] theorem sq_bk (s : l) (k : σ → Ct τ l ρ) : (Ct.bk s : Ct σ l ρ).sq k = .bk s := rfl
@[simp] theorem sq_ct (s : l) (k : σ → Ct τ l ρ) : (Ct.ct s : Ct σ l ρ).sq k = .ct s := rfl
@[simp] theorem sq_ex (s : Xc) (k : σ → Ct τ l ρ) : (Ct.ex s : Ct σ l ρ).sq k = .ex s := rfl
@[simp] theorem sq_stuck (k : σ → Ct τ l ρ) : (Ct.stuck : Ct σ l ρ).sq k = .stuck := rfl
@[simp] theorem sq_Nct (m : N α) (k : α → Ct σ l ρ) (j : σ → Ct τ l ρ) : (m.ct k).sq j = m.ct fun a => (k a).sq j := by cases m <;> rfl
@[simp] theorem fn_rt (r : ρ) : (Ct.rt r : Ct σ l ρ).fn = .ok r := rfl
@[simp] theorem fn_ex (r : Xc) : (Ct.ex r : Ct σ l ρ).fn = .ex r := rfl
@[simp] theorem fn_stuck : (Ct.stuck : Ct σ l ρ).fn = .stuck := rfl
@[simp] theorem fn_Nct (m : N α) (k : α → Ct σ l ρ) : (m.ct k).fn = m.bd fun a => (k a).fn := by cases m <;> rfl
@[simp] theorem fp_rt (r : ρ) : (Ct.rt r : Ct ρ l ρ).fp = .ok r := rfl
@[simp] theorem fp_nx (r : ρ) : (Ct.nx r : Ct ρ l ρ).fp = .ok r := rfl
@[simp] theorem fp_ex (r : Xc) : (Ct.ex r : Ct ρ l ρ).fp = .ex r := rfl
@[simp] theorem fp_stuck : (Ct.stuck : Ct ρ l ρ).fp = .stuck := rfl
@[simp] theorem fp_Nct (m : N α) (k : α → Ct ρ l ρ) : (m.ct k).fp = m.bd fun a => (k a).fp := by cases m <;> rfl
@[simp] theorem ofO_some (a : α) : ofO (some a) = .ok a := rfl
@[simp] theorem ofO_none : ofO (none : Option α) = .stuck := rfl
@[simp] theorem gd_true : gd true = .ok () := rfl
@[simp] theorem gd_false : gd false = .stuck := rfl
@[simp] theorem optC_none {γ : Type} (a : γ) (b : α → γ) : optC none a b = a := rfl
@[simp] theorem optC_some {γ : Type} (x : α) (a : γ) (b : α → γ) : optC (some x) a b = b x := rfl
@[simp] theorem fn_ite (c : Prop) [Decidable c] (a b : Ct σ l ρ) : (if c then a else b).fn = if c then a.fn else b.fn := by split <;> rfl
@[simp] theorem fp_ite (c : Prop) [Decidable c] (a b : Ct ρ l ρ) : (if c then a else b).fp = if c then a.fp else b.fp := by split <;> rfl
@[simp] theorem sq_ite (c : Prop) [Decidable c] (a b : Ct σ l ρ) (k : σ → Ct τ l ρ) : (if c then a else b).sq k = if c then a.sq k else b.sq k := by split <;> rfl
@[simp] theorem fn_opt (x : Option α) (a : Ct σ l ρ) (b : α → Ct σ l ρ) : (optC x a b).fn = optC x a.fn fun y => (b y).fn := by cases x <;> rfl
@[simp] theorem sq_opt (x : Option α) (a : Ct σ l ρ) (b : α → Ct σ l ρ) (k : σ → Ct τ l ρ) : (optC x a b).sq k = optC x (a.sq k) fun y => (b y).sq k := by cases x <;> rfl
def Ct.again (r : Ct σ σ ρ) (k : σ → Ct σ l ρ) : Ct σ l ρ := match r with
  | .nx s => k s
  | .ct s => k s
  | .bk s => .nx s
  | .rt r => .rt r
  | .ex x => .ex x
  | .stuck => .stuck
def forC (body : α → σ → Ct σ σ ρ) : List α → σ → Ct σ l ρ
  | [], s => .nx s
  | a :: as, s => (body a s).again (forC body as)
def whileC (t : σ → N Bool) (body : σ → Ct σ σ ρ) : Nat → σ → Ct σ l ρ
  | 0, _ => .stuck
  | n + 1, s => (t s).ct fun b => if b = true then (body s).again (whileC t body n) else .nx s
@[simp] theorem again_nx (s : σ) (k : σ → Ct σ l ρ) : (Ct.nx s : Ct σ σ ρ).again k = k s := rfl
@[simp] theorem again_ct (s : σ) (k : σ → Ct σ l ρ) : (Ct.ct s : Ct σ σ ρ).again k = k s := rfl
@[simp] theorem again_bk (s : σ) (k : σ → Ct σ l ρ) : (Ct.bk s : Ct σ σ ρ).again k = .nx s := rfl
@[simp] theorem again_rt (s : ρ) (k : σ → Ct σ l ρ) : (Ct.rt s : Ct σ σ ρ).again k = .rt s := rfl
@[simp] theorem again_ex (s : Xc) (k : σ → Ct σ l ρ) : (Ct.ex s : Ct σ σ ρ).again k = .ex s := rfl
@[simp] theorem again_stuck (k : σ → Ct σ l ρ) : (Ct.stuck : Ct σ σ ρ).again k = .stuck := rfl
@[simp] theorem forC_nil (body : α → σ → Ct σ σ ρ) (s : σ) : (forC body [] s : Ct σ l ρ) = .nx s := rfl
@[simp] theorem forC_cons (body : α → σ → Ct σ σ ρ) (a : α) (as : List α) (s : σ) : (forC body (a :: as) s : Ct σ l ρ) = (body a s).again (forC body as) := rfl
/-- a loop that goes through -/
theorem forC_ok {body : α → σ → Ct σ σ ρ} (I : Nat → σ → Prop) : ∀ (as : List α) (n : Nat) (s : σ), I n s → (∀ i a s, as[i]? = some a → I (n + i) s → ∃ s', (body a s = .nx s' ∨ body a s = .ct s') ∧ I (n + i + 1) s') → ∃ s', (forC body as s : Ct σ l ρ) = .nx s' ∧ I (n + as.length) s'
  | [], n, s, h0, _ => ⟨s, rfl, h0⟩
  | a :: as, n, s, h0, h => by
    obtain ⟨s1, e, h1⟩ := h 0 a s rfl h0
    obtain ⟨s2, e2, h2⟩ := forC_ok I as (n + 1) s1 h1 fun i a s hi hp => by
      have := h (i + 1) a s (by simpa using hi) (by rw [show n + (i + 1) = n + 1 + i by omega]; exact hp)
      rw [show n + 1 + i + 1 = n + (i + 1) + 1 by omega]
      exact this
    refine ⟨s2, ?_, by rw [List.length_cons, show n + (as.length + 1) = n + 1 + as.length by omega]; exact h2⟩
    rw [forC_cons]
    rcases e with e | e <;> rw [e] <;> exact e2
theorem for_ok {body : α → σ → Ct σ σ ρ} (I : Nat → σ → Prop) (as : List α) (s : σ) (h0 : I 0 s) (h : ∀ i a s, as[i]? = some a → I i s → ∃ s', (body a s = .nx s' ∨ body a s = .ct s') ∧ I (i + 1) s') : ∃ s', (forC body as s : Ct σ l ρ) = .nx s' ∧ I as.length s' := by
  have := forC_ok (l := l) I as 0 s h0 (fun i a s hi hp => by rw [Nat.zero_add] at hp ⊢; exact h i a s hi hp)
  rwa [Nat.zero_add] at this
/-- a while loop: m tells how often it goes on at most -/
theorem while_ok {t : σ → N Bool} {body : σ → Ct σ σ ρ} (I : Nat → σ → Prop) (Z : σ → Prop) : ∀ (f m : Nat) (s : σ), m < f → I m s → (∀ m s, I m s → (t s = .ok false ∧ Z s) ∨ (t s = .ok true ∧ ∃ s' k, (body s = .nx s' ∨ body s = .ct s') ∧ k < m ∧ I k s')) → ∃ s', (whileC t body f s : Ct σ l ρ) = .nx s' ∧ Z s'
  | 0, m, s, hm, _, _ => by omega
  | f + 1, m, s, hm, h0, h => by
    rcases h m s h0 with ⟨e, z⟩ | ⟨e, s', k, e2, hk, hI⟩
    · exact ⟨s, by simp [whileC, e], z⟩
    · obtain ⟨s2, e3, z⟩ := while_ok I Z f k s' (by omega) hI h
      refine ⟨s2, ?_, z⟩
      rcases e2 with e2 | e2 <;> simp [whileC, e, e2, e3]
def compN (f : α → N (Option β)) : List α → N (List β)
  | [] => .ok []
  | a :: as => match f a with
    | .ok none => compN f as
    | .ok (some b) => match compN f as with
      | .ok bs => .ok (b :: bs)
      | _ => .stuck
    | _ => .stuck
@[simp] theorem compN_nil (f : α → N (Option β)) : compN f [] = .ok [] := rfl
end
abbrev eI : Int → D := PyData.int
abbrev eB : Bool → D := PyData.bool
abbrev eS : Str → D := PyData.str
abbrev eU (_ : Unit) : D := PyData.none
section
variable {α β γ δ : Type}
def eO (f : α → D) : Option α → D
  | none => .none
  | some a => f a
abbrev eLs (f : α → D) (xs : List α) : D := .list (xs.map f)
abbrev eTs (f : α → D) (xs : List α) : D := .tuple (xs.map f)
abbrev eP2 (f : α → D) (g : β → D) (p : α × β) : D := .tuple [f p.1, g p.2]
abbrev eP3 (f : α → D) (g : β → D) (h : γ → D) (p : α × β × γ) : D := .tuple [f p.1, g p.2.1, h p.2.2]
abbrev eKv (f : α → D) (g : β → D) (kvs : List (α × β)) : List (D × D) := kvs.map fun p => (f p.1, g p.2)
end
/-- equality of what is written is equality -/
class EqE {α : Type} (f : α → D) : Prop where
  eq : ∀ a b, PyData.eqv (f a) (f b) = true ↔ a = b
/-- what is written can be compared -/
class ShE {α : Type} (f : α → D) (k : outParam Nat) : Prop where
  sh : ∀ a, shD k (f a)
class NnE {α : Type} (f : α → D) : Prop where
  nn : ∀ a, f a ≠ .none
class FlE {α : Type} (f : α → D) : Prop where
  fl : ∀ a, flatD (f a) = true
instance : NnE eI := ⟨fun _ h => by cases h⟩
instance : NnE eB := ⟨fun _ h => by cases h⟩
instance : NnE eS := ⟨fun _ h => by cases h⟩
instance {α : Type} {f : α → D} : NnE (eLs f) := ⟨fun _ h => by cases h⟩
instance {α : Type} {f : α → D} : NnE (eTs f) := ⟨fun _ h => by cases h⟩
instance {α β : Type} {f : α → D} {g : β → D} : NnE (eP2 f g) := ⟨fun _ h => by cases h⟩
instance : FlE eI := ⟨fun _ => rfl⟩
instance : FlE eB := ⟨fun _ => rfl⟩
instance : FlE eS := ⟨fun _ => rfl⟩
instance {α : Type} {f : α → D} [h : FlE f] : FlE (eO f) := ⟨fun a => by cases a; rfl; exact h.fl _⟩
instance : EqE eI := ⟨fun a b => by simp [PyData.eqv, eI]⟩
instance : EqE eB := ⟨fun a b => by simp [PyData.eqv, eB]⟩
instance : EqE eU := ⟨fun a b => by simp [PyData.eqv, eU]⟩
instance : EqE eS := ⟨fun a b => by simp [PyData.eqv, eS]⟩
instance : ShE eI 0 := ⟨fun a => shD_int 0 a⟩
instance : ShE eB 0 := ⟨fun a => shD_bool 0 a⟩
instance : ShE eU 0 := ⟨fun a => shD_none 0⟩
theorem eqv_none {d : D} (h : d ≠ .none) : PyData.eqv .none d = false ∧ PyData.eqv d .none = false := by cases d <;> first | (exact absurd rfl h) | (simp [PyData.eqv])
instance {α : Type} {f : α → D} [h : EqE f] [n : NnE f] : EqE (eO f) := ⟨fun a b => by
  cases a <;> cases b
  · simp [eO, PyData.eqv]
  · simp [eO, (eqv_none (n.nn _)).1]
  · simp [eO, (eqv_none (n.nn _)).2]
  · simp [eO, h.eq]⟩
instance {α : Type} {f : α → D} {k : Nat} [h : ShE f k] : ShE (eO f) k := ⟨fun a => by
  cases a
  · exact shD_none k
  · exact h.sh _⟩
theorem eqvAll_map {α : Type} {f : α → D} [h : EqE f] : ∀ (xs ys : List α), PyData.eqvAll (xs.map f) (ys.map f) = true ↔ xs = ys
  | [], [] => by simp [PyData.eqvAll]
  | [], _ :: _ => by simp [PyData.eqvAll]
  | _ :: _, [] => by simp [PyData.eqvAll]
  | x :: xs, y :: ys => by simp [PyData.eqvAll, h.eq, eqvAll_map xs ys]
theorem shA_map {α : Type} {f : α → D} {k : Nat} [h : ShE f k] (xs : List α) : shA k (xs.map f) := fun x hx => by
  obtain ⟨a, _, rfl⟩ := List.mem_map.1 hx
  exact h.sh a
instance {α : Type} {f : α → D} [h : EqE f] : EqE (eLs f) := ⟨fun a b => by simp [PyData.eqv, eqvAll_map]⟩
instance {α : Type} {f : α → D} [h : EqE f] : EqE (eTs f) := ⟨fun a b => by simp [PyData.eqv, eqvAll_map]⟩
instance {α : Type} {f : α → D} {k : Nat} [h : ShE f k] : ShE (eLs f) (k + 1) := ⟨fun a => shD_lst (shA_map a)⟩
instance {α : Type} {f : α → D} {k : Nat} [h : ShE f k] : ShE (eTs f) (k + 1) := ⟨fun a => shD_tup (shA_map a)⟩
theorem shA_cons {k : Nat} {x : D} {xs : List D} (h : shD k x) (g : shA k xs) : shA k (x :: xs) := fun y hy => by
  rcases List.mem_cons.1 hy with rfl | hy
  · exact h
  · exact g y hy
theorem shA_nil {k : Nat} : shA k [] := fun _ h => absurd h List.not_mem_nil
instance {α β : Type} {f : α → D} {g : β → D} [h : EqE f] [i : EqE g] : EqE (eP2 f g) := ⟨fun a b => by
  obtain ⟨a1, a2⟩ := a
  obtain ⟨b1, b2⟩ := b
  simp [PyData.eqv, PyData.eqvAll, h.eq, i.eq]⟩
instance {α β : Type} {f : α → D} {g : β → D} {k m : Nat} [h : ShE f k] [i : ShE g m] : ShE (eP2 f g) (max k m + 1) := ⟨fun a => shD_tup (shA_cons (shD_up (by omega) (h.sh _)) (shA_cons (shD_up (by omega) (i.sh _)) shA_nil))⟩
instance {α β γ : Type} {f : α → D} {g : β → D} {e : γ → D} [h : EqE f] [i : EqE g] [j : EqE e] : EqE (eP3 f g e) := ⟨fun a b => by
  obtain ⟨a1, a2, a3⟩ := a
  obtain ⟨b1, b2, b3⟩ := b
  simp [PyData.eqv, PyData.eqvAll, h.eq, i.eq, j.eq]⟩
instance {α β γ : Type} {f : α → D} {g : β → D} {e : γ → D} {k m n : Nat} [h : ShE f k] [i : ShE g m] [j : ShE e n] : ShE (eP3 f g e) (max k (max m n) + 1) := ⟨fun a => shD_tup (shA_cons (shD_up (by omega) (h.sh _)) (shA_cons (shD_up (by omega) (i.sh _)) (shA_cons (shD_up (by omega) (j.sh _)) shA_nil)))⟩
theorem eq_typed {α : Type} [DecidableEq α] {f : α → D} {k : Nat} [h : EqE f] [s : ShE f k] (a b : α) (hk : k ≤ 64 := by decide) : dEq (f a) (f b) = some (.bool (decide (a = b))) := by
  rw [dEq_of hk (s.sh a) (s.sh b)]
  congr 2
  rw [Bool.eq_iff_iff, h.eq, decide_eq_true_eq]
theorem ne_typed {α : Type} [DecidableEq α] {f : α → D} {k : Nat} [h : EqE f] [s : ShE f k] (a b : α) (hk : k ≤ 64 := by decide) : dNe (f a) (f b) = some (.bool (!decide (a = b))) := by
  rw [dNe_of hk (s.sh a) (s.sh b)]
  congr 3
  rw [Bool.eq_iff_iff, h.eq, decide_eq_true_eq]
theorem any_typed {α : Type} [DecidableEq α] {f : α → D} [h : EqE f] (xs : List α) (a : α) : ((xs.map f).any fun z => PyData.eqv z (f a)) = decide (a ∈ xs) := by
  rw [Bool.eq_iff_iff, List.any_eq_true, decide_eq_true_eq]
  constructor
  · rintro ⟨d, hd, e⟩
    obtain ⟨b, hb, rfl⟩ := List.mem_map.1 hd
    rw [h.eq] at e
    exact e ▸ hb
  · exact fun hm => ⟨f a, List.mem_map.2 ⟨a, hm, rfl⟩, (h.eq a a).2 rfl⟩
theorem all_flat {α : Type} {f : α → D} [h : FlE f] (xs : List α) : (xs.map f).all flatD = true := by
  rw [List.all_map]
  exact List.all_eq_true.2 fun a _ => h.fl a
def memB {α : Type} [DecidableEq α] (a : α) (xs : List α) : Bool := decide (a ∈ xs)
@[simp] theorem memB_eq {α : Type} [DecidableEq α] (a : α) (xs : List α) : memB a xs = decide (a ∈ xs) := rfl
theorem in_lst {α : Type} [DecidableEq α] {f : α → D} [h : EqE f] [g : FlE f] (a : α) (xs : List α) : dIn (f a) (eLs f xs) = some (.bool (memB a xs)) := by
  show (if (flatD (f a) && (xs.map f).all flatD) = true then some (PyData.bool ((xs.map f).any fun z => PyData.eqv z (f a))) else none) = _
  rw [g.fl, all_flat, any_typed]
  rfl
theorem nin_tup {α : Type} [DecidableEq α] {f : α → D} [h : EqE f] [g : FlE f] (a : α) (xs : List α) : dNotIn (f a) (eTs f xs) = some (.bool (!memB a xs)) := by
  show (if (flatD (f a) && (xs.map f).all flatD) = true then some (PyData.bool (!(xs.map f).any fun z => PyData.eqv z (f a))) else none) = _
  rw [g.fl, all_flat, any_typed]
  rfl
theorem atI_map {α : Type} (f : α → D) (xs : List α) (i : Int) : atI (xs.map f) i = (atI xs i).map f := by
  unfold atI
  rw [List.length_map]
  cases ixN xs.length i <;> simp
end NT
set_option Elab.async false
set_option linter.all false
set_option autoImplicit false
namespace NT
open PySem L2 DL LW
/-- what is known of a slot: it is so; it may be stored to; it holds nothing of its own -/
inductive Sp where
  | is (s : Sl)
  | np
  | nw
def Sp.ok : Sp → Sl → Prop
  | .is s, t => t = s
  | .np, t => DL.np t = true
  | .nw, t => t.own = false
abbrev Sps := List Sp
structure Fits (c : Sps) (e : DEnv) : Prop where
  len : c.length = e.length
  at_ : ∀ (i : Nat) x t, c[i]? = some x → e[i]? = some t → x.ok t
theorem Fits.get {c : Sps} {e : DEnv} (h : Fits c e) {i : Nat} {x : Sp} (hc : c[i]? = some x) : ∃ t, e[i]? = some t ∧ x.ok t := by
  have l := (List.getElem?_eq_some_iff.mp hc).1
  have l2 : i < e.length := by rw [← h.len]; exact l
  exact ⟨e[i], List.getElem?_eq_getElem l2, h.at_ i x _ hc (List.getElem?_eq_getElem l2)⟩
theorem Fits.is {c : Sps} {e : DEnv} (h : Fits c e) {i : Nat} {s : Sl} (hc : c[i]? = some (.is s)) : e[i]? = some s := by
  obtain ⟨t, a, b⟩ := h.get hc
  rw [a]
  exact congrArg _ b
theorem Fits.set {c : Sps} {e : DEnv} (h : Fits c e) (i : Nat) {x : Sp} {t : Sl} (hx : x.ok t) : Fits (c.set i x) (e.set i t) := by
  refine ⟨by simp [h.len], fun j y u hy hu => ?_⟩
  by_cases q : i = j
  · subst q
    have l1 : i < c.length := by have := (List.getElem?_eq_some_iff.mp hy).1; simpa using this
    have l2 : i < e.length := by rw [← h.len]; exact l1
    rw [List.getElem?_set_self l1] at hy
    rw [List.getElem?_set_self l2] at hu
    cases hy; cases hu
    exact hx
  · rw [List.getElem?_set_ne q] at hy hu
    exact h.at_ j y u hy hu
/-- less is known -/
def Wk : Sp → Sp → Prop
  | x, .is s => x = .is s
  | .is s, .np => DL.np s = true
  | .is s, .nw => s.own = false
  | .np, .np => True
  | .nw, .np => True
  | .nw, .nw => True
  | .np, .nw => False
def Sub : Sps → Sps → Prop
  | [], [] => True
  | x :: c, y :: d => Wk x y ∧ Sub c d
  | _, _ => False
theorem Wk.ok {x y : Sp} {t : Sl} (h : Wk x y) (a : x.ok t) : y.ok t := by
  cases y with
  | is s => have : x = .is s := by cases x <;> exact h
            rw [this] at a; exact a
  | np =>
    cases x with
    | is s => exact (show t = s from a) ▸ h
    | np => exact a
    | nw =>
      cases t with
      | p xs => exact absurd a (by intro z; cases z)
      | _ => rfl
  | nw =>
    cases x with
    | is s => exact (show t = s from a) ▸ h
    | np => exact h.elim
    | nw => exact a
theorem Sub.len : ∀ {c d : Sps}, Sub c d → c.length = d.length
  | [], [], _ => rfl
  | _ :: _, _ :: _, h => by rw [List.length_cons, List.length_cons, Sub.len h.2]
  | [], _ :: _, h => h.elim
  | _ :: _, [], h => h.elim
theorem Sub.at_ : ∀ {c d : Sps}, Sub c d → ∀ (i : Nat) y, d[i]? = some y → ∃ x, c[i]? = some x ∧ Wk x y
  | [], [], _, i, y, h => by simp at h
  | x :: c, y :: d, h, 0, z, hz => by simp at hz; subst hz; exact ⟨x, rfl, h.1⟩
  | x :: c, y :: d, h, i + 1, z, hz => by simpa using Sub.at_ h.2 i z (by simpa using hz)
  | [], _ :: _, h, _, _, _ => h.elim
  | _ :: _, [], h, _, _, _ => h.elim
theorem Fits.sub {c d : Sps} {e : DEnv} (h : Fits c e) (s : Sub c d) : Fits d e :=
  ⟨by rw [← s.len]; exact h.len, fun i y t hy ht => by
    obtain ⟨x, hx, w⟩ := s.at_ i y hy
    exact w.ok (h.at_ i x t hx ht)⟩
structure Qs (σ l ρ : Type) where
  nx : σ → DEnv → Prop
  lp : l → DEnv → Prop
  rt : ρ → D → DEnv → Prop
  rl : ρ → List D → DEnv → Prop
  ex : DEnv → Prop
section
variable {α β σ τ l ρ : Type}
def R (m : Ct σ l ρ) (f : Fl) (Q : Qs σ l ρ) : Prop := match m with
  | .nx s => ∃ e, f = .nx e ∧ Q.nx s e
  | .rt r => (∃ d e, f = .rt d e ∧ Q.rt r d e) ∨ ∃ d e, f = .rl d e ∧ Q.rl r d e
  | .bk s => ∃ e, f = .bk e ∧ Q.lp s e
  | .ct s => ∃ e, f = .ct e ∧ Q.lp s e
  | .ex x => ∃ e, f = .ex x e ∧ Q.ex e
  | .stuck => True
def RS (c : Sps) (f : DEnv → Fl) (m : Ct σ l ρ) (Q : Qs σ l ρ) : Prop := ∀ e, Fits c e → R m (f e) Q
def FK {A : Type} (de : DEnv → Rs A) (k : A → DEnv → Fl) : DEnv → Fl := fun e => (de e).fl k
/-- a pure form -/
def EP {A : Type} (c : Sps) (de : DEnv → Rs A) (d : A) : Prop := ∀ e, Fits c e → de e = .ok d e
variable {c : Sps} {m : Ct σ l ρ} {Q : Qs σ l ρ}
theorem rk_pure {A : Type} {de : DEnv → Rs A} {k : A → DEnv → Fl} {d : A} (h : EP c de d) (g : RS c (k d) m Q) : RS c (FK de k) m Q := fun e he => by
  show R m ((de e).fl k) Q
  rw [h e he]
  exact g e he
theorem rk_put {A : Type} {o : Option A} {z : A} {k : A → DEnv → Fl} (h : o = some z) (g : RS c (k z) m Q) : RS c (FK (put o) k) m Q := fun e he => by
  show R m ((put o e).fl k) Q
  rw [h]
  exact g e he
/-- a partial operation -/
theorem rk_opt {A : Type} {o : Option A} {n : N α} {f : α → A} {k : A → DEnv → Fl} {M : α → Ct σ l ρ} (h : ∀ a, n = .ok a → o = some (f a)) (hx : ∀ x, n ≠ .ex x) (g : ∀ a, RS c (k (f a)) (M a) Q) : RS c (FK (put o) k) (n.ct M) Q := fun e he => by
  show R (n.ct M) ((put o e).fl k) Q
  cases q : n with
  | ok a => rw [h a q]; exact g a e he
  | ex x => exact absurd q (hx x)
  | stuck => exact trivial
theorem fl_bind {A B : Type} (r : Rs A) (f : A → DEnv → Rs B) (k : B → DEnv → Fl) : (r.bind f).fl k = r.fl fun a e => (f a e).fl k := by cases r <;> rfl
theorem rk_bin {da db : DE} {f : D → D → Option D} {k : D → DEnv → Fl} (g : RS c (FK da fun x => FK db fun y => FK (put (f x y)) k) m Q) : RS c (FK (eBin f da db) k) m Q := fun e he => by
  have := g e he
  unfold FK at this ⊢
  unfold eBin
  simp only [fl_bind] at this ⊢
  exact this
theorem rk_cb {da : DA} {f : List D → Option D} {k : D → DEnv → Fl} (g : RS c (FK da fun x => FK (put (f x)) k) m Q) : RS c (FK (eCB f da) k) m Q := fun e he => by
  have := g e he
  unfold FK at this ⊢
  unfold eCB
  simp only [fl_bind] at this ⊢
  exact this
theorem rk_anil {k : List D → DEnv → Fl} (g : RS c (k []) m Q) : RS c (FK aNil k) m Q := g
theorem rk_acons {de : DE} {da : DA} {k : List D → DEnv → Fl} (g : RS c (FK de fun x => FK da fun xs => k (x :: xs)) m Q) : RS c (FK (aCons de da) k) m Q := fun e he => by
  have := g e he
  unfold FK at this ⊢
  unfold aCons
  simp only [fl_bind] at this ⊢
  exact this
theorem rk_conv {f f' : DEnv → Fl} (h : ∀ e, f e = f' e) (g : RS c f' m Q) : RS c f m Q := fun e he => by rw [h e]; exact g e he
theorem rk_tup {da : DA} {k : D → DEnv → Fl} (g : RS c (FK da fun xs => FK (put (if xs.length ≤ 100000 then some (PyData.tuple xs) else none)) k) m Q) : RS c (FK (eTup da) k) m Q := rk_conv (fun e => by
  unfold FK eTup
  cases da e with
  | ok xs e1 =>
    show (if xs.length ≤ 100000 then Rs.ok (PyData.tuple xs) e1 else .stuck).fl k = (put (if xs.length ≤ 100000 then some (PyData.tuple xs) else none) e1).fl k
    split <;> rfl
  | ex _ _ => rfl
  | stuck => rfl) g
theorem rk_lst {da : DA} {k : List D → DEnv → Fl} (g : RS c (FK da fun xs => FK (put (if xs.length ≤ 100000 then some xs else none)) k) m Q) : RS c (FK (lLst da) k) m Q := rk_conv (fun e => by
  unfold FK lLst
  cases da e with
  | ok xs e1 =>
    show (if xs.length ≤ 100000 then Rs.ok xs e1 else .stuck).fl k = (put (if xs.length ≤ 100000 then some xs else none) e1).fl k
    split <;> rfl
  | ex _ _ => rfl
  | stuck => rfl) g
theorem rk_elst {da : DA} {k : D → DEnv → Fl} (g : RS c (FK da fun xs => k (.list xs)) m Q) : RS c (FK (eLst da) k) m Q := fun e he => by
  have := g e he
  unfold FK at this ⊢
  unfold eLst
  simp only [fl_bind] at this ⊢
  exact this
end
end NT
set_option Elab.async false
set_option linter.all false
set_option autoImplicit false
namespace NT
open PySem L2 DL LW
section
variable {c : Sps} {A B : Type}
theorem ep_var {i : Nat} {d : D} (h : c[i]? = some (.is (.v d)) := by rfl) : EP c (eVar i) d := fun e he => by
  unfold eVar
  rw [he.is h]
theorem ep_C {d : D} : EP c (eC d) d := fun _ _ => rfl
theorem ep_bin {da db : DE} {f : D → D → Option D} {x y z : D} (ha : EP c da x) (hb : EP c db y) (hf : f x y = some z := by rfl) : EP c (eBin f da db) z := fun e he => by
  unfold eBin
  rw [ha e he, bind_ok, hb e he, bind_ok, hf]
  rfl
theorem ep_cb {da : DA} {f : List D → Option D} {x : List D} {z : D} (ha : EP c da x) (hf : f x = some z := by rfl) : EP c (eCB f da) z := fun e he => by
  unfold eCB
  rw [ha e he, bind_ok, hf]
  rfl
theorem ep_anil : EP c aNil [] := fun _ _ => rfl
theorem ep_acons {de : DE} {da : DA} {x : D} {xs : List D} (ha : EP c de x) (hb : EP c da xs) : EP c (aCons de da) (x :: xs) := fun e he => by
  unfold aCons
  rw [ha e he, bind_ok, hb e he]
  rfl
theorem ep_tup {da : DA} {xs : List D} (ha : EP c da xs) (h : Nat.ble xs.length 100000 = true := by rfl) : EP c (eTup da) (.tuple xs) := fun e he => by
  unfold eTup
  rw [ha e he, bind_ok, if_pos (Nat.le_of_ble_eq_true h)]
theorem ep_lst {da : DA} {xs : List D} (ha : EP c da xs) (h : Nat.ble xs.length 100000 = true := by rfl) : EP c (lLst da) xs := fun e he => by
  unfold lLst
  rw [ha e he, bind_ok, if_pos (Nat.le_of_ble_eq_true h)]
theorem ep_elst {da : DA} {xs : List D} (ha : EP c da xs) : EP c (eLst da) (.list xs) := fun e he => by
  unfold eLst
  rw [ha e he, bind_ok]
theorem ep_tst {de : DE} {b : Bool} (ha : EP c de (.bool b)) : EP c (tTst de) b := fun e he => by
  unfold tTst
  rw [ha e he, bind_ok]
theorem ep_notT {t : DT} {b : Bool} (ha : EP c t b) : EP c (tNotD t) (!b) := fun e he => by
  unfold tNotD
  rw [ha e he, bind_ok]
theorem ep_andT {t u : DT} {a b : Bool} (ha : EP c t a) (hb : EP c u b) : EP c (tAndD t u) (a && b) := fun e he => by
  unfold tAndD
  rw [ha e he, bind_ok]
  cases a
  · rfl
  · exact hb e he
theorem ep_orT {t u : DT} {a b : Bool} (ha : EP c t a) (hb : EP c u b) : EP c (tOrD t u) (a || b) := fun e he => by
  unfold tOrD
  rw [ha e he, bind_ok]
  cases a
  · exact hb e he
  · rfl
def slotD (c : Sps) (i : Nat) : Option D := match c[i]? with
  | some (.is (.v d)) => some d
  | some (.is (.l xs)) => some (.list xs)
  | some (.is (.p xs)) => some (.list xs)
  | _ => none
def slotL (c : Sps) (i : Nat) : Option (List D) := match c[i]? with
  | some (.is (.l xs)) => some xs
  | some (.is (.p xs)) => some xs
  | some (.is (.v (.list xs))) => some xs
  | _ => none
theorem slotD_at {i : Nat} {d : D} (h : slotD c i = some d) {e : DEnv} (he : Fits c e) : known i e = true ∧ ∀ k, ixAt i k e = put (dIx d k) e := by
  unfold slotD at h
  split at h <;> cases h
  all_goals
    rename_i q
    have := he.is q
    exact ⟨by unfold known; rw [this], fun k => by unfold ixAt; rw [this]⟩
theorem slotL_at {i : Nat} {xs : List D} (h : slotL c i = some xs) {e : DEnv} (he : Fits c e) : seeL i e = some xs := by
  unfold slotL at h
  split at h <;> cases h
  all_goals
    rename_i q
    have := he.is q
    unfold seeL
    rw [this]
theorem ep_ixN {i : Nat} {db : DE} {d k z : D} (hb : EP c db k) (hf : dIx d k = some z := by rfl) (h : slotD c i = some d := by rfl) : EP c (eIxN i db) z := fun e he => by
  obtain ⟨a, b⟩ := slotD_at h he
  unfold eIxN
  rw [a, if_pos rfl, hb e he, bind_ok, b, hf]
  rfl
theorem ep_lenO {α : Type} {f : α → D} {xs : List α} {i : Nat} (h : slotL c i = some (xs.map f) := by rfl) : EP c (eLenO i) (eI xs.length) := fun e he => by
  unfold eLenO
  rw [slotL_at h he]
  simp
theorem ep_tupO {xs : List D} {i : Nat} (h : slotL c i = some xs := by rfl) : EP c (eTupO i) (.tuple xs) := fun e he => by
  unfold eTupO
  rw [slotL_at h he]
theorem ep_chain {f g : D → D → Option D} {da db dc : DE} {x y z : D} {a b : Bool} (ha : EP c da x) (hb : EP c db y) (hc : EP c dc z) (h1 : f x y = some (.bool a) := by rfl) (h2 : g y z = some (.bool b) := by rfl) : EP c (eChain f g da db dc) (.bool (a && b)) := fun e he => by
  unfold eChain
  rw [ha e he, bind_ok, hb e he, bind_ok, h1]
  cases a
  · rfl
  · show (dc e).bind _ = _
    rw [hc e he, bind_ok, h2]
    rfl
def EPp (c : Sps) (p : Pt) (o : Option Int) : Prop := ∀ e, Fits c e → p.run e = .ok o e
theorem ep_ptN : EPp c .no none := fun _ _ => rfl
theorem ep_ptS {de : DE} {i : Int} (h : EP c de (.int i)) : EPp c (.of de) (some i) := fun e he => by
  unfold Pt.run
  simp only [h e he]
  rfl
theorem ep_sl {de : DE} {p q : Pt} {d z : D} {lo hi : Option Int} (ha : EP c de d) (hp : EPp c p lo) (hq : EPp c q hi) (h : dSl d lo hi = some z := by rfl) : EP c (eSl de p q) z := fun e he => by
  unfold eSl
  rw [ha e he, bind_ok, hp e he, bind_ok, hq e he, bind_ok, h]
  rfl
end
section
variable {κ β : Type} [DecidableEq κ]
/-- keys of a kind -/
class KeyE (f : κ → D) where
  key : κ → Key
  keyOf : ∀ k, DL.keyOf (f k) = some (key k)
  kEq : ∀ a k, DL.kEq (f a) (key k) = decide (a = k)
  kD : ∀ k, DL.kD (key k) = f k
end
instance : KeyE eI where
  key := .inl
  keyOf := fun _ => rfl
  kEq := fun a k => by simp [DL.kEq, Bool.beq_eq_decide_eq]
  kD := fun _ => rfl
instance : KeyE eS where
  key := .inr
  keyOf := fun _ => rfl
  kEq := fun a k => by simp [DL.kEq, Bool.beq_eq_decide_eq]
  kD := fun _ => rfl
section
variable {α β σ τ l ρ : Type} {c : Sps} {m : Ct σ l ρ} {Q : Qs σ l ρ}
def boolOf : D → Option Bool
  | .bool b => some b
  | _ => none
theorem rk_tst {de : DE} {k : Bool → DEnv → Fl} (g : RS c (FK de fun d => FK (put (boolOf d)) k) m Q) : RS c (FK (tTst de) k) m Q := rk_conv (fun e => by
  unfold FK tTst
  cases de e with
  | ok d e1 => cases d <;> rfl
  | ex _ _ => rfl
  | stuck => rfl) g
def ifF (b : Bool) (f g : DEnv → Fl) : DEnv → Fl := match b with
  | true => f
  | false => g
theorem rk_ifF {b : Bool} {f g : DEnv → Fl} {m1 m2 : Ct σ l ρ} (h1 : RS c f m1 Q) (h2 : RS c g m2 Q) : RS c (ifF b f g) (if b = true then m1 else m2) Q := by
  cases b
  · exact h2
  · exact h1
theorem rk_orT {t u : DT} {k : Bool → DEnv → Fl} (g : RS c (FK t fun b => ifF b (k true) (FK u k)) m Q) : RS c (FK (tOrD t u) k) m Q := rk_conv (fun e => by
  unfold FK tOrD
  cases t e with
  | ok b e1 => cases b <;> rfl
  | ex _ _ => rfl
  | stuck => rfl) g
theorem rk_isi {T : String} {de : DE} {k : D → DEnv → Fl} (g : RS c (FK de fun d => FK (put (isiD T d)) k) m Q) : RS c (FK (eIsi T de) k) m Q := rk_conv (fun e => by
  unfold FK eIsi
  cases de e <;> rfl) g
def knownC (c : Sps) (i : Nat) : Bool := match c[i]? with
  | some (.is .no) => false
  | some (.is _) => true
  | _ => false
theorem knownC_at {i : Nat} (h : knownC c i = true) {e : DEnv} (he : Fits c e) : known i e = true := by
  unfold knownC at h
  split at h <;> first | cases h | skip
  rename_i s hn q
  have := he.is q
  unfold known
  rw [this]
  cases s <;> first | rfl | (exact (hn q).elim) | (exact (hn rfl).elim)
theorem rk_ixN {i : Nat} {db : DE} {k : D → DEnv → Fl} (g : RS c (FK db fun kk => FK (ixAt i kk) k) m Q) (h : knownC c i = true := by rfl) : RS c (FK (eIxN i db) k) m Q := fun e he => by
  have := g e he
  unfold FK at this ⊢
  unfold eIxN
  rw [knownC_at h he, if_pos rfl, fl_bind]
  exact this
theorem rk_ixAt {i : Nat} {kk d : D} {k : D → DEnv → Fl} (g : RS c (FK (put (dIx d kk)) k) m Q) (h : slotD c i = some d := by rfl) : RS c (FK (ixAt i kk) k) m Q := fun e he => by
  have := g e he
  unfold FK at this ⊢
  rw [(slotD_at h he).2]
  exact this
def idx (xs : List α) (i : Int) : N α := ofO (atI xs i)
theorem ofO_ex {o : Option α} (x : Xc) : ofO o ≠ .ex x := by cases o <;> exact fun h => by cases h
theorem ofO_ok {o : Option α} {a : α} (h : ofO o = .ok a) : o = some a := by cases o <;> cases h; rfl
theorem rk_ixT {f : α → D} {xs : List α} {i : Int} {k : D → DEnv → Fl} {M : α → Ct σ l ρ} (g : ∀ a, RS c (k (f a)) (M a) Q) : RS c (FK (put (dIx (eTs f xs) (.int i))) k) ((idx xs i).ct M) Q :=
  rk_opt (f := f) (fun a h => by show atI (xs.map f) i = _; rw [atI_map, ofO_ok h]; rfl) (fun x => ofO_ex x) g
theorem rk_ixL {f : α → D} {xs : List α} {i : Int} {k : D → DEnv → Fl} {M : α → Ct σ l ρ} (g : ∀ a, RS c (k (f a)) (M a) Q) : RS c (FK (put (dIx (eLs f xs) (.int i))) k) ((idx xs i).ct M) Q :=
  rk_opt (f := f) (fun a h => by show atI (xs.map f) i = _; rw [atI_map, ofO_ok h]; rfl) (fun x => ofO_ex x) g
def unw (x : Option α) : N α := ofO x
noncomputable def mulN (i j : Int) : N Int := @ite _ (mulOk i j = true) (Classical.propDecidable _) (.ok (i * j)) .stuck
noncomputable def divN (i j : Int) : N Int := @ite _ (divOk j = true) (Classical.propDecidable _) (.ok (i / j)) .stuck
noncomputable def modN (i j : Int) : N Int := if 0 < j then .ok (i % j) else .stuck
noncomputable def powN (i j : Int) : N Int := @ite _ (powOk i j = true) (Classical.propDecidable _) (.ok (i ^ j.toNat)) .stuck
theorem rk_op2 {op : D → D → Option D} {p : Prop} {d1 d2 : Decidable p} {i j r : Int} {k : D → DEnv → Fl} {M : Int → Ct σ l ρ} (ho : op (.int i) (.int j) = @ite _ p d1 (some (.int r)) none) (g : ∀ z, RS c (k (eI z)) (M z) Q) : RS c (FK (put (op (.int i) (.int j))) k) ((@ite _ p d2 (NT.N.ok r) .stuck).ct M) Q := by
  rw [ho]
  by_cases h : p
  · rw [if_pos h, if_pos h]; exact g r
  · rw [if_neg h, if_neg h]; exact fun _ _ => trivial
theorem rk_mul {i j : Int} {k : D → DEnv → Fl} {M : Int → Ct σ l ρ} (g : ∀ z, RS c (k (eI z)) (M z) Q) : RS c (FK (put (dMul (eI i) (eI j))) k) ((mulN i j).ct M) Q := rk_op2 rfl g
theorem rk_div {i j : Int} {k : D → DEnv → Fl} {M : Int → Ct σ l ρ} (g : ∀ z, RS c (k (eI z)) (M z) Q) : RS c (FK (put (dFdiv (eI i) (eI j))) k) ((divN i j).ct M) Q := rk_op2 rfl g
theorem rk_mod {i j : Int} {k : D → DEnv → Fl} {M : Int → Ct σ l ρ} (g : ∀ z, RS c (k (eI z)) (M z) Q) : RS c (FK (put (dMod (eI i) (eI j))) k) ((modN i j).ct M) Q := rk_op2 rfl g
theorem rk_pow {i j : Int} {k : D → DEnv → Fl} {M : Int → Ct σ l ρ} (g : ∀ z, RS c (k (eI z)) (M z) Q) : RS c (FK (put (dPow (eI i) (eI j))) k) ((powN i j).ct M) Q := rk_op2 rfl g
/-- one of these: data compared -/
def eqN (x y : D) : N Bool := if SeqAt.shaped x = true ∧ SeqAt.shaped y = true then .ok (PyData.eqv x y) else .stuck
theorem rk_eqD {x y : D} {k : D → DEnv → Fl} {M : Bool → Ct σ l ρ} (g : ∀ b, RS c (k (eB b)) (M b) Q) : RS c (FK (put (dEq x y)) k) ((eqN x y).ct M) Q := by
  unfold dEq eqN
  by_cases h : SeqAt.shaped x = true ∧ SeqAt.shaped y = true
  · rw [if_pos h, if_pos h]; exact g _
  · rw [if_neg h, if_neg h]; exact fun _ _ => trivial
theorem rk_neD {x y : D} {k : D → DEnv → Fl} {M : Bool → Ct σ l ρ} (g : ∀ b, RS c (k (eB (!b))) (M b) Q) : RS c (FK (put (dNe x y)) k) ((eqN x y).ct M) Q := by
  unfold dNe eqN
  by_cases h : SeqAt.shaped x = true ∧ SeqAt.shaped y = true
  · rw [if_pos h, if_pos h]; exact g _
  · rw [if_neg h, if_neg h]; exact fun _ _ => trivial
def rgI (lo hi : Int) : List Int := (List.range (hi - lo).toNat).map fun k => lo + (k : Nat)
theorem rgI_D (lo hi : Int) : rngD lo hi = (rgI lo hi).map eI := by
  unfold rngD rgI
  rw [List.map_map]
  rfl
noncomputable def rngN (j : Int) : N (List Int) := if I62 j then .ok (rgI 0 j) else .stuck
noncomputable def rngL (j : Int) : N (List Int) := if IRg j then .ok (rgI 0 j) else .stuck
theorem rk_rng {da : DA} {j : Int} {k : List D → DEnv → Fl} {M : List Int → Ct σ l ρ} (ha : EP c da [eI j]) (g : ∀ xs : List Int, RS c (k (xs.map eI)) (M xs) Q) : RS c (FK (iRng1 da) k) ((rngN j).ct M) Q := fun e he => by
  unfold FK DL.iRng1 rngN
  rw [ha e he, bind_ok]
  simp only [int1]
  by_cases h : I62 j
  · rw [if_pos h, if_pos h, rgI_D]; exact g _ e he
  · rw [if_neg h, if_neg h]; exact trivial
theorem rk_lrng {de : DE} {j : Int} {k : List D → DEnv → Fl} {M : List Int → Ct σ l ρ} (ha : EP c de (eI j)) (g : ∀ xs : List Int, RS c (k (xs.map eI)) (M xs) Q) : RS c (FK (lRange1 de) k) ((rngL j).ct M) Q := fun e he => by
  unfold FK lRange1 rngL
  rw [ha e he, bind_ok]
  simp only
  by_cases h : IRg j
  · rw [if_pos h, if_pos h, rgI_D]; exact g _ e he
  · rw [if_neg h, if_neg h]; exact trivial
/-- [x] * n -/
noncomputable def repN (a : α) (n : Int) : N (List α) := if I63 n ∧ n.toNat ≤ 100000 then .ok (List.replicate n.toNat a) else .stuck
theorem rep_1 (x : D) (n : Int) : repD [x] n = List.replicate n.toNat x := by
  unfold repD
  induction n.toNat with
  | zero => rfl
  | succ n ih => rw [List.replicate_succ, List.flatten_cons, ih]; rfl
theorem rk_rep {f : α → D} {dl : DA} {dk : DE} {a : α} {n : Int} {k : List D → DEnv → Fl} {M : List α → Ct σ l ρ} (hl : EP c dl [f a]) (hk : EP c dk (eI n)) (g : ∀ xs : List α, RS c (k (xs.map f)) (M xs) Q) : RS c (FK (lRep dl dk) k) ((repN a n).ct M) Q := fun e he => by
  unfold FK lRep repN
  rw [hl e he, bind_ok, hk e he, bind_ok]
  simp only [List.length_singleton, Nat.one_mul]
  by_cases h : I63 n ∧ n.toNat ≤ 100000
  · rw [if_pos h, if_pos h, rep_1, ← List.map_replicate]; exact g _ e he
  · rw [if_neg h, if_neg h]; exact trivial
end
end NT
set_option Elab.async false
set_option linter.all false
set_option autoImplicit false
namespace NT
open PySem L2 DL LW
section
variable {α β σ τ l ρ : Type} {c : Sps} {m : Ct σ l ρ} {Q : Qs σ l ρ}
def getC (c : Sps) (i : Nat) : Option (List D) := match c[i]? with
  | some (.is (.l xs)) => some xs
  | some (.is (.p xs)) => some xs
  | _ => none
def reC (c : Sps) (i : Nat) (ys : List D) : Sps := match c[i]? with
  | some (.is (.l _)) => c.set i (.is (.l ys))
  | some (.is (.p _)) => c.set i (.is (.p ys))
  | _ => c
theorem getC_at {i : Nat} {xs : List D} (h : getC c i = some xs) {e : DEnv} (he : Fits c e) : getL i e = some xs ∧ ∀ ys, Fits (reC c i ys) (putL i ys e) := by
  unfold getC at h
  split at h <;> cases h
  all_goals
    rename_i q
    have := he.is q
    refine ⟨by unfold getL; rw [this], fun ys => ?_⟩
    unfold reC putL
    rw [this, q]
    exact he.set i rfl
def moK (i : Nat) (f : List D → List D → Option (D × List D)) (args : List D) (k : D → DEnv → Fl) : DEnv → Fl := fun e => match getL i e with
  | some xs => match f xs args with
    | some (z, ys) => k z (putL i ys e)
    | none => .stuck
  | none => .stuck
theorem rk_mo {i : Nat} {f : List D → List D → Option (D × List D)} {da : DA} {k : D → DEnv → Fl} {xs : List D} (g : RS c (FK da fun args => moK i f args k) m Q) (h : getC c i = some xs := by rfl) : RS c (FK (eMO i f da) k) m Q := fun e he => by
  have := g e he
  unfold FK at this ⊢
  unfold eMO
  rw [(getC_at h he).1, if_pos (by rfl)]
  have e2 : ∀ args e1, (match getL i e1 with
      | some xs => match f xs args with
        | some (z, ys) => Rs.ok z (putL i ys e1)
        | none => .stuck
      | none => .stuck).fl k = moK i f args k e1 := fun args e1 => by
    unfold moK
    cases getL i e1 with
    | none => rfl
    | some xs =>
      dsimp only
      cases f xs args <;> rfl
  have e3 := funext fun a => funext (e2 a)
  rw [fl_bind]
  rw [← e3] at this
  exact this
theorem rk_moX {i : Nat} {f : List D → List D → Option (D × List D)} {args : List D} {k : D → DEnv → Fl} {fe : α → D} {xs : List α} {n : N β} {v : β → D} {ys : β → List α} {M : β → Ct σ l ρ} (hf : ∀ a, n = .ok a → f (xs.map fe) args = some (v a, (ys a).map fe)) (hx : ∀ x, n ≠ .ex x) (g : ∀ a, RS (reC c i ((ys a).map fe)) (k (v a)) (M a) Q) (h : getC c i = some (xs.map fe) := by rfl) : RS c (moK i f args k) (n.ct M) Q := fun e he => by
  unfold moK
  obtain ⟨h1, h2⟩ := getC_at h he
  rw [h1]
  cases q : n with
  | ok a => simp only [hf a q]; exact g a _ (h2 _)
  | ex x => exact absurd q (hx x)
  | stuck => exact trivial
def appN (xs : List α) (a : α) : N (List α) := if xs.length < 100000 then .ok (xs ++ [a]) else .stuck
def popN (xs : List α) : N (α × List α) := match xs[xs.length - 1]? with
  | some y => .ok (y, xs.dropLast)
  | none => .stuck
noncomputable def popAtN (xs : List α) (i : Int) : N (α × List α) := if I63 i then match seqIndex? i xs.length with
    | some k => match xs[k]? with
      | some y => .ok (y, xs.eraseIdx k)
      | none => .stuck
    | none => .stuck
  else .stuck
noncomputable def insN (xs : List α) (i : Int) (a : α) : N (List α) := if xs.length < 100000 ∧ 0 ≤ i ∧ I63 i then .ok (xs.take i.toNat ++ [a] ++ xs.drop i.toNat) else .stuck
theorem rk_app {fe : α → D} {xs : List α} {a : α} {i : Nat} {k : D → DEnv → Fl} {M : List α → Ct σ l ρ} (g : ∀ ys, RS (reC c i (ys.map fe)) (k .none) (M ys) Q) (h : getC c i = some (xs.map fe) := by rfl) : RS c (moK i mAppend [fe a] k) ((appN xs a).ct M) Q :=
  rk_moX (v := fun _ => .none) (ys := id) (fun ys hy => by
    unfold appN at hy
    split at hy <;> cases hy
    rename_i q
    show (if (xs.map fe).length < 100000 then some (PyData.none, xs.map fe ++ [fe a]) else none) = _
    rw [List.length_map, if_pos q]
    simp) (fun x => by unfold appN; split <;> exact fun h => by cases h) g h
theorem map_eraseIdx (f : α → β) : ∀ (xs : List α) (k : Nat), (xs.map f).eraseIdx k = (xs.eraseIdx k).map f
  | [], k => rfl
  | x :: xs, 0 => rfl
  | x :: xs, k + 1 => by simp [map_eraseIdx f xs k]
theorem rk_popAt {fe : α → D} {xs : List α} {i : Nat} {j : Int} {k : D → DEnv → Fl} {M : α × List α → Ct σ l ρ} (g : ∀ p : α × List α, RS (reC c i (p.2.map fe)) (k (fe p.1)) (M p) Q) (h : getC c i = some (xs.map fe) := by rfl) : RS c (moK i mPopAt [eI j] k) ((popAtN xs j).ct M) Q :=
  rk_moX (v := fun p => fe p.1) (ys := fun p => p.2) (fun p hp => by
    unfold popAtN at hp
    by_cases q : I63 j
    case neg => rw [if_neg q] at hp; cases hp
    rw [if_pos q] at hp
    cases q2 : seqIndex? j xs.length with
    | none => rw [q2] at hp; cases hp
    | some n =>
    rw [q2] at hp
    simp only at hp
    cases q3 : xs[n]? with
    | none => rw [q3] at hp; cases hp
    | some y =>
    rw [q3] at hp
    cases hp
    show (if I63 j then (match seqIndex? j (xs.map fe).length with
      | some k => match (xs.map fe)[k]? with
        | some y => some (y, (xs.map fe).eraseIdx k)
        | none => none
      | none => none) else none) = _
    rw [if_pos q, List.length_map, q2]
    simp only [List.getElem?_map, q3, Option.map_some]
    rw [map_eraseIdx]) (fun x => by
    unfold popAtN
    by_cases q : I63 j
    case neg => rw [if_neg q]; exact fun h => by cases h
    rw [if_pos q]
    cases seqIndex? j xs.length with
    | none => exact fun h => by cases h
    | some n => simp only; cases xs[n]? <;> exact fun h => by cases h) g h
theorem rk_ins {fe : α → D} {xs : List α} {a : α} {i : Nat} {j : Int} {k : D → DEnv → Fl} {M : List α → Ct σ l ρ} (g : ∀ ys, RS (reC c i (ys.map fe)) (k .none) (M ys) Q) (h : getC c i = some (xs.map fe) := by rfl) : RS c (moK i mInsert [eI j, fe a] k) ((insN xs j a).ct M) Q :=
  rk_moX (v := fun _ => .none) (ys := id) (fun ys hy => by
    unfold insN at hy
    split at hy <;> cases hy
    rename_i q
    show (if (xs.map fe).length < 100000 ∧ 0 ≤ j ∧ I63 j then some (PyData.none, (xs.map fe).take j.toNat ++ [fe a] ++ (xs.map fe).drop j.toNat) else none) = _
    rw [List.length_map, if_pos q]
    simp [List.map_take, List.map_drop]) (fun x => by unfold insN; split <;> exact fun h => by cases h) g h
def stb (c : Sps) (i : Nat) : Bool := match c[i]? with
  | some (.is s) => DL.np s
  | some _ => true
  | none => false
theorem stb_at {i : Nat} (h : stb c i = true) {e : DEnv} (he : Fits c e) (s : Sl) : setV i s e = some (e.set i s) := by
  have go : ∀ t, e[i]? = some t → DL.np t = true → setV i s e = some (e.set i s) := fun t h1 h2 => by
    unfold setV
    rw [h1]
    cases t <;> first | rfl | cases h2
  unfold stb at h
  split at h
  · rename_i q; exact go _ (he.is q) h
  · rename_i x hx q
    obtain ⟨t, a, b⟩ := he.get q
    refine go t a ?_
    cases x with
    | is s => exact absurd rfl (hx s)
    | np => exact b
    | nw => cases t with
      | p xs => exact absurd b (by intro z; cases z)
      | _ => rfl
  · cases h
/-- a target -/
def GS (c : Sps) (g : DG) (d : D) (c' : Sps) : Prop := ∀ e, Fits c e → ∃ e', g d e = some e' ∧ Fits c' e'
theorem gs_N {i : Nat} {d : D} (h : stb c i = true := by rfl) : GS c (gN i) d (c.set i (.is (.v d))) := fun e he => ⟨_, stb_at h he _, he.set i rfl⟩
def GSs (c : Sps) (gs : List DG) (ds : List D) (c' : Sps) : Prop := ∀ e, Fits c e → ∃ e', gsN gs ds e = some e' ∧ Fits c' e'
theorem gss_nil : GSs c [] [] c := fun e he => ⟨e, rfl, he⟩
theorem gss_cons {g : DG} {gs : List DG} {d : D} {ds : List D} {c1 c2 : Sps} (h : GS c g d c1) (h2 : GSs c1 gs ds c2) : GSs c (g :: gs) (d :: ds) c2 := fun e he => by
  obtain ⟨e1, a, b⟩ := h e he
  obtain ⟨e2, a2, b2⟩ := h2 e1 b
  exact ⟨e2, by unfold gsN; rw [a]; exact a2, b2⟩
theorem gs_T {gs : List DG} {ds : List D} {c' : Sps} (h : GSs c gs ds c') : GS c (gT gs) (.tuple ds) c' := fun e he => h e he
def asgK (g : DG) (b : DS) (d : D) : DEnv → Fl := fun e => (match g d e with
  | some e2 => Fl.nx e2
  | none => .stuck).seq b
theorem rs_asg {de : DE} {g : DG} {b : DS} (h : RS c (FK de (asgK g b)) m Q) : RS c (sSeq (sAsg de g) b) m Q := rk_conv (fun e => by
  unfold FK sSeq sAsg
  cases de e <;> rfl) h
theorem rk_asg {g : DG} {d : D} {b : DS} {c' : Sps} (hg : GS c g d c') (h : RS c' b m Q) : RS c (asgK g b d) m Q := fun e he => by
  obtain ⟨e', a, f⟩ := hg e he
  unfold asgK
  rw [a]
  exact h e' f
theorem rk_asgN {i : Nat} {d : D} {b : DS} (h : RS (c.set i (.is (.v d))) b m Q) (hs : stb c i = true := by rfl) : RS c (asgK (gN i) b d) m Q := rk_asg (gs_N hs) h
def asgLK (i : Nat) (b : DS) (xs : List D) : DEnv → Fl := fun e => (match setV i (.l xs) e with
  | some e2 => Fl.nx e2
  | none => .stuck).seq b
theorem rs_asgL {dl : DA} {i : Nat} {b : DS} (h : RS c (FK dl (asgLK i b)) m Q) : RS c (sSeq (sAsgL i dl) b) m Q := rk_conv (fun e => by
  unfold FK sSeq sAsgL
  cases dl e <;> rfl) h
theorem rk_asgL {i : Nat} {xs : List D} {b : DS} (h : RS (c.set i (.is (.l xs))) b m Q) (hs : stb c i = true := by rfl) : RS c (asgLK i b xs) m Q := fun e he => by
  unfold asgLK
  rw [stb_at hs he]
  exact h _ (he.set i rfl)
def knK (i : Nat) (f : DEnv → Fl) : DEnv → Fl := fun e => if known i e = true then f e else .stuck
theorem rk_kn {i : Nat} {f : DEnv → Fl} (g : RS c f m Q) (h : knownC c i = true := by rfl) : RS c (knK i f) m Q := fun e he => by
  unfold knK
  rw [knownC_at h he, if_pos rfl]
  exact g e he
def setK (i : Nat) (v kk : D) (b : DS) : DEnv → Fl := fun e2 => (match getL i e2, kk with
  | some xs, .int n => match ixN xs.length n with
    | some j => Fl.nx (putL i (xs.set j v) e2)
    | none => .stuck
  | _, _ => .stuck).seq b
theorem rs_setO {i : Nat} {dk dv : DE} {b : DS} (g : RS c (FK dv fun v => knK i (FK dk fun kk => setK i v kk b)) m Q) : RS c (sSeq (sSetO i dk dv) b) m Q := rk_conv (fun e => by
  unfold FK sSeq sSetO
  cases dv e with
  | ok v e1 =>
    simp only [fl_ok, knK]
    cases known i e1
    · rfl
    · simp only [if_true]
      cases dk e1 <;> rfl
  | ex _ _ => rfl
  | stuck => rfl) g
def setN (xs : List α) (n : Int) (a : α) : N (List α) := match ixN xs.length n with
  | some j => .ok (xs.set j a)
  | none => .stuck
theorem rk_set {i : Nat} {fe : α → D} {a : α} {n : Int} {xs : List α} {b : DS} {M : List α → Ct σ l ρ} (g : ∀ ys : List α, RS (reC c i (ys.map fe)) b (M ys) Q) (h : getC c i = some (xs.map fe) := by rfl) : RS c (setK i (fe a) (eI n) b) ((setN xs n a).ct M) Q := fun e he => by
  obtain ⟨h1, h2⟩ := getC_at h he
  unfold setK setN
  rw [h1]
  simp only [List.length_map]
  cases ixN xs.length n with
  | none => exact trivial
  | some j => simp only [← List.map_set]; exact g _ _ (h2 _)
theorem rs_last {a : DS} (h : RS c (sSeq a sNx) m Q) : RS c a m Q := rk_conv (fun e => by
  unfold sSeq
  cases a e <;> rfl) h
theorem rs_nx {s : σ} (h : ∀ e, Fits c e → Q.nx s e) : RS c sNx (.nx s) Q := fun e he => ⟨e, rfl, h e he⟩
def retK (d : D) : DEnv → Fl := fun e => .rt d e
def retL (d : List D) : DEnv → Fl := fun e => .rl d e
def retT (b : Bool) : DEnv → Fl := fun e => .rt (.bool b) e
theorem rs_ret {de : DE} {b : DS} (h : RS c (FK de retK) m Q) : RS c (sSeq (sRet de) b) m Q := rk_conv (fun e => by
  unfold FK sSeq sRet
  cases de e <;> rfl) h
theorem rs_retL {de : DA} {b : DS} (h : RS c (FK de retL) m Q) : RS c (sSeq (sRetL de) b) m Q := rk_conv (fun e => by
  unfold FK sSeq sRetL
  cases de e <;> rfl) h
theorem rk_ret {d : D} {r : ρ} (h : ∀ e, Fits c e → Q.rt r d e) : RS c (retK d) (.rt r : Ct σ l ρ) Q := fun e he => .inl ⟨d, e, rfl, h e he⟩
theorem rk_retL {d : List D} {r : ρ} (h : ∀ e, Fits c e → Q.rl r d e) : RS c (retL d) (.rt r : Ct σ l ρ) Q := fun e he => .inr ⟨d, e, rfl, h e he⟩
theorem rk_retT {b : Bool} {r : ρ} (h : ∀ e, Fits c e → Q.rt r (.bool b) e) : RS c (retT b) (.rt r : Ct σ l ρ) Q := fun e he => .inl ⟨_, e, rfl, h e he⟩
theorem rs_drop {de : DE} {b : DS} (h : RS c (FK de fun _ => b) m Q) : RS c (sSeq (sDrop de) b) m Q := rk_conv (fun e => by
  unfold FK sSeq sDrop
  cases de e <;> rfl) h
theorem rs_if {t : DT} {a b r : DS} (h : RS c (FK t fun z => ifF z (sSeq a r) (sSeq b r)) m Q) : RS c (sSeq (sIf t a b) r) m Q := rk_conv (fun e => by
  unfold FK sSeq sIf
  cases t e with
  | ok z e1 => cases z <;> rfl
  | ex _ _ => rfl
  | stuck => rfl) h
theorem rs_if0 {t : DT} {a b : DS} (h : RS c (FK t fun z => ifF z a b) m Q) : RS c (sIf t a b) m Q := rk_conv (fun e => by
  unfold FK sIf
  cases t e with
  | ok z e1 => cases z <;> rfl
  | ex _ _ => rfl
  | stuck => rfl) h
theorem rs_nxs {b : DS} (h : RS c b m Q) : RS c (sSeq sNx b) m Q := h
theorem rs_opt {x : Option α} {cc : Option α → Sps} {f : Option α → DEnv → Fl} {QQ : Option α → Qs σ l ρ} {A : Ct σ l ρ} {B : α → Ct σ l ρ} (h0 : RS (cc none) (f none) A (QQ none)) (h1 : ∀ y, RS (cc (some y)) (f (some y)) (B y) (QQ (some y))) : RS (cc x) (f x) (optC x A B) (QQ x) := by
  cases x
  · exact h0
  · exact h1 _
theorem rs_seq {a b : DS} {m1 : Ct τ l ρ} {K : τ → Ct σ l ρ} {c1 : τ → Sps} (h : RS c a m1 { nx := fun s e => Fits (c1 s) e, lp := Q.lp, rt := Q.rt, rl := Q.rl, ex := Q.ex }) (h2 : ∀ s, RS (c1 s) b (K s) Q) : RS c (sSeq a b) (m1.sq K) Q := fun e he => by
  have h' := h e he
  unfold sSeq
  cases m1 with
  | nx s => obtain ⟨e1, q, f⟩ := h'; rw [q]; exact h2 s e1 f
  | rt r =>
    rcases h' with ⟨d, e1, q, f⟩ | ⟨d, e1, q, f⟩
    · rw [q]; exact .inl ⟨d, e1, rfl, f⟩
    · rw [q]; exact .inr ⟨d, e1, rfl, f⟩
  | bk s => obtain ⟨e1, q, f⟩ := h'; rw [q]; exact ⟨e1, rfl, f⟩
  | ct s => obtain ⟨e1, q, f⟩ := h'; rw [q]; exact ⟨e1, rfl, f⟩
  | ex s => obtain ⟨e1, q, f⟩ := h'; rw [q]; exact ⟨e1, rfl, f⟩
  | stuck => exact trivial
/-- loops -/
theorem forD_R {fe : α → D} {g : DG} {body : DS} {nb : α → σ → Ct σ σ ρ} {c0 : σ → Sps} {c1 : α → σ → Sps} (hg : ∀ a s, GS (c0 s) g (fe a) (c1 a s)) (hb : ∀ a s, RS (c1 a s) body (nb a s) { nx := fun s e => Fits (c0 s) e, lp := fun s e => Fits (c0 s) e, rt := Q.rt, rl := Q.rl, ex := Q.ex }) : ∀ (xs : List α) (s : σ), RS (c0 s) (forD g body (xs.map fe)) (forC nb xs s) { Q with nx := fun s e => Fits (c0 s) e }
  | [], s => fun e he => ⟨e, rfl, he⟩
  | a :: as, s => fun e he => by
    obtain ⟨e1, q, f1⟩ := hg a s e he
    have h' := hb a s e1 f1
    have ih := forD_R hg hb as
    show R ((nb a s).again (forC nb as)) (match g (fe a) e with
      | none => .stuck
      | some e1 => (body e1).turn (forD g body (as.map fe))) _
    rw [q]
    show R ((nb a s).again (forC nb as)) ((body e1).turn (forD g body (as.map fe))) _
    cases w : nb a s with
    | nx s => rw [w] at h'; obtain ⟨e2, q, f⟩ := h'; rw [q]; exact ih s e2 f
    | ct s => rw [w] at h'; obtain ⟨e2, q, f⟩ := h'; rw [q]; exact ih s e2 f
    | bk s => rw [w] at h'; obtain ⟨e2, q, f⟩ := h'; rw [q]; exact ⟨e2, rfl, f⟩
    | rt r =>
      rw [w] at h'
      rcases h' with ⟨d, e2, q, f⟩ | ⟨d, e2, q, f⟩
      · rw [q]; exact .inl ⟨d, e2, rfl, f⟩
      · rw [q]; exact .inr ⟨d, e2, rfl, f⟩
    | ex s => rw [w] at h'; obtain ⟨e2, q, f⟩ := h'; rw [q]; exact ⟨e2, rfl, f⟩
    | stuck => exact trivial
theorem rs_forK {di : DA} {g : DG} {body b : DS} (h : RS c (FK di fun ds => sSeq (forD g body ds) b) m Q) : RS c (sSeq (sFor di g body) b) m Q := rk_conv (fun e => by
  unfold FK sSeq sFor
  cases di e <;> rfl) h
theorem rs_for {fe : α → D} {g : DG} {body b : DS} {nb : α → τ → Ct τ τ ρ} {c0 : τ → Sps} {c1 : α → τ → Sps} {xs : List α} {s0 : τ} {K : τ → Ct σ l ρ} (hs : Sub c (c0 s0)) (hg : ∀ a s, GS (c0 s) g (fe a) (c1 a s)) (hb : ∀ a s, RS (c1 a s) body (nb a s) { nx := fun s e => Fits (c0 s) e, lp := fun s e => Fits (c0 s) e, rt := Q.rt, rl := Q.rl, ex := Q.ex }) (h : ∀ s, RS (c0 s) b (K s) Q) : RS c (sSeq (forD g body (xs.map fe)) b) ((forC nb xs s0).sq K) Q :=
  rs_seq (c1 := c0) (fun e he => forD_R (Q := { nx := fun s e => Fits (c0 s) e, lp := Q.lp, rt := Q.rt, rl := Q.rl, ex := Q.ex }) hg hb xs s0 e (he.sub hs)) h
theorem whileD_R {t : DT} {body : DS} {nt : σ → N Bool} {nb : σ → Ct σ σ ρ} {c0 : σ → Sps} (ht : ∀ s, RS (c0 s) (FK t retT) ((nt s).ct fun b => (.rt b : Ct Unit Unit Bool)) { nx := fun _ _ => False, lp := fun _ _ => False, rt := fun b d e => d = .bool b ∧ Fits (c0 s) e, rl := fun _ _ _ => False, ex := Q.ex }) (hb : ∀ s, RS (c0 s) body (nb s) { nx := fun s e => Fits (c0 s) e, lp := fun s e => Fits (c0 s) e, rt := Q.rt, rl := Q.rl, ex := Q.ex }) : ∀ (n : Nat) (s : σ), RS (c0 s) (whileD t body n) (whileC nt nb n s) { Q with nx := fun s e => Fits (c0 s) e }
  | 0, s => fun e he => trivial
  | n + 1, s => fun e he => by
    have h1 := ht s e he
    unfold FK at h1
    show R ((nt s).ct fun b => if b = true then (nb s).again (whileC nt nb n) else .nx s) ((t e).fl fun b e1 => if b = true then (body e1).turn (whileD t body n) else .nx e1) _
    cases w : nt s with
    | stuck => exact trivial
    | ex x =>
      rw [w] at h1
      obtain ⟨e', q, f⟩ := h1
      cases w2 : t e with
      | ok b e1 => rw [w2] at q; cases q
      | ex x e1 => rw [w2] at q; cases q; exact ⟨_, rfl, f⟩
      | stuck => rw [w2] at q; cases q
    | ok b =>
      rw [w] at h1
      rcases h1 with ⟨d, e', q, f1, f2⟩ | ⟨d, e', q, f⟩
      · cases w2 : t e with
        | ex x e1 => rw [w2] at q; cases q
        | stuck => rw [w2] at q; cases q
        | ok b2 e1 =>
          rw [w2] at q
          have q1 : PyData.bool b2 = d := by injection q
          have q2 : e1 = e' := by injection q
          subst q2
          subst q1
          have q3 : b2 = b := by injection f1
          subst q3
          show R (if b2 = true then (nb s).again (whileC nt nb n) else .nx s) (if b2 = true then (body e1).turn (whileD t body n) else .nx e1) _
          cases b2 with
          | false => exact ⟨e1, rfl, f2⟩
          | true =>
            rw [if_pos rfl, if_pos rfl]
            have h' := hb s e1 f2
            have ih := whileD_R ht hb n
            cases w : nb s with
            | nx s => rw [w] at h'; obtain ⟨e2, q, f⟩ := h'; rw [q]; exact ih s e2 f
            | ct s => rw [w] at h'; obtain ⟨e2, q, f⟩ := h'; rw [q]; exact ih s e2 f
            | bk s => rw [w] at h'; obtain ⟨e2, q, f⟩ := h'; rw [q]; exact ⟨e2, rfl, f⟩
            | rt r =>
              rw [w] at h'
              rcases h' with ⟨d, e2, q, f⟩ | ⟨d, e2, q, f⟩
              · rw [q]; exact .inl ⟨d, e2, rfl, f⟩
              · rw [q]; exact .inr ⟨d, e2, rfl, f⟩
            | ex s => rw [w] at h'; obtain ⟨e2, q, f⟩ := h'; rw [q]; exact ⟨e2, rfl, f⟩
            | stuck => exact trivial
      · exact f.elim
theorem rs_while {t : DT} {body b : DS} {n : Nat} {nt : τ → N Bool} {nb : τ → Ct τ τ ρ} {c0 : τ → Sps} {s0 : τ} {K : τ → Ct σ l ρ} (hs : Sub c (c0 s0)) (ht : ∀ s, RS (c0 s) (FK t retT) ((nt s).ct fun b => (.rt b : Ct Unit Unit Bool)) { nx := fun _ _ => False, lp := fun _ _ => False, rt := fun b d e => d = .bool b ∧ Fits (c0 s) e, rl := fun _ _ _ => False, ex := Q.ex }) (hb : ∀ s, RS (c0 s) body (nb s) { nx := fun s e => Fits (c0 s) e, lp := fun s e => Fits (c0 s) e, rt := Q.rt, rl := Q.rl, ex := Q.ex }) (h : ∀ s, RS (c0 s) b (K s) Q) : RS c (sSeq (whileD t body n) b) ((whileC nt nb n s0).sq K) Q :=
  rs_seq (c1 := c0) (fun e he => whileD_R (Q := { nx := fun s e => Fits (c0 s) e, lp := Q.lp, rt := Q.rt, rl := Q.rl, ex := Q.ex }) ht hb n s0 e (he.sub hs)) h
end
end NT
set_option Elab.async false
set_option linter.all false
set_option autoImplicit false
namespace NT
open PySem L2 DL LW
section
variable {α β σ τ l ρ : Type} {c : Sps} {m : Ct σ l ρ} {Q : Qs σ l ρ}
abbrev QV (v : β → D) (c' : β → Sps) (ex : DEnv → Prop) : Qs Unit Unit β := { nx := fun _ _ => False, lp := fun _ _ => False, rt := fun r d e => d = v r ∧ Fits (c' r) e, rl := fun _ _ _ => False, ex := ex }
theorem rk_unitT {de : DT} {k : Bool → DEnv → Fl} {mu : Ct Unit Unit β} {v : β → Bool} {c' : β → Sps} {M : β → Ct σ l ρ} (hu : RS c (FK de retT) mu (QV (fun r => .bool (v r)) c' Q.ex)) (g : ∀ r, RS (c' r) (k (v r)) (M r) Q) : RS c (FK de k) (mu.fn.ct M) Q := fun e he => by
  have h := hu e he
  unfold FK at h ⊢
  cases mu with
  | nx s => obtain ⟨_, _, f⟩ := h; exact f.elim
  | bk s => obtain ⟨_, _, f⟩ := h; exact f.elim
  | ct s => obtain ⟨_, _, f⟩ := h; exact f.elim
  | stuck => exact trivial
  | ex x =>
    obtain ⟨e', q, f⟩ := h
    cases w : de e with
    | ok d e1 => rw [w] at q; cases q
    | ex y e1 => rw [w] at q; cases q; exact ⟨_, rfl, f⟩
    | stuck => rw [w] at q; cases q
  | rt r =>
    rcases h with ⟨d, e', q, f1, f2⟩ | ⟨_, _, _, f⟩
    · cases w : de e with
      | ok d e1 =>
        rw [w] at q
        cases q
        injection f1 with f1
        subst f1
        exact g r _ f2
      | ex y e1 => rw [w] at q; cases q
      | stuck => rw [w] at q; cases q
    · exact f.elim
/-- a test of a while -/
theorem rk_fnrt {v : β → D} {c' : β → Sps} {ex : DEnv → Prop} {f : DEnv → Fl} {mu : Ct Unit Unit β} (h : RS c f mu (QV v c' ex)) : RS c f (mu.fn.ct fun b => (.rt b : Ct Unit Unit β)) { nx := fun _ _ => False, lp := fun _ _ => False, rt := fun b d e => d = v b ∧ Fits (c' b) e, rl := fun _ _ _ => False, ex := ex } := fun e he => by
  have h := h e he
  cases mu with
  | nx s => obtain ⟨_, _, f⟩ := h; exact f.elim
  | bk s => obtain ⟨_, _, f⟩ := h; exact f.elim
  | ct s => obtain ⟨_, _, f⟩ := h; exact f.elim
  | stuck => exact trivial
  | ex x => exact h
  | rt r => exact h
def RF (m : N ρ) (fo : Fo) (v : ρ → D) (outs : ρ → DEnv) : Prop := match m with
  | .ok r => fo = .ok (v r) (outs r)
  | .ex x => ∃ o, fo = .ex x o
  | .stuck => True
def RFl (m : N ρ) (fo : Fo) (v : ρ → List D) (outs : ρ → DEnv) : Prop := match m with
  | .ok r => fo = .okl (v r) (outs r)
  | .ex x => ∃ o, fo = .ex x o
  | .stuck => True
def callK (np : Nat) (F : Df) (k : D → DEnv → Fl) (as : List Ar) : DEnv → Fl := fun e => (if as.length = np then (callD F as e).rs else .stuck).fl k
def callKL (np : Nat) (F : Df) (k : List D → DEnv → Fl) (as : List Ar) : DEnv → Fl := fun e => (if as.length = np then (callD F as e).rl else .stuck).fl k
theorem rk_callN {np : Nat} {F : Df} {da : DAr} {k : D → DEnv → Fl} (g : RS c (FK da (callK np F k)) m Q) : RS c (FK (eCallN np F da) k) m Q := rk_conv (fun e => by
  unfold FK eCallN
  rw [fl_bind]
  rfl) g
theorem rk_callNL {np : Nat} {F : Df} {da : DAr} {k : List D → DEnv → Fl} (g : RS c (FK da (callKL np F k)) m Q) : RS c (FK (lCallN np F da) k) m Q := rk_conv (fun e => by
  unfold FK lCallN
  rw [fl_bind]
  rfl) g
theorem rk_rnil {k : List Ar → DEnv → Fl} (g : RS c (k []) m Q) : RS c (FK rNil k) m Q := g
theorem rk_rcons {de : DE} {da : DAr} {k : List Ar → DEnv → Fl} (g : RS c (FK de fun x => FK da fun xs => k (.d x :: xs)) m Q) : RS c (FK (rCons de da) k) m Q := rk_conv (fun e => by
  unfold FK rCons
  simp only [fl_bind]
  rfl) g
def lentC (c : Sps) (i : Nat) : Bool := match c[i]? with
  | some (.is s) => lentS s
  | _ => false
theorem lentC_at {i : Nat} (h : lentC c i = true) {e : DEnv} (he : Fits c e) : lent i e = true := by
  unfold lentC at h
  split at h
  · rename_i q; have := he.is q; unfold lent; rw [this]; exact h
  · cases h
def lendK (i : Nat) (k : List Ar → DEnv → Fl) (xs : List Ar) : DEnv → Fl := fun e => if lent i e = true then k (.s i :: xs) e else .stuck
theorem rk_lend {i : Nat} {da : DAr} {k : List Ar → DEnv → Fl} (g : RS c (FK da (lendK i k)) m Q) (h : lentC c i = true := by rfl) : RS c (FK (rLendC i da) k) m Q := fun e he => by
  have := g e he
  unfold FK at this ⊢
  unfold rLendC
  rw [lentC_at h he, if_pos rfl]
  cases w : da e with
  | ok xs e1 =>
    rw [w] at this
    show R m ((if lent i e1 = true then Rs.ok (.s i :: xs) e1 else .stuck).fl k) Q
    have h2 : R m (if lent i e1 = true then k (.s i :: xs) e1 else .stuck) Q := this
    cases hl : lent i e1 with
    | true => rw [hl] at h2; exact h2
    | false => rw [hl] at h2; exact h2
  | ex _ _ => rw [w] at this; exact this
  | stuck => rw [w] at this; exact this
theorem rk_lendK {i : Nat} {k : List Ar → DEnv → Fl} {xs : List Ar} (g : RS c (k (.s i :: xs)) m Q) (h : lentC c i = true := by rfl) : RS c (lendK i k xs) m Q := fun e he => by
  unfold lendK
  rw [lentC_at h he, if_pos rfl]
  exact g e he
def toC (c : Sps) : Ar → Sl
  | .d x => .v x
  | .g x => .f x
  | .s i => match c[i]? with
    | some (.is s) => lendS s
    | _ => .no
def lentAll (c : Sps) : List Ar → Bool
  | [] => true
  | .d _ :: as => lentAll c as
  | .g _ :: as => lentAll c as
  | .s i :: as => lentC c i && lentAll c as
theorem toC_at {e : DEnv} (he : Fits c e) : ∀ (as : List Ar), lentAll c as = true → as.map (toSl e) = as.map (toC c)
  | [], _ => rfl
  | .d x :: as, h => by rw [List.map_cons, List.map_cons, toC_at he as h]; rfl
  | .g x :: as, h => by rw [List.map_cons, List.map_cons, toC_at he as h]; rfl
  | .s i :: as, h => by
    have h' : lentC c i = true ∧ lentAll c as = true := by unfold lentAll at h; rwa [Bool.and_eq_true] at h
    rw [List.map_cons, List.map_cons, toC_at he as h'.2]
    congr 1
    have h1 := h'.1
    unfold lentC at h1
    split at h1
    · rename_i q; have := he.is q; simp only [toSl, this, toC, q]
    · cases h1
def convC (c : Sps) (i : Nat) (o : Sl) : Sp := match c[i]? with
  | some (.is s) => .is (conv s o)
  | _ => .np
def setBack (c : Sps) : List Ar → DEnv → Sps
  | .d _ :: as, _ :: os => setBack c as os
  | .g _ :: as, _ :: os => setBack c as os
  | .s i :: as, o :: os => setBack (c.set i (convC c i o)) as os
  | _, _ => c
theorem setBack_len : ∀ (as : List Ar) (os : DEnv) (c : Sps), (setBack c as os).length = c.length
  | [], _, _ => rfl
  | .d _ :: as, [], _ => rfl
  | .g _ :: as, [], _ => rfl
  | .s _ :: as, [], _ => rfl
  | .d _ :: as, _ :: os, c => setBack_len as os c
  | .g _ :: as, _ :: os, c => setBack_len as os c
  | .s i :: as, o :: os, c => by
    show (setBack (c.set i (convC c i o)) as os).length = _
    rw [setBack_len as os, List.length_set]
theorem lookS_none {j : Nat} : ∀ (as : List Ar) (os : DEnv), j ∉ slotsOf as → lookS j as os = none
  | [], _, _ => by simp [lookS]
  | .d _ :: as, [], _ => rfl
  | .g _ :: as, [], _ => rfl
  | .s _ :: as, [], _ => rfl
  | .d _ :: as, _ :: os, h => lookS_none as os (by simpa [slotsOf] using h)
  | .g _ :: as, _ :: os, h => lookS_none as os (by simpa [slotsOf] using h)
  | .s i :: as, o :: os, h => by
    have h' : ¬ j = i ∧ j ∉ slotsOf as := by simpa [slotsOf] using h
    show (if i = j then some o else lookS j as os) = none
    rw [if_neg (fun z => h'.1 z.symm)]
    exact lookS_none as os h'.2
theorem setBack_at : ∀ (as : List Ar) (os : DEnv) (c : Sps) (j : Nat), (slotsOf as).Nodup → (setBack c as os)[j]? = match lookS j as os with
    | some o => (c[j]?).map fun _ => convC c j o
    | none => c[j]?
  | [], os, c, j, _ => by simp [lookS, setBack]
  | .d _ :: as, [], c, j, _ => rfl
  | .g _ :: as, [], c, j, _ => rfl
  | .s _ :: as, [], c, j, _ => rfl
  | .d _ :: as, _ :: os, c, j, h => setBack_at as os c j (by simpa [slotsOf] using h)
  | .g _ :: as, _ :: os, c, j, h => setBack_at as os c j (by simpa [slotsOf] using h)
  | .s i :: as, o :: os, c, j, h => by
    have h' : i ∉ slotsOf as ∧ (slotsOf as).Nodup := by simpa [slotsOf] using h
    show (setBack (c.set i (convC c i o)) as os)[j]? = match (if i = j then some o else lookS j as os) with
      | some o => (c[j]?).map fun _ => convC c j o
      | none => c[j]?
    rw [setBack_at as os _ j h'.2]
    by_cases q : i = j
    · subst q
      rw [if_pos rfl, lookS_none as os h'.1]
      simp only
      by_cases li : i < c.length
      · rw [List.getElem?_set_self li, List.getElem?_eq_getElem li]; rfl
      · rw [List.getElem?_eq_none (by simpa using li), List.getElem?_eq_none (by simpa using li)]; rfl
    · rw [if_neg q]
      have e1 : (c.set i (convC c i o))[j]? = c[j]? := List.getElem?_set_ne q
      cases lookS j as os with
      | none => exact e1
      | some o2 =>
        have e4 : convC (c.set i (convC c i o)) j o2 = convC c j o2 := by
          generalize convC c i o = z at e1 ⊢
          unfold convC
          rw [e1]
        simp only [e4, e1]
theorem back_fits {e : DEnv} (he : Fits c e) {as : List Ar} (hl : lentAll c as = true) (hn : (slotsOf as).Nodup) (os : DEnv) : Fits (setBack c as os) (backD as os e) := by
  refine ⟨by rw [setBack_len, he.len]; simp [backD], fun j x t hx ht => ?_⟩
  rw [setBack_at as os c j hn] at hx
  have ht' : (e[j]?).map (fun s => match lookS j as os with
      | some o => conv s o
      | none => s) = some t := by
    unfold backD at ht
    rw [List.getElem?_mapIdx] at ht
    exact ht
  cases w : lookS j as os with
  | none =>
    rw [w] at hx ht'
    simp only at hx ht'
    have : e[j]? = some t := by simpa using ht'
    exact he.at_ j x t hx this
  | some o =>
    rw [w] at hx ht'
    simp only at hx ht'
    cases q : c[j]? with
    | none => rw [q] at hx; cases hx
    | some y =>
      rw [q] at hx
      have hx' : convC c j o = x := by simpa using hx
      have mem : j ∈ slotsOf as := by
        apply Classical.byContradiction
        intro z
        rw [lookS_none as os z] at w
        cases w
      have lj : lentC c j = true := by
        clear hx ht ht' w hx' q he hn
        induction as with
        | nil => simp [slotsOf] at mem
        | cons a as ih =>
          cases a with
          | d x => exact ih hl (by simpa [slotsOf] using mem)
          | g x => exact ih hl (by simpa [slotsOf] using mem)
          | s i =>
            have h' : lentC c i = true ∧ lentAll c as = true := by unfold lentAll at hl; rwa [Bool.and_eq_true] at hl
            rcases (by simpa [slotsOf] using mem : j = i ∨ j ∈ slotsOf as) with rfl | m
            · exact h'.1
            · exact ih h'.2 m
      unfold lentC at lj
      rw [q] at lj
      unfold convC at hx'
      rw [q] at hx'
      split at lj
      · rename_i z
        cases z
        have := he.is q
        rw [this] at ht'
        simp only [Option.map_some, Option.some.injEq] at ht'
        rw [← hx']
        exact ht'.symm
      · cases lj
def nodupB : List Nat → Bool
  | [] => true
  | x :: xs => !xs.contains x && nodupB xs
theorem nodupB_ok : ∀ {xs : List Nat}, nodupB xs = true → xs.Nodup
  | [], _ => List.nodup_nil
  | x :: xs, h => by
    have h' : (!xs.contains x && nodupB xs) = true := h
    rw [Bool.and_eq_true] at h'
    rw [List.nodup_cons]
    exact ⟨by simpa using h'.1, nodupB_ok h'.2⟩
def noS (as : List Ar) : Bool := as.all fun a => match a with
  | .d _ => true
  | .g _ => true
  | .s _ => false
theorem back_noS {as : List Ar} (h : noS as = true) (os : DEnv) (e : DEnv) : backD as os e = e := by
  have hs : slotsOf as = [] := by
    induction as with
    | nil => rfl
    | cons a as ih =>
      cases a with
      | d x => exact ih (by simpa [noS] using h)
      | g x => exact ih (by simpa [noS] using h)
      | s i => simp [noS] at h
  unfold backD
  apply List.ext_getElem?
  intro j
  rw [List.getElem?_mapIdx, lookS_none as os (by rw [hs]; simp)]
  simp
theorem rk_call {np : Nat} {F : Df} {as : List Ar} {k : D → DEnv → Fl} {args : DEnv} {mF : N β} {v : β → D} {outs : β → DEnv} {M : β → Ct σ l ρ} (hf : RF mF (F args) v outs) (g : ∀ r, RS (setBack c as (outs r)) (k (v r)) (M r) Q) (hx : ∀ e e', Fits c e → (noS as = true → e' = e) → Q.ex e') (ha : as.map (toC c) = args := by rfl) (hl : lentAll c as = true := by rfl) (hn : as.length = np := by rfl) (hd0 : nodupB (slotsOf as) = true := by rfl) : RS c (callK np F k as) (mF.ct M) Q := fun e he => by
  have hd := nodupB_ok hd0
  unfold callK callD
  rw [if_pos hn, if_pos hd, toC_at he as hl, ha]
  cases mF with
  | stuck => exact trivial
  | ok r =>
    have hf' : F args = .ok (v r) (outs r) := hf
    rw [hf']
    exact g r _ (back_fits he hl hd _)
  | ex x =>
    obtain ⟨o, ho⟩ := hf
    rw [ho]
    exact ⟨_, rfl, hx e _ he fun z => back_noS z o e⟩
theorem rk_callL {np : Nat} {F : Df} {as : List Ar} {k : List D → DEnv → Fl} {args : DEnv} {mF : N β} {v : β → List D} {outs : β → DEnv} {M : β → Ct σ l ρ} (hf : RFl mF (F args) v outs) (g : ∀ r, RS (setBack c as (outs r)) (k (v r)) (M r) Q) (hx : ∀ e e', Fits c e → (noS as = true → e' = e) → Q.ex e') (ha : as.map (toC c) = args := by rfl) (hl : lentAll c as = true := by rfl) (hn : as.length = np := by rfl) (hd0 : nodupB (slotsOf as) = true := by rfl) : RS c (callKL np F k as) (mF.ct M) Q := fun e he => by
  have hd := nodupB_ok hd0
  unfold callKL callD
  rw [if_pos hn, if_pos hd, toC_at he as hl, ha]
  cases mF with
  | stuck => exact trivial
  | ok r =>
    have hf' : F args = .okl (v r) (outs r) := hf
    rw [hf']
    exact g r _ (back_fits he hl hd _)
  | ex x =>
    obtain ⟨o, ho⟩ := hf
    rw [ho]
    exact ⟨_, rfl, hx e _ he fun z => back_noS z o e⟩
def slC (c : Sps) (i : Nat) : Sl := match c[i]? with
  | some (.is t) => t
  | _ => .no
def isC (c : Sps) (i : Nat) : Bool := match c[i]? with
  | some (.is _) => true
  | _ => false
def outsC (c : Sps) : Nat → DEnv → DEnv
  | i, s :: r => outOf s (slC c i) :: outsC c (i + 1) r
  | _, [] => []
def lendsC (c : Sps) : Nat → DEnv → Bool
  | i, s :: r => (s.pk == 0 || isC c i) && lendsC c (i + 1) r
  | _, [] => true
theorem outOf_no {s : Sl} (h : s.pk = 0) (t : Sl) : outOf s t = .no := by cases s <;> first | rfl | cases h
theorem slC_at {e : DEnv} (he : Fits c e) {i : Nat} (h : isC c i = true) : e.getD i Sl.no = slC c i := by
  unfold isC at h
  split at h
  · rename_i q
    unfold slC
    simp [List.getD, he.is q, q]
  · cases h
theorem outs_at {e : DEnv} (he : Fits c e) : ∀ (args : DEnv) (i : Nat), lendsC c i args = true → (args.mapIdx fun j a => outOf a (e.getD (i + j) Sl.no)) = outsC c i args
  | [], i, _ => rfl
  | a :: r, i, h => by
    rw [List.mapIdx_cons]
    have h' : (a.pk == 0 || isC c i) = true ∧ lendsC c (i + 1) r = true := by
      have : ((a.pk == 0 || isC c i) && lendsC c (i + 1) r) = true := h
      rwa [Bool.and_eq_true] at this
    have tail : (r.mapIdx fun j a => outOf a (e.getD (i + (j + 1)) Sl.no)) = outsC c (i + 1) r := by
      rw [← outs_at he r (i + 1) h'.2]
      congr 1
      funext j a
      rw [show i + (j + 1) = i + 1 + j by omega]
    show _ :: _ = outOf a (slC c i) :: outsC c (i + 1) r
    rw [tail]
    congr 1
    by_cases z : a.pk = 0
    · rw [outOf_no z, outOf_no z]
    · have := h'.1
      rw [Bool.or_eq_true] at this
      rw [Nat.add_zero, slC_at he (this.resolve_left fun w => z (by simpa using w))]
abbrev QF (args : DEnv) (v : ρ → D) (outs : ρ → DEnv) : Qs Unit Unit ρ := { nx := fun _ _ => False, lp := fun _ _ => False, rt := fun r d e => d = v r ∧ outsOf args e = outs r, rl := fun _ _ _ => False, ex := fun _ => True }
abbrev QFl (args : DEnv) (v : ρ → List D) (outs : ρ → DEnv) : Qs Unit Unit ρ := { nx := fun _ _ => False, lp := fun _ _ => False, rt := fun _ _ _ => False, rl := fun r d e => d = v r ∧ outsOf args e = outs r, ex := fun _ => True }
/-- a def without an answer -/
abbrev QP (args : DEnv) (outs : ρ → DEnv) : Qs ρ Unit ρ := { nx := fun r e => outsOf args e = outs r, lp := fun _ _ => False, rt := fun r d e => d = .none ∧ outsOf args e = outs r, rl := fun _ _ _ => False, ex := fun _ => True }
theorem outs_of {args : DEnv} {o : DEnv} (h : lendsC c 0 args = true) (ho : outsC c 0 args = o) {e : DEnv} (he : Fits c e) : outsOf args e = o := by
  rw [← ho, ← outs_at he args 0 h]
  unfold outsOf
  congr 1
  funext j a
  rw [Nat.zero_add]
theorem fits_init (args : DEnv) (n : Nat) : Fits (args.map Sp.is ++ List.replicate n Sp.nw) (args ++ List.replicate n Sl.no) := by
  refine ⟨by simp, fun i x t hx ht => ?_⟩
  by_cases q : i < args.length
  · rw [List.getElem?_append_left (by simpa using q)] at hx
    rw [List.getElem?_append_left q] at ht
    rw [List.getElem?_map, ht] at hx
    cases hx
    rfl
  · rw [List.getElem?_append_right (by simpa using q)] at hx
    rw [List.getElem?_append_right (by omega)] at ht
    rw [List.getElem?_replicate] at hx ht
    split at hx <;> cases hx
    split at ht <;> cases ht
    rfl
theorem rf_of {n : Nat} {b : DS} {args : DEnv} {c0 : Sps} {m : Ct Unit Unit ρ} {v : ρ → D} {outs : ρ → DEnv} (h : RS c0 b m (QF args v outs)) (hc : args.map Sp.is ++ List.replicate (n - args.length) Sp.nw = c0 := by rfl) : RF m.fn (bodyF n b args) v outs := by
  subst hc
  have h' := h _ (fits_init args (n - args.length))
  rw [bodyF_ap]
  cases m with
  | nx s => obtain ⟨_, _, f⟩ := h'; exact f.elim
  | bk s => obtain ⟨_, _, f⟩ := h'; exact f.elim
  | ct s => obtain ⟨_, _, f⟩ := h'; exact f.elim
  | stuck => exact trivial
  | ex x => obtain ⟨e, q, f⟩ := h'; rw [q]; exact ⟨_, rfl⟩
  | rt r =>
    rcases h' with ⟨d, e', q, f1, f2⟩ | ⟨_, _, _, f⟩
    · rw [q]
      show Fo.ok d (outsOf args e') = .ok (v r) (outs r)
      rw [f1, f2]
    · exact f.elim
theorem rfl_of {n : Nat} {b : DS} {args : DEnv} {c0 : Sps} {m : Ct Unit Unit ρ} {v : ρ → List D} {outs : ρ → DEnv} (h : RS c0 b m (QFl args v outs)) (hc : args.map Sp.is ++ List.replicate (n - args.length) Sp.nw = c0 := by rfl) : RFl m.fn (bodyF n b args) v outs := by
  subst hc
  have h' := h _ (fits_init args (n - args.length))
  rw [bodyF_ap]
  cases m with
  | nx s => obtain ⟨_, _, f⟩ := h'; exact f.elim
  | bk s => obtain ⟨_, _, f⟩ := h'; exact f.elim
  | ct s => obtain ⟨_, _, f⟩ := h'; exact f.elim
  | stuck => exact trivial
  | ex x => obtain ⟨e, q, f⟩ := h'; rw [q]; exact ⟨_, rfl⟩
  | rt r =>
    rcases h' with ⟨_, _, _, f⟩ | ⟨d, e', q, f1, f2⟩
    · exact f.elim
    · rw [q]
      show Fo.okl d (outsOf args e') = .okl (v r) (outs r)
      rw [f1, f2]
theorem rp_of {n : Nat} {b : DS} {args : DEnv} {c0 : Sps} {m : Ct ρ Unit ρ} {outs : ρ → DEnv} (h : RS c0 b m (QP args outs)) (hc : args.map Sp.is ++ List.replicate (n - args.length) Sp.nw = c0 := by rfl) : RF m.fp (bodyF n b args) (fun _ => .none) outs := by
  subst hc
  have h' := h _ (fits_init args (n - args.length))
  rw [bodyF_ap]
  cases m with
  | nx s =>
    obtain ⟨e, q, f⟩ := h'
    rw [q]
    show Fo.ok .none (outsOf args e) = .ok .none (outs s)
    rw [f]
  | bk s => obtain ⟨_, _, f⟩ := h'; exact f.elim
  | ct s => obtain ⟨_, _, f⟩ := h'; exact f.elim
  | stuck => exact trivial
  | ex x => obtain ⟨e, q, f⟩ := h'; rw [q]; exact ⟨_, rfl⟩
  | rt r =>
    rcases h' with ⟨d, e', q, f1, f2⟩ | ⟨_, _, _, f⟩
    · rw [q]
      show Fo.ok d (outsOf args e') = .ok .none (outs r)
      rw [f1, f2]
    · exact f.elim
end
end NT
set_option Elab.async false
set_option linter.all false
set_option autoImplicit false
namespace NT
open PySem L2 DL LW
end NT
set_option Elab.async false
set_option linter.all false
set_option autoImplicit false
namespace NT
open PySem L2 DL LW
section
variable {α β γ δ ε ζ η σ τ l ρ : Type} {c : Sps} {m : Ct σ l ρ} {Q : Qs σ l ρ}
@[simp, reducible] def P2 (f : α → β → γ) (s : α × β) : γ := f s.1 s.2
@[simp, reducible] def P3 (f : α → β → γ → δ) (s : α × β × γ) : δ := f s.1 s.2.1 s.2.2
@[simp, reducible] def P4 (f : α → β → γ → δ → ε) (s : α × β × γ × δ) : ε := f s.1 s.2.1 s.2.2.1 s.2.2.2
@[simp, reducible] def P5 (f : α → β → γ → δ → ε → ζ) (s : α × β × γ × δ × ε) : ζ := f s.1 s.2.1 s.2.2.1 s.2.2.2.1 s.2.2.2.2
@[simp, reducible] def P6 (f : α → β → γ → δ → ε → ζ → η) (s : α × β × γ × δ × ε × ζ) : η := f s.1 s.2.1 s.2.2.1 s.2.2.2.1 s.2.2.2.2.1 s.2.2.2.2.2
abbrev imin (a b : Int) : Int := if b < a then b else a
abbrev imax (a b : Int) : Int := if b > a then b else a
abbrev b2i (b : Bool) : Int := if b then 1 else 0
theorem sub_nil : Sub [] [] := trivial
theorem sub_cons {x y : Sp} {c d : Sps} (h : Wk x y) (g : Sub c d) : Sub (x :: c) (y :: d) := ⟨h, g⟩
theorem wk_is {s : Sl} : Wk (.is s) (.is s) := rfl
theorem wk_lnp {d : List D} : Wk (.is (.l d)) .np := rfl
theorem wk_vnw {d : D} : Wk (.is (.v d)) .nw := rfl
theorem wk_nw : Wk .nw .nw := trivial
theorem wk_nwnp : Wk .nw .np := trivial
theorem rs_assoc {a b r : DS} (h : RS c (sSeq a (sSeq b r)) m Q) : RS c (sSeq (sSeq a b) r) m Q := rk_conv (fun e => by
  unfold sSeq
  cases a e <;> rfl) h
theorem ep_optT {x : Option α} {cc : Option α → Sps} {t : DT} {a : Bool} {b : α → Bool} (h0 : EP (cc none) t a) (h1 : ∀ y, EP (cc (some y)) t (b y)) : EP (cc x) t (optC x a b) := by
  cases x
  · exact h0
  · exact h1 _
theorem ep_optE {x : Option α} {cc : Option α → Sps} {f : β → D} {de : DE} {a : β} {b : α → β} (h0 : EP (cc none) de (f a)) (h1 : ∀ y, EP (cc (some y)) de (f (b y))) : EP (cc x) de (f (optC x a b)) := by
  cases x
  · exact h0
  · exact h1 _
theorem ep_andF {t u : DT} (h : EP c t false) : EP c (tAndD t u) false := fun e he => by
  unfold tAndD
  rw [h e he]
  rfl
theorem ep_andK {t u : DT} {b : Bool} (h : EP c t true) (g : EP c u b) : EP c (tAndD t u) b := fun e he => by
  unfold tAndD
  rw [h e he]
  exact g e he
theorem ep_ifA {t : DT} {da db : DE} {d : D} (h : EP c t true) (g : EP c da d) : EP c (eIf t da db) d := fun e he => by
  unfold eIf
  rw [h e he]
  exact g e he
theorem ep_ifB {t : DT} {da db : DE} {d : D} (h : EP c t false) (g : EP c db d) : EP c (eIf t da db) d := fun e he => by
  unfold eIf
  rw [h e he]
  exact g e he
theorem is_none {f : α → D} [n : NnE f] (x : Option α) : dIs (eO f x) .none = some (.bool x.isNone) := by
  cases x with
  | none => rfl
  | some a =>
    show some (PyData.bool (isNone (f a))) = _
    have := n.nn a
    cases h : f a <;> first | rfl | exact absurd h this
theorem isnt_none {f : α → D} [n : NnE f] (x : Option α) : dIsnt (eO f x) .none = some (.bool (!x.isNone)) := by
  cases x with
  | none => rfl
  | some a =>
    show some (PyData.bool (!isNone (f a))) = _
    have := n.nn a
    cases h : f a <;> first | rfl | exact absurd h this
theorem len_T {f : α → D} (xs : List α) : fLen [eTs f xs] = some (eI xs.length) := by simp [fLen]
theorem len_L {f : α → D} (xs : List α) : fLen [eLs f xs] = some (eI xs.length) := by simp [fLen]
theorem rs_unw {x : Option α} {cc : Option α → Sps} {f : Option α → DEnv → Fl} {QQ : Option α → Qs σ l ρ} {M : α → Ct σ l ρ} (h1 : ∀ y, RS (cc (some y)) (f (some y)) (M y) (QQ (some y))) : RS (cc x) (f x) ((unw x).ct M) (QQ x) := by
  cases x
  · exact fun _ _ => trivial
  · exact h1 _
def cutL (xs : List α) (lo hi : Option Int) : List α := (xs.drop (HT.sIx xs.length 0 lo)).take (HT.sIx xs.length xs.length hi - HT.sIx xs.length 0 lo)
theorem cutD_map (f : α → D) (xs : List α) (lo hi : Option Int) : cutD (xs.map f) lo hi = (cutL xs lo hi).map f := by
  unfold cutD cutL
  rw [List.length_map, List.map_take, List.map_drop]
theorem sl_L {f : α → D} (xs : List α) (lo hi : Option Int) : dSl (eLs f xs) lo hi = some (eLs f (cutL xs lo hi)) := by
  show some (PyData.list (cutD (xs.map f) lo hi)) = _
  rw [cutD_map]
end
end NT
set_option Elab.async false
set_option linter.all false
set_option autoImplicit false
namespace NT
open PySem L2 DL LW
section
variable {α β σ τ l ρ : Type}
structure Po (σ l ρ : Type) where
  nx : σ → Prop := fun _ => False
  rt : ρ → Prop := fun _ => False
  bk : l → Prop := fun _ => False
  ct : l → Prop := fun _ => False
  ex : Xc → Prop := fun _ => False
def W (c : Ct σ l ρ) (p : Po σ l ρ) : Prop := match c with
  | .nx s => p.nx s
  | .rt r => p.rt r
  | .bk s => p.bk s
  | .ct s => p.ct s
  | .ex x => p.ex x
  | .stuck => False
@[simp] theorem W_nx (s : σ) (p : Po σ l ρ) : W (.nx s) p = p.nx s := rfl
@[simp] theorem W_rt (s : ρ) (p : Po σ l ρ) : W (.rt s) p = p.rt s := rfl
@[simp] theorem W_bk (s : l) (p : Po σ l ρ) : W (.bk s) p = p.bk s := rfl
@[simp] theorem W_ct (s : l) (p : Po σ l ρ) : W (.ct s) p = p.ct s := rfl
@[simp] theorem W_ex (s : Xc) (p : Po σ l ρ) : W (.ex s) p = p.ex s := rfl
@[simp] theorem W_stuck (p : Po σ l ρ) : W .stuck p = False := rfl
theorem W_sq {m : Ct σ l ρ} {K : σ → Ct τ l ρ} {p : Po τ l ρ} (h : W m { nx := fun s => W (K s) p, rt := p.rt, bk := p.bk, ct := p.ct, ex := p.ex }) : W (m.sq K) p := by
  cases m <;> exact h
theorem W_mono {m : Ct σ l ρ} {p q : Po σ l ρ} (h : W m p) (a : ∀ s, p.nx s → q.nx s) (b : ∀ s, p.rt s → q.rt s) (c : ∀ s, p.bk s → q.bk s) (d : ∀ s, p.ct s → q.ct s) (e : ∀ s, p.ex s → q.ex s) : W m q := by
  cases m with
  | nx s => exact a _ h
  | rt s => exact b _ h
  | bk s => exact c _ h
  | ct s => exact d _ h
  | ex s => exact e _ h
  | stuck => exact h
/-- a block with what holds behind it -/
theorem W_cut {m : Ct σ l ρ} {K : σ → Ct τ l ρ} {p : Po τ l ρ} (J : σ → Prop) (h : W m { nx := J, rt := p.rt, bk := p.bk, ct := p.ct, ex := p.ex }) (k : ∀ s, J s → W (K s) p) : W (m.sq K) p :=
  W_sq (W_mono h k (fun _ z => z) (fun _ z => z) (fun _ z => z) (fun _ z => z))
theorem W_forI {body : α → σ → Ct σ σ ρ} {p : Po σ l ρ} (I : Nat → σ → Prop) : ∀ (as : List α) (n : Nat) (s : σ), I n s → (∀ i a s, as[i]? = some a → I (n + i) s → W (body a s) { nx := I (n + i + 1), ct := I (n + i + 1), bk := p.nx, rt := p.rt, ex := p.ex }) → (∀ s, I (n + as.length) s → p.nx s) → W (forC body as s) p
  | [], n, s, h0, _, k => k s h0
  | a :: as, n, s, h0, h, k => by
    have h1 := h 0 a s rfl h0
    have ih := fun s (hs : I (n + 1) s) => W_forI I as (n + 1) s hs (fun i a s hi hp => by
      have := h (i + 1) a s (by simpa using hi) (by rw [show n + (i + 1) = n + 1 + i by omega]; exact hp)
      rw [show n + 1 + i + 1 = n + (i + 1) + 1 by omega]
      exact this) (fun s hs => k s (by rw [List.length_cons, show n + (as.length + 1) = n + 1 + as.length by omega]; exact hs))
    rw [forC_cons]
    cases q : body a s with
    | nx s' => rw [q] at h1; exact ih s' h1
    | ct s' => rw [q] at h1; exact ih s' h1
    | bk s' => rw [q] at h1; exact h1
    | rt s' => rw [q] at h1; exact h1
    | ex s' => rw [q] at h1; exact h1
    | stuck => rw [q] at h1; exact h1
theorem W_for {body : α → σ → Ct σ σ ρ} {p : Po σ l ρ} {as : List α} {s : σ} (I : Nat → σ → Prop) (h0 : I 0 s) (h : ∀ i a s, as[i]? = some a → I i s → W (body a s) { nx := I (i + 1), ct := I (i + 1), bk := p.nx, rt := p.rt, ex := p.ex }) (k : ∀ s, I as.length s → p.nx s) : W (forC body as s) p :=
  W_forI I as 0 s h0 (fun i a s hi hp => by rw [Nat.zero_add] at hp ⊢; exact h i a s hi hp) (by rw [Nat.zero_add]; exact k)
theorem W_while {t : σ → N Bool} {body : σ → Ct σ σ ρ} {p : Po σ l ρ} (I : Nat → σ → Prop) : ∀ (f m : Nat) (s : σ), m < f → I m s → (∀ m s, I m s → (t s = .ok false ∧ p.nx s) ∨ (t s = .ok true ∧ W (body s) { nx := fun s => ∃ k, k < m ∧ I k s, ct := fun s => ∃ k, k < m ∧ I k s, bk := p.nx, rt := p.rt, ex := p.ex })) → W (whileC t body f s) p
  | 0, m, s, hm, _, _ => by omega
  | f + 1, m, s, hm, h0, h => by
    rcases h m s h0 with ⟨e, z⟩ | ⟨e, z⟩
    · simp only [whileC, e, ct_ok]
      exact z
    · simp only [whileC, e, ct_ok, if_true]
      have ih : ∀ s, (∃ k, k < m ∧ I k s) → W (whileC t body f s) p := fun s hs => by
        obtain ⟨k, hk, hI⟩ := hs
        exact W_while (p := p) I f k s (by omega) hI h
      cases q : body s with
      | nx s' => rw [q] at z; exact ih s' z
      | ct s' => rw [q] at z; exact ih s' z
      | bk s' => rw [q] at z; exact z
      | rt s' => rw [q] at z; exact z
      | ex s' => rw [q] at z; exact z
      | stuck => rw [q] at z; exact z
theorem W_if {p : Po σ l ρ} {c : Prop} [Decidable c] {a b : Ct σ l ρ} (h1 : c → W a p) (h2 : ¬ c → W b p) : W (if c then a else b) p := by
  by_cases h : c
  · rw [if_pos h]; exact h1 h
  · rw [if_neg h]; exact h2 h
theorem W_fn {m : Ct σ l ρ} {Q : ρ → Prop} (h : W m { rt := Q }) : ∃ r, m.fn = .ok r ∧ Q r := by
  cases m with
  | rt r => exact ⟨r, rfl, h⟩
  | _ => exact h.elim
/-- the def on slots answers -/
theorem RF_ok {m : N ρ} {fo : Fo} {v : ρ → D} {outs : ρ → DEnv} {r : ρ} (h : RF m fo v outs) (e : m = .ok r) : fo = .ok (v r) (outs r) := by
  rw [e] at h
  exact h
end
end NT
set_option Elab.async false
set_option linter.all false
set_option autoImplicit false
namespace NT
open PySem L2 DL LW
section
variable {α β σ τ l ρ : Type} {c : Sps} {m : Ct σ l ρ} {Q : Qs σ l ρ}
theorem rs_raise {x : Str} {b : DS} (h : ∀ e, Fits c e → Q.ex e) : RS c (sSeq (sRaise x) b) (.ex ⟨x, none⟩ : Ct σ l ρ) Q := fun e he => ⟨e, rfl, h e he⟩
theorem intsOf_map (xs : List Int) : intsOf (xs.map eI) = some xs := by
  induction xs with
  | nil => rfl
  | cons x xs ih => simp [intsOf, ih]
def indexN (xs : List Int) (k : Int) : N Int := ofO ((xs.findIdx? fun y => decide (y = k)).map fun (j : Nat) => (j : Int))
def idxK (dk : DE) (k : D → DEnv → Fl) (d : D) : DEnv → Fl := match d with
  | .tuple xs => FK dk fun kk => FK (put (dIndex (.tuple xs) kk)) k
  | _ => fun _ => .stuck
theorem rk_index {dd dk : DE} {k : D → DEnv → Fl} (g : RS c (FK dd (idxK dk k)) m Q) : RS c (FK (eIndex dd dk) k) m Q := rk_conv (fun e => by
  unfold FK eIndex
  rw [fl_bind]
  cases dd e with
  | ok d e1 =>
    cases d <;> first | rfl | skip
    show (Rs.bind _ _).fl k = FK dk _ e1
    rw [fl_bind]
    rfl
  | ex _ _ => rfl
  | stuck => rfl) g
theorem rk_idxT {dk : DE} {k : D → DEnv → Fl} {ds : List D} (g : RS c (FK dk fun kk => FK (put (dIndex (.tuple ds) kk)) k) m Q) : RS c (idxK dk k (.tuple ds)) m Q := g
theorem rk_idxP {xs : List Int} {i : Int} {k : D → DEnv → Fl} {M : Int → Ct σ l ρ} (g : ∀ a, RS c (k (eI a)) (M a) Q) : RS c (FK (put (dIndex (eTs eI xs) (eI i))) k) ((indexN xs i).ct M) Q := by
  refine rk_opt (f := eI) (fun a h => ?_) (fun x => ofO_ex x) g
  unfold indexN at h
  have h2 := ofO_ok h
  show (match intsOf (xs.map eI) with
    | some ns => (ns.findIdx? fun y => decide (y = i)).map fun (j : Nat) => PyData.int (j : Int)
    | none => none) = _
  rw [intsOf_map]
  simp only
  cases q : xs.findIdx? fun y => decide (y = i) with
  | none => rw [q] at h2; cases h2
  | some j => rw [q] at h2; cases h2; rfl
end
end NT
set_option Elab.async false
set_option linter.all false
set_option autoImplicit false
namespace NT
open PySem L2 DL LW
end NT
set_option Elab.async false
set_option linter.all false
set_option autoImplicit false
namespace NT
open PySem L2 DL LW
section
variable {α β σ τ l ρ : Type} {c : Sps} {Q : Qs σ l ρ}
def tryC (m : Ct σ l ρ) (h : Xc → Ct σ l ρ) : Ct σ l ρ := match m with
  | .ex x => h x
  | r => r
@[simp] theorem tryC_ex (x : Xc) (h : Xc → Ct σ l ρ) : tryC (.ex x) h = h x := rfl
@[simp] theorem tryC_nx (s : σ) (h : Xc → Ct σ l ρ) : tryC (.nx s) h = .nx s := rfl
@[simp] theorem tryC_rt (s : ρ) (h : Xc → Ct σ l ρ) : tryC (.rt s) h = .rt s := rfl
@[simp] theorem tryC_stuck (h : Xc → Ct σ l ρ) : tryC .stuck h = .stuck := rfl
def kindL (x : Xc) : List (Str × Option Str) → N Str
  | [] => .ex x
  | (n, w) :: r => if mtC n x.c = true then (match kindD x w with
    | some (.str s) => .ok s
    | _ => .stuck) else kindL x r
def kindT (x : Xc) (l : List (Str × Option Str)) : N Str := if x.c ∈ kNames then kindL x l else .stuck
theorem fits_setV {e : DEnv} {i : Nat} (he : Fits c e) (h : stb c i = true) (s : Sl) : setV i s e = some (e.set i s) := stb_at h he s
theorem rs_try {db b : DS} {iE iK : Nat} {hl : List (Str × Option Str)} {mb : Ct τ l ρ} {c1 : τ → Sps} {cx : Sps} {V : Str → τ} {K : τ → Ct σ l ρ}
    (hb : RS c db mb { nx := fun s e => Fits (c1 s) e, lp := Q.lp, rt := Q.rt, rl := Q.rl, ex := fun e => Fits cx e }) (hs : ∀ s, Sub ((cx.set iE .nw).set iK (.is (.v (.str s)))) (c1 (V s))) (g : ∀ s, RS (c1 s) b (K s) Q)
    (hx : ∀ e, Fits cx e → Q.ex e) (hE : stb cx iE = true := by rfl) (hK : stb (cx.set iE .nw) iK = true := by rfl) :
    RS c (sSeq (sTryK db iE iK hl) b) ((tryC mb fun x => (kindT x hl).ct fun s => .nx (V s)).sq K) Q := fun e he => by
  have hb := hb e he
  show R _ (match sTryK db iE iK hl e with
    | .nx e1 => b e1
    | r => r) Q
  unfold sTryK
  cases q : mb with
  | stuck => exact trivial
  | nx s =>
    rw [q] at hb
    obtain ⟨e1, h1, h2⟩ := hb
    rw [h1]
    exact g s e1 h2
  | rt r =>
    rw [q] at hb
    rcases hb with ⟨d, e1, h1, h2⟩ | ⟨d, e1, h1, h2⟩
    · rw [h1]; exact .inl ⟨d, e1, rfl, h2⟩
    · rw [h1]; exact .inr ⟨d, e1, rfl, h2⟩
  | bk s =>
    rw [q] at hb
    obtain ⟨e1, h1, h2⟩ := hb
    rw [h1]
    exact ⟨e1, rfl, h2⟩
  | ct s =>
    rw [q] at hb
    obtain ⟨e1, h1, h2⟩ := hb
    rw [h1]
    exact ⟨e1, rfl, h2⟩
  | ex x =>
    rw [q] at hb
    obtain ⟨e1, h1, h2⟩ := hb
    rw [h1, tryC_ex]
    unfold kindT
    by_cases hk : x.c ∈ kNames
    · simp only [if_pos hk]
      clear q h1
      induction hl with
      | nil => exact ⟨e1, rfl, hx e1 h2⟩
      | cons p r ih =>
        obtain ⟨n, w⟩ := p
        by_cases hm : mtC n x.c = true
        · unfold kindL tryH
          rw [if_pos hm, if_pos hm, fits_setV h2 hE]
          have h3 : Fits (cx.set iE .nw) (e1.set iE .no) := h2.set iE rfl
          cases q2 : kindD x w with
          | none => exact trivial
          | some y =>
            cases y with
            | str s =>
              simp only [fits_setV h3 hK]
              exact g (V s) _ ((h3.set iK (x := .is (.v (.str s))) rfl).sub (hs s))
            | _ => exact trivial
        · unfold kindL tryH
          rw [if_neg hm, if_neg hm]
          exact ih
    · simp only [if_neg hk]
      exact trivial
end
end NT
set_option Elab.async false
set_option linter.all false
set_option autoImplicit false
namespace NT
open PySem L2 DL LW
section
variable {α β : Type}
theorem shD_str {s : Str} (h : PyData.strOk s = true) (k : Nat) : shD k (eS s) := ⟨by simpa [PyData.canLay0] using h, by simp [PyData.depth]⟩
theorem eqN_typed [DecidableEq α] {f : α → D} [h : EqE f] {a b : α} {k : Nat} (ha : shD k (f a)) (hb : shD k (f b)) (hk : k ≤ 64 := by decide) : eqN (f a) (f b) = .ok (decide (a = b)) := by
  unfold eqN SeqAt.shaped
  rw [ha.1, hb.1, decide_eq_true (Nat.le_trans ha.2 hk), decide_eq_true (Nat.le_trans hb.2 hk)]
  simp only [Bool.and_self, and_self, if_true]
  congr 1
  rw [Bool.eq_iff_iff, h.eq, decide_eq_true_eq]
theorem sh_P2 {f : α → D} {g : β → D} {k : Nat} {p : α × β} (h1 : shD k (f p.1)) (h2 : shD k (g p.2)) : shD (k + 1) (eP2 f g p) := shD_tup (shA_cons h1 (shA_cons h2 shA_nil))
theorem sh_of {f : α → D} {k m : Nat} [s : ShE f k] (a : α) (h : k ≤ m := by decide) : shD m (f a) := shD_up h (s.sh a)
end
end NT
set_option Elab.async false
set_option linter.all false
set_option autoImplicit false
namespace NT
open PySem L2 DL LW
section
variable {α β γ σ τ l ρ : Type} {c : Sps} {m : Ct σ l ρ} {Q : Qs σ l ρ}
def eY (f : α → D) (g : β → D) : α ⊕ β → D
  | .inl a => f a
  | .inr b => g b
instance {f : α → D} {g : β → D} [h : NnE f] [i : NnE g] : NnE (eY f g) := ⟨fun a => by
  cases a
  · exact h.nn _
  · exact i.nn _⟩
end
end NT
set_option Elab.async false
set_option linter.all false
set_option autoImplicit false
namespace NT
open PySem L2 DL LW
end NT
set_option Elab.async false
set_option linter.all false
set_option maxRecDepth 100000
set_option autoImplicit false
set_option maxHeartbeats 4000000
namespace NT
open PySem L2 DL LW
section
variable {α β γ σ τ l ρ : Type} {c : Sps} {m : Ct σ l ρ} {Q : Qs σ l ρ}
def unL (x : α ⊕ β) : N α := match x with
  | .inl a => .ok a
  | .inr _ => .stuck
def unR (x : α ⊕ β) : N β := match x with
  | .inl _ => .stuck
  | .inr b => .ok b
@[simp] theorem unL_inl (a : α) : unL (.inl a : α ⊕ β) = .ok a := rfl
@[simp] theorem unR_inr (b : β) : unR (.inr b : α ⊕ β) = .ok b := rfl
end
end NT
set_option Elab.async false
set_option linter.all false
set_option autoImplicit false
namespace NT
open PySem L2 DL LW
section
variable {c : Sps}
def slotA (c : Sps) (i : Nat) : Option (List D) := match c[i]? with
  | some (.is (.l xs)) => some xs
  | some (.is (.p xs)) => some xs
  | some (.is (.v (.list xs))) => some xs
  | some (.is (.v (.tuple xs))) => some xs
  | _ => none
theorem ep_listA {xs : List D} {i : Nat} (h : slotA c i = some xs := by rfl) : EP c (lListA i) xs := fun e he => by
  unfold slotA at h
  unfold lListA seeA
  split at h <;> cases h
  all_goals
    rename_i q
    rw [he.is q]
end
structure Dd where
  w : Str
  h : Int
  o : Option Int
deriving DecidableEq
def eDd (d : Dd) : D := match d.o with
  | none => .tuple [.str d.w, .int d.h]
  | some x => .tuple [.str d.w, .int d.h, .int x]
def Dd.last (d : Dd) : Int := d.o.getD d.h
instance : NnE eDd := ⟨fun d h => by
  obtain ⟨w, i, o⟩ := d
  cases o <;> cases h⟩
instance : EqE eDd := ⟨fun a b => by
  obtain ⟨w, i, o⟩ := a
  obtain ⟨w2, i2, o2⟩ := b
  cases o <;> cases o2 <;> simp [eDd, PyData.eqv, PyData.eqvAll]⟩
end NT
set_option Elab.async false
set_option linter.all false
set_option autoImplicit false
namespace NT
open PySem L2 DL LW
section
variable {α β σ l ρ : Type} {c : Sps} {m : Ct σ l ρ} {Q : Qs σ l ρ}
theorem rk_seqS {de : DE} {k : List D → DEnv → Fl} (g : RS c (FK de fun d => FK (put (seqS d)) k) m Q) : RS c (FK (iSeqS de) k) m Q := rk_conv (fun e => by
  unfold FK iSeqS
  cases de e <;> rfl) g
theorem map_some {f : α → D} (ys : List α) : (ys.map some).map (eO f) = ys.map f := by rw [List.map_map]; rfl
end
end NT
set_option Elab.async false
set_option linter.all false
set_option autoImplicit false
namespace NT
open PySem L2 DL LW
instance : KeyE eS where
  key := .inr
  keyOf := fun _ => rfl
  kEq := fun a k => by
    show decide _ = _
    simp
  kD := fun _ => rfl
end NT
namespace NT
open PySem L2 DL LW
/-- what is known, written out -/
theorem rs_nf {σ l ρ : Type} {c c' : Sps} {f : DEnv → Fl} {m : Ct σ l ρ} {Q : Qs σ l ρ} (g : RS c' f m Q) (h : c = c' := by rfl) : RS c f m Q := h ▸ g
end NT
set_option Elab.async false
set_option linter.all false
set_option autoImplicit false
namespace NT
open PySem L2 DL LW
end NT
set_option Elab.async false
set_option linter.all false
set_option maxRecDepth 100000
set_option autoImplicit false
namespace NT
open PySem L2 DL LW
/-- a dict as data -/
abbrev eM {κ β : Type} (f : κ → D) (g : β → D) (kvs : List (κ × β)) : D := .dict (eKv f g kvs)
instance {κ β : Type} {f : κ → D} {g : β → D} : NnE (eM f g) := ⟨fun _ h => by cases h⟩
section
variable {α β σ τ l ρ : Type} {c : Sps} {m : Ct σ l ρ} {Q : Qs σ l ρ}
section
variable {κ : Type} [DecidableEq κ] {f : κ → D} {g : β → D} [ke : KeyE f]
def ownM (c : Sps) (i : Nat) : Bool := match c[i]? with
  | some (.is (.m _)) => true
  | _ => false
end
end
end NT
namespace NT
open PySem L2 DL LW
end NT
set_option Elab.async false
set_option linter.all false
set_option maxRecDepth 100000
set_option autoImplicit false
namespace NT
open PySem L2 DL LW
end NT
set_option Elab.async false
set_option linter.all false
set_option maxRecDepth 100000
set_option autoImplicit false
namespace NT
open PySem L2 DL LW
end NT
set_option Elab.async false
set_option linter.all false
set_option maxRecDepth 100000
set_option autoImplicit false
namespace NT
open PySem L2 DL LW
end NT
set_option Elab.async false
set_option linter.all false
set_option maxRecDepth 100000
set_option autoImplicit false
namespace NT
open PySem L2 DL LW
end NT
set_option Elab.async false
set_option linter.all false
set_option maxRecDepth 100000
set_option autoImplicit false
namespace NT
open PySem L2 DL LW
end NT
set_option Elab.async false
set_option linter.all false
set_option maxRecDepth 100000
set_option autoImplicit false
namespace NT
open PySem L2 DL LW
def lone (n : Int) : LO := [(.none, some n)]
end NT
set_option Elab.async false
set_option linter.all false
set_option maxRecDepth 100000
set_option autoImplicit false
namespace NT
open PySem L2 DL LW
end NT
set_option Elab.async false
set_option linter.all false
set_option maxRecDepth 100000
set_option autoImplicit false
namespace NT
open PySem L2 DL LW
section
variable {σ l ρ : Type} {c : Sps} {m : Ct σ l ρ} {Q : Qs σ l ρ} {cn x : Str} {i : Nat} {fs : List (Str × Tr)}
/-- the fields of the slot's object, by the spec -/
def objC (c : Sps) (cn : Str) (i : Nat) : Option (List (Str × Tr)) := match c[i]? with
  | some (.is (.t (.o c' fs))) => if c' = cn then some fs else none
  | some (.is (.u (.o c' fs))) => if c' = cn then some fs else none
  | _ => none
theorem objC_at (h : objC c cn i = some fs) {e : DEnv} (he : Fits c e) : objAt cn i e = some fs := by
  unfold objC at h
  split at h
  · rename_i q
    unfold objAt
    rw [he.is q]
    exact h
  · rename_i q
    unfold objAt
    rw [he.is q]
    exact h
  · cases h
theorem lstD_dL (xs : List D) : lstD (dL xs) = some xs := by
  show ((xs.map Tr.d).mapM fun t => match t with | .d d => some d | _ => none) = some xs
  induction xs with
  | nil => rfl
  | cons y ys ih => rw [List.map_cons, List.mapM_cons, ih]; rfl
theorem lstC_at {j : Nat} {xs : List D} (h : objC c cn i = some fs) (h1 : fIx x fs = some j) (h2 : fs[j]? = some (x, dL xs)) {e : DEnv} (he : Fits c e) : lstAt cn i x e = some (fs, j, xs) := by
  unfold lstAt
  rw [objC_at h he]
  simp only [h1, h2, lstD_dL]
  rfl
theorem ep_fldO {d : D} (h : objC c cn i = some fs) (h1 : fs.lookup x = some (.d d)) : EP c (eFldO cn i x) d := fun e he => by
  unfold eFldO
  rw [objC_at h he]
  simp only [h1]
theorem ep_flen {j : Nat} {xs : List D} (h : objC c cn i = some fs) (h1 : fIx x fs = some j) (h2 : fs[j]? = some (x, dL xs)) : EP c (eFLen cn i x) (.int xs.length) := fun e he => by
  unfold eFLen
  rw [lstC_at h h1 h2 he]
/-- out of the slot's sight -/
theorem hid_at {s : Sl} {de : DE} {d : D} (hc : c[i]? = some (.is s)) (hk : EP (c.set i (.is .no)) de d) {e : DEnv} (he : Fits c e) : hidE i de e = .ok d e := by
  have hi := he.is hc
  unfold hidE
  rw [hi]
  simp only
  rw [hk _ (he.set i rfl)]
  simp only [List.set_set]
  rw [set_same hi]
theorem rk_fix {s : Sl} {j : Nat} {xs : List D} {dk : DE} {d : D} {k : D → DEnv → Fl} (hc : c[i]? = some (.is s)) (hk : EP (c.set i (.is .no)) dk d) (h : objC c cn i = some fs) (h1 : fIx x fs = some j) (h2 : fs[j]? = some (x, dL xs)) (g : RS c (FK (put (dIx (.list xs) d)) k) m Q) : RS c (FK (eFIx cn i x dk) k) m Q := fun e he => by
  have := g e he
  unfold FK at this ⊢
  unfold eFIx
  rw [lstC_at h h1 h2 he]
  simp only
  rw [hid_at hc hk he, bind_ok]
  exact this
end
end NT
set_option Elab.async false
set_option linter.all false
set_option maxRecDepth 100000
set_option autoImplicit false
namespace NT
open PySem L2 DL LW
section
variable {σ l ρ : Type} {c : Sps} {m : Ct σ l ρ} {Q : Qs σ l ρ} {cn x : Str} {i : Nat} {fs : List (Str × Tr)}
/-- the spec with another object in the slot -/
def putC (c : Sps) (i : Nat) (T : Tr) : Sps := match c[i]? with
  | some (.is (.u _)) => c.set i (.is (.u T))
  | _ => c.set i (.is (.t T))
theorem putC_fits (h : objC c cn i = some fs) {T : Tr} {e : DEnv} (he : Fits c e) : Fits (putC c i T) (putTr i T e) := by
  unfold objC at h
  unfold putC putTr
  split at h
  · rename_i q
    rw [q, he.is q]
    exact he.set i rfl
  · rename_i q
    rw [q, he.is q]
    exact he.set i rfl
  · cases h
theorem objC_slot (h : objC c cn i = some fs) : ∃ s, c[i]? = some (.is s) := by
  unfold objC at h
  split at h
  · rename_i q; exact ⟨_, q⟩
  · rename_i q; exact ⟨_, q⟩
  · cases h
/-- self.x.m(e) -/
theorem rk_fm1 {j : Nat} {xs ys : List D} {f : List D → List D → Option (D × List D)} {de : DE} {d z : D} {k : D → DEnv → Fl} (hk : EP (c.set i (.is .no)) de d) (h : objC c cn i = some fs) (h1 : fIx x fs = some j) (h2 : fs[j]? = some (x, dL xs)) (hf : f xs [d] = some (z, ys)) (g : RS (putC c i (.o cn (fs.set j (x, dL ys)))) (k z) m Q) : RS c (FK (eFM1 cn i x f de) k) m Q := fun e he => by
  obtain ⟨s, hc⟩ := objC_slot h
  unfold FK eFM1
  rw [lstC_at h h1 h2 he]
  simp only
  rw [hid_at hc hk he, bind_ok]
  simp only [hf]
  exact g _ (putC_fits h he)
/-- self.x.m() -/
theorem rk_fm0 {j : Nat} {xs ys : List D} {f : List D → List D → Option (D × List D)} {z : D} {k : D → DEnv → Fl} (h : objC c cn i = some fs) (h1 : fIx x fs = some j) (h2 : fs[j]? = some (x, dL xs)) (hf : f xs [] = some (z, ys)) (g : RS (putC c i (.o cn (fs.set j (x, dL ys)))) (k z) m Q) : RS c (FK (eFM0 cn i x f) k) m Q := fun e he => by
  unfold FK eFM0
  rw [lstC_at h h1 h2 he]
  simp only [hf]
  exact g _ (putC_fits h he)
/-- self.x = e -/
theorem rs_fldK {t : Tr} {b : DS} (h : objC c cn i = some fs) (hl : fs.length < 1000) (g : RS (putC c i (.o cn (putFt x t fs))) b m Q) : RS c (fun e => match fldK cn i x t e with | .nx e => b e | r => r) m Q := fun e he => by
  show R m (match fldK cn i x t e with | .nx e => b e | r => r) Q
  unfold fldK
  rw [objC_at h he]
  simp only [if_pos hl]
  exact g _ (putC_fits h he)
end
end NT
set_option Elab.async false
set_option linter.all false
set_option maxRecDepth 100000
set_option autoImplicit false
namespace NT
open PySem L2 DL LW
section
variable {σ l ρ β : Type} {c : Sps} {m : Ct σ l ρ} {Q : Qs σ l ρ} {cn x mn : Str} {i np : Nat} {fs : List (Str × Tr)}
theorem rs_fldD {de : DE} {b : DS} (g : RS c (FK de fun d e => match fldK cn i x (.d d) e with | .nx e => b e | r => r) m Q) : RS c (sSeq (sFldD cn i x de) b) m Q := rk_conv (fun e => by
  unfold FK sSeq sFldD
  cases de e <;> rfl) g
theorem rs_fldL {dl : DA} {b : DS} (g : RS c (FK dl fun xs e => match fldK cn i x (dL xs) e with | .nx e => b e | r => r) m Q) : RS c (sSeq (sFldL cn i x dl) b) m Q := rk_conv (fun e => by
  unfold FK sSeq sFldL
  cases dl e <;> rfl) g
/-- x = C(..) -/
theorem rs_make {F : Df} {da : DA} {b : DS} (g : RS c (FK da fun ds e => match makeK cn i np F ds e with | .nx e => b e | r => r) m Q) : RS c (sSeq (sMake cn i np F da) b) m Q := rk_conv (fun e => by
  unfold FK sSeq sMake
  cases da e <;> rfl) g
theorem rk_make {F : Df} {ds : List D} {b : DS} {mF : N β} {v : β → D} {outs : β → DEnv} {enc : β → List (Str × Tr)} {M : β → Ct σ l ρ} (hf : RF mF (F (Sl.u (Tr.o cn []) :: ds.map Sl.v)) v outs) (hv : ∀ r, v r = .none) (ho : ∀ r, ((outs r)[0]? : Option Sl) = some (.u (.o cn (enc r)))) (g : ∀ r, RS (c.set i (.is (.t (.o cn (enc r))))) b (M r) Q) (hx : ∀ e, Fits c e → Q.ex e) (hn : ds.length + 1 = np) (hs : stb c i = true := by rfl) :
    RS c (fun e => match makeK cn i np F ds e with | .nx e => b e | r => r) (mF.ct M) Q := fun e he => by
  show R (mF.ct M) (match makeK cn i np F ds e with | .nx e => b e | r => r) Q
  unfold makeK
  rw [if_pos hn]
  cases mF with
  | stuck => exact trivial
  | ex x =>
    obtain ⟨o, ho⟩ := hf
    rw [ho]
    exact ⟨e, rfl, hx e he⟩
  | ok r =>
    have hf' : F (Sl.u (Tr.o cn []) :: ds.map Sl.v) = .ok (v r) (outs r) := hf
    rw [hf', hv r]
    simp only [ho r, if_true, stb_at hs he]
    exact g r _ (he.set i rfl)
/-- o.m(..) -/
theorem rk_meth {F : Df} {da : DAr} {k : D → DEnv → Fl} (h : objC c cn i = some fs) (h0 : (fIx mn fs).isNone = true) (g : RS c (FK da fun as e1 => (if lent i e1 = true ∧ as.length + 1 = np then (callD F (.s i :: as) e1).rs else .stuck).fl k) m Q) : RS c (FK (eMeth cn i mn np F da) k) m Q := fun e he => by
  have := g e he
  unfold FK at this ⊢
  unfold eMeth
  rw [objC_at h he]
  simp only [h0, if_true]
  rw [fl_bind]
  exact this
theorem rk_methK {F : Df} {as : List Ar} {k : D → DEnv → Fl} (h : objC c cn i = some fs) (hn : as.length + 1 = np) (g : RS c (callK np F k (.s i :: as)) m Q) : RS c (fun e1 => (if lent i e1 = true ∧ as.length + 1 = np then (callD F (.s i :: as) e1).rs else .stuck).fl k) m Q := fun e he => by
  have := g e he
  unfold callK at this
  rw [if_pos (show (Ar.s i :: as).length = np from hn)] at this
  have hl : lent i e = true := by
    unfold lent
    rcases objAt_some (objC_at h he) with q | q <;> rw [q] <;> rfl
  show R m ((if lent i e = true ∧ as.length + 1 = np then (callD F (.s i :: as) e).rs else .stuck).fl k) Q
  rw [if_pos ⟨hl, hn⟩]
  exact this
end
end NT
set_option Elab.async false
set_option linter.all false
set_option maxRecDepth 100000
set_option autoImplicit false
namespace NT
open PySem L2 DL LW
section
variable {α σ l ρ β : Type} {c : Sps} {m : Ct σ l ρ} {Q : Qs σ l ρ} {cn x : Str} {i np : Nat} {fs : List (Str × Tr)}
theorem objC_t (h : c[i]? = some (.is (.t (.o cn fs)))) : objC c cn i = some fs := by
  unfold objC
  rw [h]
  simp only [if_true]
theorem objC_u (h : c[i]? = some (.is (.u (.o cn fs)))) : objC c cn i = some fs := by
  unfold objC
  rw [h]
  simp only [if_true]
theorem ep_flenT {j : Nat} {f : α → D} {xs : List α} (h : objC c cn i = some fs) (h1 : fIx x fs = some j) (h2 : fs[j]? = some (x, dL (xs.map f))) : EP c (eFLen cn i x) (eI xs.length) := by
  have := ep_flen h h1 h2
  rw [List.length_map] at this
  exact this
theorem rk_fapp {j : Nat} {fe : α → D} {xs : List α} {a : α} {de : DE} {k : D → DEnv → Fl} {M : List α → Ct σ l ρ} (hk : EP (c.set i (.is .no)) de (fe a)) (h : objC c cn i = some fs) (h1 : fIx x fs = some j) (h2 : fs[j]? = some (x, dL (xs.map fe))) (g : ∀ ys : List α, RS (putC c i (.o cn (fs.set j (x, dL (ys.map fe))))) (k .none) (M ys) Q) : RS c (FK (eFM1 cn i x mAppend de) k) ((appN xs a).ct M) Q := by
  unfold appN
  by_cases q : xs.length < 100000
  · rw [if_pos q]
    refine rk_fm1 (z := .none) (ys := (xs ++ [a]).map fe) hk h h1 h2 ?_ (g _)
    show (if (xs.map fe).length < 100000 then some (PyData.none, xs.map fe ++ [fe a]) else none) = _
    rw [List.length_map, if_pos q]
    simp
  · rw [if_neg q]
    exact fun _ _ => trivial
theorem rk_fpop {j : Nat} {fe : α → D} {xs : List α} {k : D → DEnv → Fl} {M : α × List α → Ct σ l ρ} (h : objC c cn i = some fs) (h1 : fIx x fs = some j) (h2 : fs[j]? = some (x, dL (xs.map fe))) (g : ∀ p : α × List α, RS (putC c i (.o cn (fs.set j (x, dL (p.2.map fe))))) (k (fe p.1)) (M p) Q) : RS c (FK (eFM0 cn i x mPop) k) ((popN xs).ct M) Q := by
  unfold popN
  cases q : xs[xs.length - 1]? with
  | none => exact fun _ _ => trivial
  | some y =>
    refine rk_fm0 (z := fe y) (ys := xs.dropLast.map fe) h h1 h2 ?_ (g (y, xs.dropLast))
    show (match (xs.map fe)[(xs.map fe).length - 1]? with
      | some y => some (y, (xs.map fe).dropLast)
      | none => none) = _
    rw [List.length_map, List.getElem?_map, q]
    simp [List.map_dropLast]
def RFk (m : N ρ) (fo : Fo) (v : ρ → D) (outs : ρ → DEnv) (o0 : DEnv) : Prop := match m with
  | .ok r => fo = .ok (v r) (outs r)
  | .ex x => fo = .ex x o0
  | .stuck => True
theorem rk_callX {F : Df} {as : List Ar} {k : D → DEnv → Fl} {args : DEnv} {mF : N β} {v : β → D} {outs : β → DEnv} {o0 : DEnv} {M : β → Ct σ l ρ} (hf : RFk mF (F args) v outs o0) (g : ∀ r, RS (setBack c as (outs r)) (k (v r)) (M r) Q) (hx : ∀ e, Fits (setBack c as o0) e → Q.ex e) (ha : as.map (toC c) = args := by rfl) (hl : lentAll c as = true := by rfl) (hn : as.length = np := by rfl) (hd0 : nodupB (slotsOf as) = true := by rfl) : RS c (callK np F k as) (mF.ct M) Q := fun e he => by
  have hd := nodupB_ok hd0
  unfold callK callD
  rw [if_pos hn, if_pos hd, toC_at he as hl, ha]
  cases mF with
  | stuck => exact trivial
  | ok r =>
    have hf' : F args = .ok (v r) (outs r) := hf
    rw [hf']
    exact g r _ (back_fits he hl hd _)
  | ex x =>
    have hf' : F args = .ex x o0 := hf
    rw [hf']
    exact ⟨_, rfl, hx _ (back_fits he hl hd _)⟩
abbrev QFk (args : DEnv) (v : ρ → D) (outs : ρ → DEnv) (o0 : DEnv) : Qs Unit Unit ρ := { nx := fun _ _ => False, lp := fun _ _ => False, rt := fun r d e => d = v r ∧ outsOf args e = outs r, rl := fun _ _ _ => False, ex := fun e => outsOf args e = o0 }
abbrev QPk (args : DEnv) (outs : ρ → DEnv) (o0 : DEnv) : Qs ρ Unit ρ := { nx := fun r e => outsOf args e = outs r, lp := fun _ _ => False, rt := fun r d e => d = .none ∧ outsOf args e = outs r, rl := fun _ _ _ => False, ex := fun e => outsOf args e = o0 }
theorem rfk_of {n : Nat} {b : DS} {args : DEnv} {c0 : Sps} {m : Ct Unit Unit ρ} {v : ρ → D} {outs : ρ → DEnv} {o0 : DEnv} (h : RS c0 b m (QFk args v outs o0)) (hc : args.map Sp.is ++ List.replicate (n - args.length) Sp.nw = c0 := by rfl) : RFk m.fn (bodyF n b args) v outs o0 := by
  subst hc
  have h' := h _ (fits_init args (n - args.length))
  rw [bodyF_ap]
  cases m with
  | nx s => obtain ⟨_, _, f⟩ := h'; exact f.elim
  | bk s => obtain ⟨_, _, f⟩ := h'; exact f.elim
  | ct s => obtain ⟨_, _, f⟩ := h'; exact f.elim
  | stuck => exact trivial
  | ex x =>
    obtain ⟨e, q, f⟩ := h'
    rw [q]
    show Fo.ex x (outsOf args e) = .ex x o0
    rw [show outsOf args e = o0 from f]
  | rt r =>
    rcases h' with ⟨d, e', q, f1, f2⟩ | ⟨_, _, _, f⟩
    · rw [q]
      show Fo.ok d (outsOf args e') = .ok (v r) (outs r)
      rw [f1, f2]
    · exact f.elim
theorem rpk_of {n : Nat} {b : DS} {args : DEnv} {c0 : Sps} {m : Ct ρ Unit ρ} {outs : ρ → DEnv} {o0 : DEnv} (h : RS c0 b m (QPk args outs o0)) (hc : args.map Sp.is ++ List.replicate (n - args.length) Sp.nw = c0 := by rfl) : RFk m.fp (bodyF n b args) (fun _ => .none) outs o0 := by
  subst hc
  have h' := h _ (fits_init args (n - args.length))
  rw [bodyF_ap]
  cases m with
  | nx s =>
    obtain ⟨e, q, f⟩ := h'
    rw [q]
    show Fo.ok .none (outsOf args e) = .ok .none (outs s)
    rw [f]
  | bk s => obtain ⟨_, _, f⟩ := h'; exact f.elim
  | ct s => obtain ⟨_, _, f⟩ := h'; exact f.elim
  | stuck => exact trivial
  | ex x =>
    obtain ⟨e, q, f⟩ := h'
    rw [q]
    show Fo.ex x (outsOf args e) = .ex x o0
    rw [show outsOf args e = o0 from f]
  | rt r =>
    rcases h' with ⟨d, e', q, f1, f2⟩ | ⟨_, _, _, f⟩
    · rw [q]
      show Fo.ok d (outsOf args e') = .ok .none (outs r)
      rw [f1, f2]
    · exact f.elim
theorem rs_makeX {F : Df} {da : DA} {b : DS} (g : RS c (FK da fun ds e => match makeX cn np F ds e with | .nx e => b e | r => r) m Q) : RS c (sSeq (sMakeX cn np F da) b) m Q := rk_conv (fun e => by
  unfold FK sSeq sMakeX
  cases da e <;> rfl) g
theorem rk_makeX {F : Df} {ds : List D} {b : DS} {mF : N β} {v : β → D} {outs : β → DEnv} {M : β → Ct σ l ρ} (hf : RF mF (F (Sl.u (Tr.o cn []) :: ds.map Sl.v)) v outs) (hv : ∀ r, v r = .none) (g : ∀ r, RS c b (M r) Q) (hx : ∀ e, Fits c e → Q.ex e) (hn : ds.length + 1 = np) :
    RS c (fun e => match makeX cn np F ds e with | .nx e => b e | r => r) (mF.ct M) Q := fun e he => by
  show R (mF.ct M) (match makeX cn np F ds e with | .nx e => b e | r => r) Q
  unfold makeX
  rw [if_pos hn]
  cases mF with
  | stuck => exact trivial
  | ex x =>
    obtain ⟨o, ho⟩ := hf
    rw [ho]
    exact ⟨e, rfl, hx e he⟩
  | ok r =>
    have hf' : F (Sl.u (Tr.o cn []) :: ds.map Sl.v) = .ok (v r) (outs r) := hf
    rw [hf', hv r]
    exact g r _ he
end
end NT
set_option Elab.async false
set_option linter.all false
set_option maxRecDepth 100000
set_option autoImplicit false
namespace NT
open PySem L2 DL LW
section
variable {α σ l ρ : Type} {c : Sps} {m : Ct σ l ρ} {Q : Qs σ l ρ} {i : Nat}
theorem getC_see {xs : List D} (h : getC c i = some xs) {e : DEnv} (he : Fits c e) : seeL i e = some xs := by
  unfold getC at h
  unfold seeL
  split at h <;> cases h
  all_goals
    rename_i q
    rw [he.is q]
theorem ep_slA {pl ph : Pt} {lo hi : Option Int} {f : α → D} {xs : List α} (hl : EPp c pl lo) (hh : EPp c ph hi) (h : getC c i = some (xs.map f) := by rfl) : EP c (lSlA i pl ph) ((cutL xs lo hi).map f) := fun e he => by
  unfold lSlA lSlK
  rw [getC_see h he]
  simp only
  rw [hl e he, bind_ok, hh e he, bind_ok, getC_see h he]
  simp only
  rw [cutD_map]
def iabs (i : Int) : Int := if i < 0 then -i else i
theorem dPow_c {i j : Int} (h : powOk i j = true) : dPow (.int i) (.int j) = some (.int (i ^ j.toNat)) := if_pos h
end
end NT
set_option Elab.async false
set_option linter.all false
set_option maxRecDepth 100000
set_option maxHeartbeats 4000000
namespace NW
open PySem L2 DL LW NT
noncomputable section
def n__law_take (bag0 : (List Int)) (many0 : Int) : N (Int × (List Int)) := Ct.fn (
 (idx bag0 (0 : Int)).ct fun a0 =>
 (if (decide ((0 : Int) < a0)) = true then
 (idx bag0 (0 : Int)).ct fun a1 =>
 (modN a1 many0).ct fun n0 =>
 (idx bag0 (0 : Int)).ct fun a2 =>
 (divN a2 many0).ct fun n1 =>
 (setN bag0 (0 : Int) n1).ct fun bag1 =>
 .rt (n0, bag1) else
 (idx bag0 (1 : Int)).ct fun a3 =>
 (mulN a3 (48271 : Int)).ct fun n2 =>
 (modN n2 (2147483647 : Int)).ct fun n3 =>
 (setN bag0 (1 : Int) n3).ct fun bag2 =>
 (idx bag2 (1 : Int)).ct fun a4 =>
 (idx bag2 (1 : Int)).ct fun a5 =>
 (mulN a4 a5).ct fun n4 =>
 (modN n4 (2147483629 : Int)).ct fun n5 =>
 (divN n5 (64 : Int)).ct fun n6 =>
 (modN n6 many0).ct fun n7 =>
 .rt (n7, bag2)) : Ct Unit Unit (Int × (List Int)))
theorem rf__law_take (bag0 : (List Int)) (many0 : Int) : RF (n__law_take bag0 many0) (f__law_take [.p (List.map eI bag0), .v (eI many0)]) (fun r => (eI r.1)) (fun r => [.p (List.map eI r.2), .no]) := rf_of (n := 3) (b := b__law_take) (c0 := [.is (.p (List.map eI bag0)), .is (.v (eI many0)), .nw])
 (rs_if (rk_tst (rk_bin (rk_ixN (rk_pure (d := (eI (0 : Int))) ep_C  (rk_ixAt (d := ((eLs eI) bag0)) (rk_ixL (f := eI) (xs := bag0) fun a0 => (rk_pure (d := (eI (0 : Int))) ep_C  (rk_put rfl (rk_put rfl (rk_ifF (rs_assoc (rs_asg (rk_bin (rk_ixN (rk_pure (d := (eI (0 : Int))) ep_C  (rk_ixAt (d := ((eLs eI) bag0)) (rk_ixL (f := eI) (xs := bag0) fun a1 => (rk_pure (d := (eI many0)) (ep_var (d := (eI many0)) rfl)  (rk_mod fun n0 => (rk_asgN (rs_assoc (rs_setO (rk_bin (rk_ixN (rk_pure (d := (eI (0 : Int))) ep_C  (rk_ixAt (d := ((eLs eI) bag0)) (rk_ixL (f := eI) (xs := bag0) fun a2 => (rk_pure (d := (eI many0)) (ep_var (d := (eI many0)) rfl)  (rk_div fun n1 => (rk_kn (rk_pure (d := (eI (0 : Int))) ep_C  (rk_set (fe := eI) (a := n1) (xs := bag0) fun bag1 => (rs_nf (c' := [.is (.p (List.map eI bag1)), .is (.v (eI many0)), .is (.v (eI n0))]) (rs_ret (rk_pure (d := (eI n0)) (ep_var (d := (eI n0)) rfl)  (rk_ret (r := (n0, bag1)) fun _ he => ⟨rfl, outs_of rfl rfl he⟩)))))))))) rfl)))))))))) rfl)))))) (rs_nxs (rs_setO (rk_bin (rk_bin (rk_ixN (rk_pure (d := (eI (1 : Int))) ep_C  (rk_ixAt (d := ((eLs eI) bag0)) (rk_ixL (f := eI) (xs := bag0) fun a3 => (rk_pure (d := (eI (48271 : Int))) ep_C  (rk_mul fun n2 => (rk_pure (d := (eI (2147483647 : Int))) ep_C  (rk_mod fun n3 => (rk_kn (rk_pure (d := (eI (1 : Int))) ep_C  (rk_set (fe := eI) (a := n3) (xs := bag0) fun bag2 => (rs_nf (c' := [.is (.p (List.map eI bag2)), .is (.v (eI many0)), .nw]) (rs_last (rs_ret (rk_bin (rk_bin (rk_bin (rk_bin (rk_ixN (rk_pure (d := (eI (1 : Int))) ep_C  (rk_ixAt (d := ((eLs eI) bag2)) (rk_ixL (f := eI) (xs := bag2) fun a4 => (rk_ixN (rk_pure (d := (eI (1 : Int))) ep_C  (rk_ixAt (d := ((eLs eI) bag2)) (rk_ixL (f := eI) (xs := bag2) fun a5 => (rk_mul fun n4 => (rk_pure (d := (eI (2147483629 : Int))) ep_C  (rk_mod fun n5 => (rk_pure (d := (eI (64 : Int))) ep_C  (rk_div fun n6 => (rk_pure (d := (eI many0)) (ep_var (d := (eI many0)) rfl)  (rk_mod fun n7 => (rk_ret (r := (n7, bag2)) fun _ he => ⟨rfl, outs_of rfl rfl he⟩))))))))) rfl)))) rfl)))))))))))))))))) rfl)))))))))))) rfl))))))
def n__law_bag (script0 : (List Int)) (k0 : Int) : N (List Int) := Ct.fn (
 (Ct.sq ((if (decide (k0 < (script0.length : Int))) = true then
 (idx script0 k0).ct fun a0 =>
 (powN (10 : Int) (60 : Int)).ct fun n0 =>
 (powN (10 : Int) (60 : Int)).ct fun n1 =>
 (mulN n0 n1).ct fun n2 =>
 (modN a0 n2).ct fun n3 =>
 .nx n3 else
 .nx (0 : Int)) : Ct Int _ _) fun cell0 =>
 (powN (10 : Int) (18 : Int)).ct fun n4 =>
 (if (decide (cell0 < n4)) = true then
 (mulN cell0 (7919 : Int)).ct fun n5 =>
 (mulN (104729 : Int) k0).ct fun n6 =>
 (modN (n5 + n6) (2147483646 : Int)).ct fun n7 =>
 .rt [(0 : Int), ((1 : Int) + n7)] else
 (modN (cell0 + k0) (2147483646 : Int)).ct fun n8 =>
 .rt [cell0, ((1 : Int) + n8)])) : Ct Unit Unit (List Int))
theorem rf__law_bag (script0 : (List Int)) (k0 : Int) : RFl (n__law_bag script0 k0) (f__law_bag [.v ((eLs eI) script0), .v (eI k0)]) (fun r => List.map eI r) (fun r => [.no, .no]) := rfl_of (n := 3) (b := b__law_bag) (c0 := [.is (.v ((eLs eI) script0)), .is (.v (eI k0)), .nw])
 (rs_asg (rk_pure (d := (eI (0 : Int))) ep_C  (rk_asgN (rs_seq (c1 := fun cell0 => [.is (.v ((eLs eI) script0)), .is (.v (eI k0)), .is (.v (eI cell0))]) (rs_if0 (rk_pure (d := (decide (k0 < (script0.length : Int)))) (ep_tst (ep_bin (ep_var (d := (eI k0)) rfl) (ep_cb (ep_acons (ep_var (d := ((eLs eI) script0)) rfl) ep_anil) (len_L (f := eI) script0)) rfl)) (rk_ifF (rs_last (rs_asg (rk_bin (rk_ixN (rk_pure (d := (eI k0)) (ep_var (d := (eI k0)) rfl)  (rk_ixAt (d := ((eLs eI) script0)) (rk_ixL (f := eI) (xs := script0) fun a0 => (rk_bin (rk_bin (rk_pure (d := (eI (10 : Int))) ep_C  (rk_pure (d := (eI (60 : Int))) ep_C  (rk_pow fun n0 => (rk_bin (rk_pure (d := (eI (10 : Int))) ep_C  (rk_pure (d := (eI (60 : Int))) ep_C  (rk_pow fun n1 => (rk_mul fun n2 => (rk_mod fun n3 => (rk_asgN (rs_nx fun _ he => he.sub (sub_cons wk_is (sub_cons wk_is (sub_cons wk_is sub_nil))))))))))))))))) rfl)))))) (rs_nx fun _ he => he.sub (sub_cons wk_is (sub_cons wk_is (sub_cons wk_is sub_nil))))))) (fun cell0 => (rs_if (rk_tst (rk_bin (rk_pure (d := (eI cell0)) (ep_var (d := (eI cell0)) rfl)  (rk_bin (rk_pure (d := (eI (10 : Int))) ep_C  (rk_pure (d := (eI (18 : Int))) ep_C  (rk_pow fun n4 => (rk_put rfl (rk_put rfl (rk_ifF (rs_retL (rk_lst (rk_acons (rk_pure (d := (eI (0 : Int))) ep_C  (rk_acons (rk_bin (rk_pure (d := (eI (1 : Int))) ep_C  (rk_bin (rk_bin (rk_bin (rk_pure (d := (eI cell0)) (ep_var (d := (eI cell0)) rfl)  (rk_pure (d := (eI (7919 : Int))) ep_C  (rk_mul fun n5 => (rk_bin (rk_pure (d := (eI (104729 : Int))) ep_C  (rk_pure (d := (eI k0)) (ep_var (d := (eI k0)) rfl)  (rk_mul fun n6 => (rk_put rfl (rk_pure (d := (eI (2147483646 : Int))) ep_C  (rk_mod fun n7 => (rk_put rfl (rk_anil (rk_put (if_pos (Nat.le_of_ble_eq_true rfl)) (rk_retL (r := [(0 : Int), ((1 : Int) + n7)]) fun _ he => ⟨rfl, outs_of rfl rfl he⟩)))))))))))))))))))))))) (rs_nxs (rs_last (rs_retL (rk_lst (rk_acons (rk_pure (d := (eI cell0)) (ep_var (d := (eI cell0)) rfl)  (rk_acons (rk_bin (rk_pure (d := (eI (1 : Int))) ep_C  (rk_bin (rk_pure (d := (eI (cell0 + k0))) (ep_bin (ep_var (d := (eI cell0)) rfl) (ep_var (d := (eI k0)) rfl) rfl)  (rk_pure (d := (eI (2147483646 : Int))) ep_C  (rk_mod fun n8 => (rk_put rfl (rk_anil (rk_put (if_pos (Nat.le_of_ble_eq_true rfl)) (rk_retL (r := [cell0, ((1 : Int) + n8)]) fun _ he => ⟨rfl, outs_of rfl rfl he⟩)))))))))))))))))))))))))))))))))
def n__law_skin (bag0 : (List Int)) (most0 : Int) : N (((List Int) × (List (Option Int))) × (List Int)) := Ct.fn (
 (n__law_take bag0 most0).ct (P2 fun r0 bag1 =>
 (rngN ((1 : Int) + r0)).ct fun xs0 =>
 (forC (fun half0 => (P2 fun bag2 order0 =>
 ((n__law_take bag2 (half0 + (1 : Int))).ct (P2 fun r1 bag3 =>
 (insN order0 r1 half0).ct fun order1 =>
 .nx (bag3, order1)) : Ct ((List Int) × (List Int)) ((List Int) × (List Int)) _))) xs0 (bag1, ([] : (List Int)))).sq (P2 fun bag4 order2 =>
 (repN (0 : Int) ((1 : Int) + r0)).ct fun xs1 =>
 (n__law_take bag4 (6 : Int)).ct (P2 fun r2 bag5 =>
 (n__law_take bag5 (3 : Int)).ct (P2 fun r3 bag6 =>
 (idx [((1 : Int) + r2), (3 : Int), ((1 : Int) + r0)] r3).ct fun a0 =>
 (whileC ((P3 fun bag7 onward0 left0 => Ct.fn (.rt (!(decide (left0 = ([] : (List Int))))) : Ct Unit Unit Bool))) ((P3 fun bag7 onward0 left0 =>
 ((n__law_take bag7 a0).ct (P2 fun r4 bag8 =>
 (n__law_take bag8 (2 : Int)).ct (P2 fun r5 bag9 =>
 (idx [a0, ((1 : Int) + r4)] r5).ct fun a1 =>
 (rngN (imin (left0.length : Int) a1)).ct fun xs2 =>
 (forC (fun k0 => fun onward1 =>
 ((idx (cutL left0 none (some (imin (left0.length : Int) a1))) k0).ct fun a2 =>
 (idx (cutL left0 none (some (imin (left0.length : Int) a1))) (k0 - (1 : Int))).ct fun a3 =>
 (setN onward1 a3 a2).ct fun onward2 =>
 .nx onward2 : Ct (List Int) (List Int) _)) xs2 onward0).sq fun onward3 =>
 .nx (bag9, onward3, (cutL left0 (some (imin (left0.length : Int) a1)) none)))) : Ct ((List Int) × (List Int) × (List Int)) ((List Int) × (List Int) × (List Int)) _))) FUEL (bag6, xs1, order2)).sq (P3 fun bag10 onward4 left1 =>
 (repN none ((1 : Int) + r0)).ct fun xs3 =>
 (n__law_take bag10 (3 : Int)).ct (P2 fun r6 bag11 =>
 (idx [(2 : Int), (5 : Int), (99 : Int)] r6).ct fun a4 =>
 (rngL ((1 : Int) + r0)).ct fun xs4 =>
 (whileC ((P3 fun bag12 mates0 waiting0 => Ct.fn (.rt (decide ((1 : Int) < (waiting0.length : Int))) : Ct Unit Unit Bool))) ((P3 fun bag12 mates0 waiting0 =>
 ((n__law_take bag12 (waiting0.length : Int)).ct (P2 fun r7 bag13 =>
 (popAtN waiting0 r7).ct (P2 fun a5 waiting1 =>
 (n__law_take bag13 (waiting1.length : Int)).ct (P2 fun r8 bag14 =>
 (popAtN waiting1 r8).ct (P2 fun a6 waiting2 =>
 (n__law_take bag14 a4).ct (P2 fun r9 bag15 =>
 (if (decide ((0 : Int) < r9)) = true then
 (setN mates0 a5 (some a6)).ct fun mates1 =>
 (setN mates1 a6 (some a5)).ct fun mates2 =>
 .nx (bag15, mates2, waiting2) else
 .nx (bag15, mates0, waiting2))))))) : Ct ((List Int) × (List (Option Int)) × (List Int)) ((List Int) × (List (Option Int)) × (List Int)) _))) FUEL (bag11, xs3, xs4)).sq (P3 fun bag16 mates3 waiting3 =>
 .rt ((onward4, mates3), bag16)))))))) : Ct Unit Unit (((List Int) × (List (Option Int))) × (List Int)))
theorem rf__law_skin (bag0 : (List Int)) (most0 : Int) : RF (n__law_skin bag0 most0) (f__law_skin [.p (List.map eI bag0), .v (eI most0)]) (fun r => ((eP2 (eTs eI) (eTs (eO eI))) r.1)) (fun r => [.p (List.map eI r.2), .no]) := rf_of (n := 16) (b := b__law_skin) (c0 := [.is (.p (List.map eI bag0)), .is (.v (eI most0)), .nw, .nw, .nw, .nw, .nw, .nw, .nw, .nw, .nw, .nw, .nw, .nw, .nw, .nw])
 (rs_asg (rk_bin (rk_pure (d := (eI (1 : Int))) ep_C  (rk_callN (rk_lend (rk_rcons (rk_pure (d := (eI most0)) (ep_var (d := (eI most0)) rfl)  (rk_rnil (rk_lendK (rk_call (rf__law_take bag0 most0) (fun ⟨r0, bag1⟩ => (rk_put rfl (rk_asgN (rs_asgL (rk_pure (ep_lst ep_anil) (rk_asgL (rs_forK (rk_rng (j := ((1 : Int) + r0)) (ep_acons (ep_var (d := (eI ((1 : Int) + r0))) rfl) ep_anil) fun xs0 => (rs_for (fe := eI) (c0 := (P2 fun bag2 order0 => [.is (.p (List.map eI bag2)), .is (.v (eI most0)), .is (.v (eI ((1 : Int) + r0))), .is (.l (List.map eI order0)), .nw, .nw, .nw, .nw, .nw, .nw, .nw, .nw, .nw, .nw, .nw, .nw])) (c1 := fun half0 => (P2 fun bag2 order0 => [.is (.p (List.map eI bag2)), .is (.v (eI most0)), .is (.v (eI ((1 : Int) + r0))), .is (.l (List.map eI order0)), .is (.v (eI half0)), .nw, .nw, .nw, .nw, .nw, .nw, .nw, .nw, .nw, .nw, .nw])) (s0 := (bag1, ([] : (List Int)))) (sub_cons wk_is (sub_cons wk_is (sub_cons wk_is (sub_cons wk_is (sub_cons wk_nw (sub_cons wk_nw (sub_cons wk_nw (sub_cons wk_nw (sub_cons wk_nw (sub_cons wk_nw (sub_cons wk_nw (sub_cons wk_nw (sub_cons wk_nw (sub_cons wk_nw (sub_cons wk_nw (sub_cons wk_nw sub_nil)))))))))))))))) (fun _ ⟨bag2, order0⟩ => gs_N) (fun half0 ⟨bag2, order0⟩ => (rs_last (rs_drop (rk_mo (xs := List.map eI order0) (rk_acons (rk_callN (rk_lend (rk_rcons (rk_pure (d := (eI (half0 + (1 : Int)))) (ep_bin (ep_var (d := (eI half0)) rfl) ep_C rfl)  (rk_rnil (rk_lendK (rk_call (rf__law_take bag2 (half0 + (1 : Int))) (fun ⟨r1, bag3⟩ => (rk_acons (rk_pure (d := (eI half0)) (ep_var (d := (eI half0)) rfl)  (rk_anil (rk_ins (fe := eI) (xs := order0) (a := half0) fun order1 => (rs_nf (c' := [.is (.p (List.map eI bag3)), .is (.v (eI most0)), .is (.v (eI ((1 : Int) + r0))), .is (.l (List.map eI order1)), .is (.v (eI half0)), .nw, .nw, .nw, .nw, .nw, .nw, .nw, .nw, .nw, .nw, .nw]) (rs_nx fun _ he => he.sub (sub_cons wk_is (sub_cons wk_is (sub_cons wk_is (sub_cons wk_is (sub_cons wk_vnw (sub_cons wk_nw (sub_cons wk_nw (sub_cons wk_nw (sub_cons wk_nw (sub_cons wk_nw (sub_cons wk_nw (sub_cons wk_nw (sub_cons wk_nw (sub_cons wk_nw (sub_cons wk_nw (sub_cons wk_nw sub_nil))))))))))))))))))))))) (fun _ _ _ _ => trivial))))))))))))) (fun ⟨bag4, order2⟩ => (rs_asgL (rk_rep (f := eI) (a := (0 : Int)) (n := ((1 : Int) + r0)) (ep_lst (ep_acons ep_C ep_anil)) (ep_var (d := (eI ((1 : Int) + r0))) rfl) fun xs1 => (rk_asgL (rs_asg (rk_bin (rk_elst (rk_lst (rk_acons (rk_bin (rk_pure (d := (eI (1 : Int))) ep_C  (rk_callN (rk_lend (rk_rcons (rk_pure (d := (eI (6 : Int))) ep_C  (rk_rnil (rk_lendK (rk_call (rf__law_take bag4 (6 : Int)) (fun ⟨r2, bag5⟩ => (rk_put rfl (rk_acons (rk_pure (d := (eI (3 : Int))) ep_C  (rk_acons (rk_pure (d := (eI ((1 : Int) + r0))) (ep_var (d := (eI ((1 : Int) + r0))) rfl)  (rk_anil (rk_put (if_pos (Nat.le_of_ble_eq_true rfl)) (rk_callN (rk_lend (rk_rcons (rk_pure (d := (eI (3 : Int))) ep_C  (rk_rnil (rk_lendK (rk_call (rf__law_take bag5 (3 : Int)) (fun ⟨r3, bag6⟩ => (rk_ixL (f := eI) (xs := [((1 : Int) + r2), (3 : Int), ((1 : Int) + r0)]) fun a0 => (rk_asgN (rs_asg (rk_elst (rk_pure (ep_listA (xs := List.map eI order2) rfl) (rk_asgN (rs_while (c0 := (P3 fun bag7 onward0 left0 => [.is (.p (List.map eI bag7)), .is (.v (eI most0)), .is (.v (eI ((1 : Int) + r0))), .is (.l (List.map eI order2)), .nw, .is (.l (List.map eI onward0)), .is (.v (eI a0)), .is (.v ((eLs eI) left0)), .nw, .nw, .nw, .nw, .nw, .nw, .nw, .nw])) (s0 := (bag6, xs1, order2)) (sub_cons wk_is (sub_cons wk_is (sub_cons wk_is (sub_cons wk_is (sub_cons wk_nw (sub_cons wk_is (sub_cons wk_is (sub_cons wk_is (sub_cons wk_nw (sub_cons wk_nw (sub_cons wk_nw (sub_cons wk_nw (sub_cons wk_nw (sub_cons wk_nw (sub_cons wk_nw (sub_cons wk_nw sub_nil)))))))))))))))) (fun ⟨bag7, onward0, left0⟩ => rk_fnrt (v := eB) (c' := fun _ => [.is (.p (List.map eI bag7)), .is (.v (eI most0)), .is (.v (eI ((1 : Int) + r0))), .is (.l (List.map eI order2)), .nw, .is (.l (List.map eI onward0)), .is (.v (eI a0)), .is (.v ((eLs eI) left0)), .nw, .nw, .nw, .nw, .nw, .nw, .nw, .nw]) (rk_pure (d := (!(decide (left0 = ([] : (List Int)))))) (ep_tst (ep_bin (ep_var (d := ((eLs eI) left0)) rfl) (ep_elst (ep_lst ep_anil)) (ne_typed (f := (eLs eI)) left0 ([] : (List Int))))) (rk_retT fun _ he => ⟨rfl, he.sub (sub_cons wk_is (sub_cons wk_is (sub_cons wk_is (sub_cons wk_is (sub_cons wk_nw (sub_cons wk_is (sub_cons wk_is (sub_cons wk_is (sub_cons wk_nw (sub_cons wk_nw (sub_cons wk_nw (sub_cons wk_nw (sub_cons wk_nw (sub_cons wk_nw (sub_cons wk_nw (sub_cons wk_nw sub_nil))))))))))))))))⟩))) (fun ⟨bag7, onward0, left0⟩ => (rs_asg (rk_cb (rk_acons (rk_pure (d := (eI (left0.length : Int))) (ep_cb (ep_acons (ep_var (d := ((eLs eI) left0)) rfl) ep_anil) (len_L (f := eI) left0))  (rk_acons (rk_bin (rk_elst (rk_lst (rk_acons (rk_pure (d := (eI a0)) (ep_var (d := (eI a0)) rfl)  (rk_acons (rk_bin (rk_pure (d := (eI (1 : Int))) ep_C  (rk_callN (rk_lend (rk_rcons (rk_pure (d := (eI a0)) (ep_var (d := (eI a0)) rfl)  (rk_rnil (rk_lendK (rk_call (rf__law_take bag7 a0) (fun ⟨r4, bag8⟩ => (rk_put rfl (rk_anil (rk_put (if_pos (Nat.le_of_ble_eq_true rfl)) (rk_callN (rk_lend (rk_rcons (rk_pure (d := (eI (2 : Int))) ep_C  (rk_rnil (rk_lendK (rk_call (rf__law_take bag8 (2 : Int)) (fun ⟨r5, bag9⟩ => (rk_ixL (f := eI) (xs := [a0, ((1 : Int) + r4)]) fun a1 => (rk_anil (rk_put rfl (rk_asgN (rs_asg (rk_pure (d := ((eLs eI) (cutL left0 none (some (imin (left0.length : Int) a1))))) (ep_sl (ep_var (d := ((eLs eI) left0)) rfl) ep_ptN (ep_ptS (ep_var (d := (eI (imin (left0.length : Int) a1))) rfl)) (sl_L (f := eI) left0 none (some (imin (left0.length : Int) a1))))  (rk_asgN (rs_asg (rk_pure (d := ((eLs eI) (cutL left0 (some (imin (left0.length : Int) a1)) none))) (ep_sl (ep_var (d := ((eLs eI) left0)) rfl) (ep_ptS (ep_var (d := (eI (imin (left0.length : Int) a1))) rfl)) ep_ptN (sl_L (f := eI) left0 (some (imin (left0.length : Int) a1)) none))  (rk_asgN (rs_last (rs_forK (rk_rng (j := (imin (left0.length : Int) a1)) (ep_acons (ep_var (d := (eI (imin (left0.length : Int) a1))) rfl) ep_anil) fun xs2 => (rs_for (fe := eI) (c0 := fun onward1 => [.is (.p (List.map eI bag9)), .is (.v (eI most0)), .is (.v (eI ((1 : Int) + r0))), .is (.l (List.map eI order2)), .nw, .is (.l (List.map eI onward1)), .is (.v (eI a0)), .is (.v ((eLs eI) (cutL left0 (some (imin (left0.length : Int) a1)) none))), .is (.v (eI (imin (left0.length : Int) a1))), .is (.v ((eLs eI) (cutL left0 none (some (imin (left0.length : Int) a1))))), .nw, .nw, .nw, .nw, .nw, .nw]) (c1 := fun k0 => fun onward1 => [.is (.p (List.map eI bag9)), .is (.v (eI most0)), .is (.v (eI ((1 : Int) + r0))), .is (.l (List.map eI order2)), .nw, .is (.l (List.map eI onward1)), .is (.v (eI a0)), .is (.v ((eLs eI) (cutL left0 (some (imin (left0.length : Int) a1)) none))), .is (.v (eI (imin (left0.length : Int) a1))), .is (.v ((eLs eI) (cutL left0 none (some (imin (left0.length : Int) a1))))), .is (.v (eI k0)), .nw, .nw, .nw, .nw, .nw]) (s0 := onward0) (sub_cons wk_is (sub_cons wk_is (sub_cons wk_is (sub_cons wk_is (sub_cons wk_nw (sub_cons wk_is (sub_cons wk_is (sub_cons wk_is (sub_cons wk_is (sub_cons wk_is (sub_cons wk_nw (sub_cons wk_nw (sub_cons wk_nw (sub_cons wk_nw (sub_cons wk_nw (sub_cons wk_nw sub_nil)))))))))))))))) (fun _ onward1 => gs_N) (fun k0 onward1 => (rs_last (rs_setO (rk_ixN (rk_pure (d := (eI k0)) (ep_var (d := (eI k0)) rfl)  (rk_ixAt (d := ((eLs eI) (cutL left0 none (some (imin (left0.length : Int) a1))))) (rk_ixL (f := eI) (xs := (cutL left0 none (some (imin (left0.length : Int) a1)))) fun a2 => (rk_kn (rk_ixN (rk_pure (d := (eI (k0 - (1 : Int)))) (ep_bin (ep_var (d := (eI k0)) rfl) ep_C rfl)  (rk_ixAt (d := ((eLs eI) (cutL left0 none (some (imin (left0.length : Int) a1))))) (rk_ixL (f := eI) (xs := (cutL left0 none (some (imin (left0.length : Int) a1)))) fun a3 => (rk_set (fe := eI) (a := a2) (xs := onward1) fun onward2 => (rs_nf (c' := [.is (.p (List.map eI bag9)), .is (.v (eI most0)), .is (.v (eI ((1 : Int) + r0))), .is (.l (List.map eI order2)), .nw, .is (.l (List.map eI onward2)), .is (.v (eI a0)), .is (.v ((eLs eI) (cutL left0 (some (imin (left0.length : Int) a1)) none))), .is (.v (eI (imin (left0.length : Int) a1))), .is (.v ((eLs eI) (cutL left0 none (some (imin (left0.length : Int) a1))))), .is (.v (eI k0)), .nw, .nw, .nw, .nw, .nw]) (rs_nx fun _ he => he.sub (sub_cons wk_is (sub_cons wk_is (sub_cons wk_is (sub_cons wk_is (sub_cons wk_nw (sub_cons wk_is (sub_cons wk_is (sub_cons wk_is (sub_cons wk_is (sub_cons wk_is (sub_cons wk_vnw (sub_cons wk_nw (sub_cons wk_nw (sub_cons wk_nw (sub_cons wk_nw (sub_cons wk_nw sub_nil)))))))))))))))))))) rfl))))) rfl)))))) (fun onward3 => (rs_nx fun _ he => he.sub (sub_cons wk_is (sub_cons wk_is (sub_cons wk_is (sub_cons wk_is (sub_cons wk_nw (sub_cons wk_is (sub_cons wk_is (sub_cons wk_is (sub_cons wk_vnw (sub_cons wk_vnw (sub_cons wk_nw (sub_cons wk_nw (sub_cons wk_nw (sub_cons wk_nw (sub_cons wk_nw (sub_cons wk_nw sub_nil))))))))))))))))))))))))))))))))) (fun _ _ _ _ => trivial)))))))))))) (fun _ _ _ _ => trivial)))))))))))))))))))))) (fun ⟨bag10, onward4, left1⟩ => (rs_asgL (rk_rep (f := (eO eI)) (a := none) (n := ((1 : Int) + r0)) (ep_lst (ep_acons ep_C ep_anil)) (ep_var (d := (eI ((1 : Int) + r0))) rfl) fun xs3 => (rk_asgL (rs_asg (rk_bin (rk_pure (d := ((eLs eI) [(2 : Int), (5 : Int), (99 : Int)])) (ep_elst (ep_lst (ep_acons ep_C (ep_acons ep_C (ep_acons ep_C ep_anil)))))  (rk_callN (rk_lend (rk_rcons (rk_pure (d := (eI (3 : Int))) ep_C  (rk_rnil (rk_lendK (rk_call (rf__law_take bag10 (3 : Int)) (fun ⟨r6, bag11⟩ => (rk_ixL (f := eI) (xs := [(2 : Int), (5 : Int), (99 : Int)]) fun a4 => (rk_asgN (rs_asgL (rk_lrng (j := ((1 : Int) + r0)) (ep_var (d := (eI ((1 : Int) + r0))) rfl) fun xs4 => (rk_asgL (rs_while (c0 := (P3 fun bag12 mates0 waiting0 => [.is (.p (List.map eI bag12)), .is (.v (eI most0)), .is (.v (eI ((1 : Int) + r0))), .is (.l (List.map eI order2)), .nw, .is (.l (List.map eI onward4)), .is (.v (eI a0)), .is (.v ((eLs eI) left1)), .nw, .nw, .nw, .is (.l (List.map (eO eI) mates0)), .is (.v (eI a4)), .is (.l (List.map eI waiting0)), .nw, .nw])) (s0 := (bag11, xs3, xs4)) (sub_cons wk_is (sub_cons wk_is (sub_cons wk_is (sub_cons wk_is (sub_cons wk_nw (sub_cons wk_is (sub_cons wk_is (sub_cons wk_is (sub_cons wk_nw (sub_cons wk_nw (sub_cons wk_nw (sub_cons wk_is (sub_cons wk_is (sub_cons wk_is (sub_cons wk_nw (sub_cons wk_nw sub_nil)))))))))))))))) (fun ⟨bag12, mates0, waiting0⟩ => rk_fnrt (v := eB) (c' := fun _ => [.is (.p (List.map eI bag12)), .is (.v (eI most0)), .is (.v (eI ((1 : Int) + r0))), .is (.l (List.map eI order2)), .nw, .is (.l (List.map eI onward4)), .is (.v (eI a0)), .is (.v ((eLs eI) left1)), .nw, .nw, .nw, .is (.l (List.map (eO eI) mates0)), .is (.v (eI a4)), .is (.l (List.map eI waiting0)), .nw, .nw]) (rk_pure (d := (decide ((1 : Int) < (waiting0.length : Int)))) (ep_tst (ep_bin (ep_lenO (f := eI) (xs := waiting0) rfl) ep_C rfl)) (rk_retT fun _ he => ⟨rfl, he.sub (sub_cons wk_is (sub_cons wk_is (sub_cons wk_is (sub_cons wk_is (sub_cons wk_nw (sub_cons wk_is (sub_cons wk_is (sub_cons wk_is (sub_cons wk_nw (sub_cons wk_nw (sub_cons wk_nw (sub_cons wk_is (sub_cons wk_is (sub_cons wk_is (sub_cons wk_nw (sub_cons wk_nw sub_nil))))))))))))))))⟩))) (fun ⟨bag12, mates0, waiting0⟩ => (rs_asg (rk_mo (xs := List.map eI waiting0) (rk_acons (rk_callN (rk_lend (rk_rcons (rk_pure (d := (eI (waiting0.length : Int))) (ep_lenO (f := eI) (xs := waiting0) rfl)  (rk_rnil (rk_lendK (rk_call (rf__law_take bag12 (waiting0.length : Int)) (fun ⟨r7, bag13⟩ => (rk_anil (rk_popAt (fe := eI) (xs := waiting0) fun ⟨a5, waiting1⟩ => (rs_nf (c' := [.is (.p (List.map eI bag13)), .is (.v (eI most0)), .is (.v (eI ((1 : Int) + r0))), .is (.l (List.map eI order2)), .nw, .is (.l (List.map eI onward4)), .is (.v (eI a0)), .is (.v ((eLs eI) left1)), .nw, .nw, .nw, .is (.l (List.map (eO eI) mates0)), .is (.v (eI a4)), .is (.l (List.map eI waiting1)), .nw, .nw]) (rk_asgN (rs_asg (rk_mo (xs := List.map eI waiting1) (rk_acons (rk_callN (rk_lend (rk_rcons (rk_pure (d := (eI (waiting1.length : Int))) (ep_lenO (f := eI) (xs := waiting1) rfl)  (rk_rnil (rk_lendK (rk_call (rf__law_take bag13 (waiting1.length : Int)) (fun ⟨r8, bag14⟩ => (rk_anil (rk_popAt (fe := eI) (xs := waiting1) fun ⟨a6, waiting2⟩ => (rs_nf (c' := [.is (.p (List.map eI bag14)), .is (.v (eI most0)), .is (.v (eI ((1 : Int) + r0))), .is (.l (List.map eI order2)), .nw, .is (.l (List.map eI onward4)), .is (.v (eI a0)), .is (.v ((eLs eI) left1)), .nw, .nw, .nw, .is (.l (List.map (eO eI) mates0)), .is (.v (eI a4)), .is (.l (List.map eI waiting2)), .is (.v (eI a5)), .nw]) (rk_asgN (rs_last (rs_if (rk_tst (rk_bin (rk_callN (rk_lend (rk_rcons (rk_pure (d := (eI a4)) (ep_var (d := (eI a4)) rfl)  (rk_rnil (rk_lendK (rk_call (rf__law_take bag14 a4) (fun ⟨r9, bag15⟩ => (rk_pure (d := (eI (0 : Int))) ep_C  (rk_put rfl (rk_put rfl (rk_ifF (rs_assoc (rs_setO (rk_pure (d := ((eO eI) (some a6))) (ep_var (d := (eI a6)) rfl)  (rk_kn (rk_pure (d := (eI a5)) (ep_var (d := (eI a5)) rfl)  (rk_set (fe := (eO eI)) (a := (some a6)) (xs := mates0) fun mates1 => (rs_nf (c' := [.is (.p (List.map eI bag15)), .is (.v (eI most0)), .is (.v (eI ((1 : Int) + r0))), .is (.l (List.map eI order2)), .nw, .is (.l (List.map eI onward4)), .is (.v (eI a0)), .is (.v ((eLs eI) left1)), .nw, .nw, .nw, .is (.l (List.map (eO eI) mates1)), .is (.v (eI a4)), .is (.l (List.map eI waiting2)), .is (.v (eI a5)), .is (.v (eI a6))]) (rs_setO (rk_pure (d := ((eO eI) (some a5))) (ep_var (d := (eI a5)) rfl)  (rk_kn (rk_pure (d := (eI a6)) (ep_var (d := (eI a6)) rfl)  (rk_set (fe := (eO eI)) (a := (some a5)) (xs := mates1) fun mates2 => (rs_nf (c' := [.is (.p (List.map eI bag15)), .is (.v (eI most0)), .is (.v (eI ((1 : Int) + r0))), .is (.l (List.map eI order2)), .nw, .is (.l (List.map eI onward4)), .is (.v (eI a0)), .is (.v ((eLs eI) left1)), .nw, .nw, .nw, .is (.l (List.map (eO eI) mates2)), .is (.v (eI a4)), .is (.l (List.map eI waiting2)), .is (.v (eI a5)), .is (.v (eI a6))]) (rs_nx fun _ he => he.sub (sub_cons wk_is (sub_cons wk_is (sub_cons wk_is (sub_cons wk_is (sub_cons wk_nw (sub_cons wk_is (sub_cons wk_is (sub_cons wk_is (sub_cons wk_nw (sub_cons wk_nw (sub_cons wk_nw (sub_cons wk_is (sub_cons wk_is (sub_cons wk_is (sub_cons wk_vnw (sub_cons wk_vnw sub_nil)))))))))))))))))))))))))))))) (rs_nxs (rs_nx fun _ he => he.sub (sub_cons wk_is (sub_cons wk_is (sub_cons wk_is (sub_cons wk_is (sub_cons wk_nw (sub_cons wk_is (sub_cons wk_is (sub_cons wk_is (sub_cons wk_nw (sub_cons wk_nw (sub_cons wk_nw (sub_cons wk_is (sub_cons wk_is (sub_cons wk_is (sub_cons wk_vnw (sub_cons wk_vnw sub_nil))))))))))))))))))))))) (fun _ _ _ _ => trivial))))))))))))))))) (fun _ _ _ _ => trivial)))))))))))))))) (fun _ _ _ _ => trivial)))))))))))) (fun ⟨bag16, mates3, waiting3⟩ => (rs_last (rs_ret (rk_pure (d := ((eP2 (eTs eI) (eTs (eO eI))) (onward4, mates3))) (ep_tup (ep_acons (ep_tupO (xs := List.map eI onward4) rfl) (ep_acons (ep_tupO (xs := List.map (eO eI) mates3) rfl) ep_anil)))  (rk_ret (r := ((onward4, mates3), bag16)) fun _ he => ⟨rfl, outs_of rfl rfl he⟩)))))))))))) (fun _ _ _ _ => trivial))))))))))))))))))))))) (fun _ _ _ _ => trivial)))))))))))))))) (fun _ _ _ _ => trivial)))))))))))))))))))))))))))) (fun _ _ _ _ => trivial)))))))))))
def n_look_at_half (skin0 : ((List Int) × (List (Option Int)))) (half0 : Int) : N Unit := Ct.fp (
 (if ((decide (half0 < (0 : Int))) || (decide ((skin0.1.length : Int) ≤ half0))) = true then
 .ex ⟨"NoHalf", none⟩ else
 .nx ()) : Ct Unit Unit Unit)
theorem rf_look_at_half (skin0 : ((List Int) × (List (Option Int)))) (half0 : Int) : RF (n_look_at_half skin0 half0) (f_look_at_half [.v ((eP2 (eTs eI) (eTs (eO eI))) skin0), .v (eI half0)]) (fun _ => PyData.none) (fun r => [.no, .no]) := rp_of (n := 2) (b := b_look_at_half) (c0 := [.is (.v ((eP2 (eTs eI) (eTs (eO eI))) skin0)), .is (.v (eI half0))])
 (rs_last (rs_if (rk_pure (d := ((decide (half0 < (0 : Int))) || (decide ((skin0.1.length : Int) ≤ half0)))) (ep_orT (ep_tst (ep_bin (ep_var (d := (eI half0)) rfl) ep_C rfl)) (ep_tst (ep_bin (ep_var (d := (eI half0)) rfl) (ep_cb (ep_acons (ep_ixN (d := ((eP2 (eTs eI) (eTs (eO eI))) skin0)) ep_C rfl rfl) ep_anil) (len_T (f := eI) skin0.1)) rfl))) (rk_ifF (rs_raise fun _ _ => trivial) (rs_nxs (rs_nx fun _ he => outs_of rfl rfl he))))))
def n_ahead_of (skin0 : ((List Int) × (List (Option Int)))) (half0 : Int) : N Int := Ct.fn (
 (n_look_at_half skin0 half0).ct fun u0 =>
 (indexN skin0.1 half0).ct fun i0 =>
 .rt i0 : Ct Unit Unit Int)
theorem rf_ahead_of (skin0 : ((List Int) × (List (Option Int)))) (half0 : Int) : RF (n_ahead_of skin0 half0) (f_ahead_of [.v ((eP2 (eTs eI) (eTs (eO eI))) skin0), .v (eI half0)]) (fun r => (eI r)) (fun r => [.no, .no]) := rf_of (n := 2) (b := b_ahead_of) (c0 := [.is (.v ((eP2 (eTs eI) (eTs (eO eI))) skin0)), .is (.v (eI half0))])
 (rs_drop (rk_callN (rk_rcons (rk_pure (d := ((eP2 (eTs eI) (eTs (eO eI))) skin0)) (ep_var (d := ((eP2 (eTs eI) (eTs (eO eI))) skin0)) rfl)  (rk_rcons (rk_pure (d := (eI half0)) (ep_var (d := (eI half0)) rfl)  (rk_rnil (rk_call (rf_look_at_half skin0 half0) (fun u0 => (rs_last (rs_ret (rk_index (rk_pure (d := ((eTs eI) skin0.1)) (ep_ixN (d := ((eP2 (eTs eI) (eTs (eO eI))) skin0)) ep_C rfl rfl)  (rk_idxT (rk_pure (d := (eI half0)) (ep_var (d := (eI half0)) rfl)  (rk_idxP (xs := skin0.1) (i := half0) fun i0 => (rk_ret (r := i0) fun _ he => ⟨rfl, outs_of rfl rfl he⟩))))))))) (fun _ _ _ _ => trivial)))))))))
def n_left_of (skin0 : ((List Int) × (List (Option Int)))) (half0 : Int) : N (Option Int) := Ct.fn (
 (n_ahead_of skin0 half0).ct fun r0 =>
 (idx skin0.2 r0).ct fun a0 =>
 .rt a0 : Ct Unit Unit (Option Int))
theorem rf_left_of (skin0 : ((List Int) × (List (Option Int)))) (half0 : Int) : RF (n_left_of skin0 half0) (f_left_of [.v ((eP2 (eTs eI) (eTs (eO eI))) skin0), .v (eI half0)]) (fun r => ((eO eI) r)) (fun r => [.no, .no]) := rf_of (n := 2) (b := b_left_of) (c0 := [.is (.v ((eP2 (eTs eI) (eTs (eO eI))) skin0)), .is (.v (eI half0))])
 (rs_last (rs_ret (rk_bin (rk_pure (d := ((eTs (eO eI)) skin0.2)) (ep_ixN (d := ((eP2 (eTs eI) (eTs (eO eI))) skin0)) ep_C rfl rfl)  (rk_callN (rk_rcons (rk_pure (d := ((eP2 (eTs eI) (eTs (eO eI))) skin0)) (ep_var (d := ((eP2 (eTs eI) (eTs (eO eI))) skin0)) rfl)  (rk_rcons (rk_pure (d := (eI half0)) (ep_var (d := (eI half0)) rfl)  (rk_rnil (rk_call (rf_ahead_of skin0 half0) (fun r0 => (rk_ixT (f := (eO eI)) (xs := skin0.2) fun a0 => (rk_ret (r := a0) fun _ he => ⟨rfl, outs_of rfl rfl he⟩))) (fun _ _ _ _ => trivial))))))))))))
def n_right_of (skin0 : ((List Int) × (List (Option Int)))) (half0 : Int) : N (Option Int) := Ct.fn (
 (n_look_at_half skin0 half0).ct fun u0 =>
 (idx skin0.2 half0).ct fun a0 =>
 (optC a0
 (.rt none)
 (fun mate0 => (idx skin0.1 mate0).ct fun a1 =>
 .rt (some a1))) : Ct Unit Unit (Option Int))
theorem rf_right_of (skin0 : ((List Int) × (List (Option Int)))) (half0 : Int) : RF (n_right_of skin0 half0) (f_right_of [.v ((eP2 (eTs eI) (eTs (eO eI))) skin0), .v (eI half0)]) (fun r => ((eO eI) r)) (fun r => [.no, .no]) := rf_of (n := 3) (b := b_right_of) (c0 := [.is (.v ((eP2 (eTs eI) (eTs (eO eI))) skin0)), .is (.v (eI half0)), .nw])
 (rs_drop (rk_callN (rk_rcons (rk_pure (d := ((eP2 (eTs eI) (eTs (eO eI))) skin0)) (ep_var (d := ((eP2 (eTs eI) (eTs (eO eI))) skin0)) rfl)  (rk_rcons (rk_pure (d := (eI half0)) (ep_var (d := (eI half0)) rfl)  (rk_rnil (rk_call (rf_look_at_half skin0 half0) (fun u0 => (rs_asg (rk_bin (rk_pure (d := ((eTs (eO eI)) skin0.2)) (ep_ixN (d := ((eP2 (eTs eI) (eTs (eO eI))) skin0)) ep_C rfl rfl)  (rk_pure (d := (eI half0)) (ep_var (d := (eI half0)) rfl)  (rk_ixT (f := (eO eI)) (xs := skin0.2) fun a0 => (rk_asgN (rs_if (by apply rs_opt (x := a0); exact (rk_pure (d := true) (ep_tst (ep_bin (ep_var (d := ((eO eI) none)) rfl) ep_C (is_none (f := eI) none))) (rs_ret (rk_pure (d := ((eO eI) none)) ep_C  (rk_ret (r := none) fun _ he => ⟨rfl, outs_of rfl rfl he⟩)))); exact (fun mate0 => rk_pure (d := false) (ep_tst (ep_bin (ep_var (d := (eI mate0)) rfl) ep_C rfl)) (rs_nxs (rs_last (rs_ret (rk_bin (rk_pure (d := ((eTs eI) skin0.1)) (ep_ixN (d := ((eP2 (eTs eI) (eTs (eO eI))) skin0)) ep_C rfl rfl)  (rk_pure (d := (eI mate0)) (ep_var (d := (eI mate0)) rfl)  (rk_ixT (f := eI) (xs := skin0.1) fun a1 => (rk_ret (r := (some a1)) fun _ he => ⟨rfl, outs_of rfl rfl he⟩)))))))))))))))))) (fun _ _ _ _ => trivial)))))))))
def n_patch_of (skin0 : ((List Int) × (List (Option Int)))) (half0 : Int) : N (List Int) := Ct.fn (
 (n_look_at_half skin0 half0).ct fun u0 =>
 (idx skin0.1 half0).ct fun a0 =>
 (whileC ((P2 fun found0 at0 => Ct.fn (.rt (!(decide (at0 = half0))) : Ct Unit Unit Bool))) ((P2 fun found0 at0 =>
 ((appN found0 at0).ct fun found1 =>
 (idx skin0.1 at0).ct fun a1 =>
 .nx (found1, a1) : Ct ((List Int) × Int) ((List Int) × Int) _))) FUEL ([half0], a0)).sq (P2 fun found2 at1 =>
 .rt found2) : Ct Unit Unit (List Int))
theorem rf_patch_of (skin0 : ((List Int) × (List (Option Int)))) (half0 : Int) : RF (n_patch_of skin0 half0) (f_patch_of [.v ((eP2 (eTs eI) (eTs (eO eI))) skin0), .v (eI half0)]) (fun r => ((eTs eI) r)) (fun r => [.no, .no]) := rf_of (n := 4) (b := b_patch_of) (c0 := [.is (.v ((eP2 (eTs eI) (eTs (eO eI))) skin0)), .is (.v (eI half0)), .nw, .nw])
 (rs_drop (rk_callN (rk_rcons (rk_pure (d := ((eP2 (eTs eI) (eTs (eO eI))) skin0)) (ep_var (d := ((eP2 (eTs eI) (eTs (eO eI))) skin0)) rfl)  (rk_rcons (rk_pure (d := (eI half0)) (ep_var (d := (eI half0)) rfl)  (rk_rnil (rk_call (rf_look_at_half skin0 half0) (fun u0 => (rs_asgL (rk_pure (ep_lst (ep_acons (ep_var (d := (eI half0)) rfl) ep_anil)) (rk_asgL (rs_asg (rk_bin (rk_pure (d := ((eTs eI) skin0.1)) (ep_ixN (d := ((eP2 (eTs eI) (eTs (eO eI))) skin0)) ep_C rfl rfl)  (rk_pure (d := (eI half0)) (ep_var (d := (eI half0)) rfl)  (rk_ixT (f := eI) (xs := skin0.1) fun a0 => (rk_asgN (rs_while (c0 := (P2 fun found0 at0 => [.is (.v ((eP2 (eTs eI) (eTs (eO eI))) skin0)), .is (.v (eI half0)), .is (.l (List.map eI found0)), .is (.v (eI at0))])) (s0 := ([half0], a0)) (sub_cons wk_is (sub_cons wk_is (sub_cons wk_is (sub_cons wk_is sub_nil)))) (fun ⟨found0, at0⟩ => rk_fnrt (v := eB) (c' := fun _ => [.is (.v ((eP2 (eTs eI) (eTs (eO eI))) skin0)), .is (.v (eI half0)), .is (.l (List.map eI found0)), .is (.v (eI at0))]) (rk_pure (d := (!(decide (at0 = half0)))) (ep_tst (ep_bin (ep_var (d := (eI at0)) rfl) (ep_var (d := (eI half0)) rfl) (ne_typed (f := eI) at0 half0))) (rk_retT fun _ he => ⟨rfl, he.sub (sub_cons wk_is (sub_cons wk_is (sub_cons wk_is (sub_cons wk_is sub_nil))))⟩))) (fun ⟨found0, at0⟩ => (rs_drop (rk_mo (xs := List.map eI found0) (rk_acons (rk_pure (d := (eI at0)) (ep_var (d := (eI at0)) rfl)  (rk_anil (rk_app (fe := eI) (xs := found0) (a := at0) fun found1 => (rs_nf (c' := [.is (.v ((eP2 (eTs eI) (eTs (eO eI))) skin0)), .is (.v (eI half0)), .is (.l (List.map eI found1)), .is (.v (eI at0))]) (rs_last (rs_asg (rk_bin (rk_pure (d := ((eTs eI) skin0.1)) (ep_ixN (d := ((eP2 (eTs eI) (eTs (eO eI))) skin0)) ep_C rfl rfl)  (rk_pure (d := (eI at0)) (ep_var (d := (eI at0)) rfl)  (rk_ixT (f := eI) (xs := skin0.1) fun a1 => (rk_asgN (rs_nx fun _ he => he.sub (sub_cons wk_is (sub_cons wk_is (sub_cons wk_is (sub_cons wk_is sub_nil)))))))))))))))))))) (fun ⟨found2, at1⟩ => (rs_last (rs_ret (rk_pure (d := ((eTs eI) found2)) (ep_tupO (xs := List.map eI found2) rfl)  (rk_ret (r := found2) fun _ he => ⟨rfl, outs_of rfl rfl he⟩)))))))))))))))) (fun _ _ _ _ => trivial)))))))))
def n_round_knot (skin0 : ((List Int) × (List (Option Int)))) (half0 : Int) : N (List Int) := Ct.fn (
 (n_right_of skin0 half0).ct fun r0 =>
 (whileC ((P2 fun first0 at0 => Ct.fn (.rt (optC at0 false (fun at1 => (!(decide (at1 = half0))))) : Ct Unit Unit Bool))) ((P2 fun first0 at0 =>
 ((unw at0).ct fun at00 =>
 (n_right_of skin0 at00).ct fun r1 =>
 .nx (at00, r1) : Ct (Int × (Option Int)) (Int × (Option Int)) _))) FUEL (half0, r0)).sq (P2 fun first1 at2 =>
 (Ct.sq ((if (decide (at2 = (some half0))) = true then
 .nx half0 else
 .nx first1) : Ct Int _ _) fun first2 =>
 (n_left_of skin0 first2).ct fun r2 =>
 (whileC ((P2 fun at3 found0 => Ct.fn (.rt (optC at3 false (fun at4 => (!(decide (at4 = first2))))) : Ct Unit Unit Bool))) ((P2 fun at3 found0 =>
 ((unw at3).ct fun at30 =>
 (appN found0 at30).ct fun found1 =>
 (n_left_of skin0 at30).ct fun r3 =>
 .nx (r3, found1) : Ct ((Option Int) × (List Int)) ((Option Int) × (List Int)) _))) FUEL (r2, [first2])).sq (P2 fun at5 found2 =>
 .rt found2))) : Ct Unit Unit (List Int))
theorem rf_round_knot (skin0 : ((List Int) × (List (Option Int)))) (half0 : Int) : RF (n_round_knot skin0 half0) (f_round_knot [.v ((eP2 (eTs eI) (eTs (eO eI))) skin0), .v (eI half0)]) (fun r => ((eTs eI) r)) (fun r => [.no, .no]) := rf_of (n := 5) (b := b_round_knot) (c0 := [.is (.v ((eP2 (eTs eI) (eTs (eO eI))) skin0)), .is (.v (eI half0)), .nw, .nw, .nw])
 (rs_asg (rk_pure (d := (eI half0)) (ep_var (d := (eI half0)) rfl)  (rk_asgN (rs_asg (rk_callN (rk_rcons (rk_pure (d := ((eP2 (eTs eI) (eTs (eO eI))) skin0)) (ep_var (d := ((eP2 (eTs eI) (eTs (eO eI))) skin0)) rfl)  (rk_rcons (rk_pure (d := (eI half0)) (ep_var (d := (eI half0)) rfl)  (rk_rnil (rk_call (rf_right_of skin0 half0) (fun r0 => (rk_asgN (rs_while (c0 := (P2 fun first0 at0 => [.is (.v ((eP2 (eTs eI) (eTs (eO eI))) skin0)), .is (.v (eI half0)), .is (.v (eI first0)), .is (.v ((eO eI) at0)), .nw])) (s0 := (half0, r0)) (sub_cons wk_is (sub_cons wk_is (sub_cons wk_is (sub_cons wk_is (sub_cons wk_nw sub_nil))))) (fun ⟨first0, at0⟩ => rk_fnrt (v := eB) (c' := fun _ => [.is (.v ((eP2 (eTs eI) (eTs (eO eI))) skin0)), .is (.v (eI half0)), .is (.v (eI first0)), .is (.v ((eO eI) at0)), .nw]) (rk_pure (d := (optC at0 false (fun at1 => (!(decide (at1 = half0)))))) (by apply ep_optT (x := at0); exact (ep_andF (ep_tst (ep_bin (ep_var (d := ((eO eI) none)) rfl) ep_C (isnt_none (f := eI) none)))); exact (fun at1 => ep_andK (ep_tst (ep_bin (ep_var (d := (eI at1)) rfl) ep_C rfl)) (ep_tst (ep_bin (ep_var (d := (eI at1)) rfl) (ep_var (d := (eI half0)) rfl) (ne_typed (f := eI) at1 half0))))) (rk_retT fun _ he => ⟨rfl, he.sub (sub_cons wk_is (sub_cons wk_is (sub_cons wk_is (sub_cons wk_is (sub_cons wk_nw sub_nil)))))⟩))) (fun ⟨first0, at0⟩ => (rs_asg (rk_pure (d := ((eO eI) at0)) (ep_var (d := ((eO eI) at0)) rfl)  (rk_asgN (rs_last (rs_asg (rk_callN (rk_rcons (rk_pure (d := ((eP2 (eTs eI) (eTs (eO eI))) skin0)) (ep_var (d := ((eP2 (eTs eI) (eTs (eO eI))) skin0)) rfl)  (rk_rcons (rk_pure (d := ((eO eI) at0)) (ep_var (d := ((eO eI) at0)) rfl)  (by apply rs_unw (x := at0); exact (fun at00 => (rk_rnil (rk_call (rf_right_of skin0 at00) (fun r1 => (rk_asgN (rs_nx fun _ he => he.sub (sub_cons wk_is (sub_cons wk_is (sub_cons wk_is (sub_cons wk_is (sub_cons wk_nw sub_nil)))))))) (fun _ _ _ _ => trivial)))))))))))))))) (fun ⟨first1, at2⟩ => (rs_seq (c1 := fun first2 => [.is (.v ((eP2 (eTs eI) (eTs (eO eI))) skin0)), .is (.v (eI half0)), .is (.v (eI first2)), .is (.v ((eO eI) at2)), .nw]) (rs_if0 (rk_pure (d := (decide (at2 = (some half0)))) (ep_tst (ep_bin (ep_var (d := ((eO eI) at2)) rfl) (ep_var (d := (eI half0)) rfl) (eq_typed (f := (eO eI)) at2 (some half0)))) (rk_ifF (rs_last (rs_asg (rk_pure (d := (eI half0)) (ep_var (d := (eI half0)) rfl)  (rk_asgN (rs_nx fun _ he => he.sub (sub_cons wk_is (sub_cons wk_is (sub_cons wk_is (sub_cons wk_is (sub_cons wk_nw sub_nil)))))))))) (rs_nx fun _ he => he.sub (sub_cons wk_is (sub_cons wk_is (sub_cons wk_is (sub_cons wk_is (sub_cons wk_nw sub_nil))))))))) (fun first2 => (rs_asgL (rk_pure (ep_lst (ep_acons (ep_var (d := (eI first2)) rfl) ep_anil)) (rk_asgL (rs_asg (rk_callN (rk_rcons (rk_pure (d := ((eP2 (eTs eI) (eTs (eO eI))) skin0)) (ep_var (d := ((eP2 (eTs eI) (eTs (eO eI))) skin0)) rfl)  (rk_rcons (rk_pure (d := (eI first2)) (ep_var (d := (eI first2)) rfl)  (rk_rnil (rk_call (rf_left_of skin0 first2) (fun r2 => (rk_asgN (rs_while (c0 := (P2 fun at3 found0 => [.is (.v ((eP2 (eTs eI) (eTs (eO eI))) skin0)), .is (.v (eI half0)), .is (.v (eI first2)), .is (.v ((eO eI) at3)), .is (.l (List.map eI found0))])) (s0 := (r2, [first2])) (sub_cons wk_is (sub_cons wk_is (sub_cons wk_is (sub_cons wk_is (sub_cons wk_is sub_nil))))) (fun ⟨at3, found0⟩ => rk_fnrt (v := eB) (c' := fun _ => [.is (.v ((eP2 (eTs eI) (eTs (eO eI))) skin0)), .is (.v (eI half0)), .is (.v (eI first2)), .is (.v ((eO eI) at3)), .is (.l (List.map eI found0))]) (rk_pure (d := (optC at3 false (fun at4 => (!(decide (at4 = first2)))))) (by apply ep_optT (x := at3); exact (ep_andF (ep_tst (ep_bin (ep_var (d := ((eO eI) none)) rfl) ep_C (isnt_none (f := eI) none)))); exact (fun at4 => ep_andK (ep_tst (ep_bin (ep_var (d := (eI at4)) rfl) ep_C rfl)) (ep_tst (ep_bin (ep_var (d := (eI at4)) rfl) (ep_var (d := (eI first2)) rfl) (ne_typed (f := eI) at4 first2))))) (rk_retT fun _ he => ⟨rfl, he.sub (sub_cons wk_is (sub_cons wk_is (sub_cons wk_is (sub_cons wk_is (sub_cons wk_is sub_nil)))))⟩))) (fun ⟨at3, found0⟩ => (rs_drop (rk_mo (xs := List.map eI found0) (rk_acons (rk_pure (d := ((eO eI) at3)) (ep_var (d := ((eO eI) at3)) rfl)  (by apply rs_unw (x := at3); exact (fun at30 => (rk_anil (rk_app (fe := eI) (xs := found0) (a := at30) fun found1 => (rs_nf (c' := [.is (.v ((eP2 (eTs eI) (eTs (eO eI))) skin0)), .is (.v (eI half0)), .is (.v (eI first2)), .is (.v (eI at30)), .is (.l (List.map eI found1))]) (rs_last (rs_asg (rk_callN (rk_rcons (rk_pure (d := ((eP2 (eTs eI) (eTs (eO eI))) skin0)) (ep_var (d := ((eP2 (eTs eI) (eTs (eO eI))) skin0)) rfl)  (rk_rcons (rk_pure (d := (eI at30)) (ep_var (d := (eI at30)) rfl)  (rk_rnil (rk_call (rf_left_of skin0 at30) (fun r3 => (rk_asgN (rs_nx fun _ he => he.sub (sub_cons wk_is (sub_cons wk_is (sub_cons wk_is (sub_cons wk_is (sub_cons wk_is sub_nil)))))))) (fun _ _ _ _ => trivial)))))))))))))))))))) (fun ⟨at5, found2⟩ => (rs_last (rs_ret (rk_pure (d := ((eTs eI) found2)) (ep_tupO (xs := List.map eI found2) rfl)  (rk_ret (r := found2) fun _ he => ⟨rfl, outs_of rfl rfl he⟩)))))))) (fun _ _ _ _ => trivial)))))))))))))))))) (fun _ _ _ _ => trivial))))))))))))
def n__law_left (skin0 : ((List Int) × (List (Option Int)))) (half0 : Int) : N (Option Int) := Ct.fn (
 (indexN skin0.1 half0).ct fun i0 =>
 (idx skin0.2 i0).ct fun a0 =>
 .rt a0 : Ct Unit Unit (Option Int))
theorem rf__law_left (skin0 : ((List Int) × (List (Option Int)))) (half0 : Int) : RF (n__law_left skin0 half0) (f__law_left [.v ((eP2 (eTs eI) (eTs (eO eI))) skin0), .v (eI half0)]) (fun r => ((eO eI) r)) (fun r => [.no, .no]) := rf_of (n := 2) (b := b__law_left) (c0 := [.is (.v ((eP2 (eTs eI) (eTs (eO eI))) skin0)), .is (.v (eI half0))])
 (rs_last (rs_ret (rk_bin (rk_pure (d := ((eTs (eO eI)) skin0.2)) (ep_ixN (d := ((eP2 (eTs eI) (eTs (eO eI))) skin0)) ep_C rfl rfl)  (rk_index (rk_pure (d := ((eTs eI) skin0.1)) (ep_ixN (d := ((eP2 (eTs eI) (eTs (eO eI))) skin0)) ep_C rfl rfl)  (rk_idxT (rk_pure (d := (eI half0)) (ep_var (d := (eI half0)) rfl)  (rk_idxP (xs := skin0.1) (i := half0) fun i0 => (rk_ixT (f := (eO eI)) (xs := skin0.2) fun a0 => (rk_ret (r := a0) fun _ he => ⟨rfl, outs_of rfl rfl he⟩)))))))))))
def n__law_right (skin0 : ((List Int) × (List (Option Int)))) (half0 : Int) : N (Option Int) := Ct.fn (
 (idx skin0.2 half0).ct fun a0 =>
 (if (a0.isNone) = true then
 .rt none else
 (idx skin0.2 half0).ct fun a1 =>
 (unw a1).ct fun a10 =>
 (idx skin0.1 a10).ct fun a2 =>
 .rt (some a2)) : Ct Unit Unit (Option Int))
theorem rf__law_right (skin0 : ((List Int) × (List (Option Int)))) (half0 : Int) : RF (n__law_right skin0 half0) (f__law_right [.v ((eP2 (eTs eI) (eTs (eO eI))) skin0), .v (eI half0)]) (fun r => ((eO eI) r)) (fun r => [.no, .no]) := rf_of (n := 2) (b := b__law_right) (c0 := [.is (.v ((eP2 (eTs eI) (eTs (eO eI))) skin0)), .is (.v (eI half0))])
 (rs_if (rk_tst (rk_bin (rk_bin (rk_pure (d := ((eTs (eO eI)) skin0.2)) (ep_ixN (d := ((eP2 (eTs eI) (eTs (eO eI))) skin0)) ep_C rfl rfl)  (rk_pure (d := (eI half0)) (ep_var (d := (eI half0)) rfl)  (rk_ixT (f := (eO eI)) (xs := skin0.2) fun a0 => (rk_pure (d := (eU ())) ep_C  (rk_put (is_none (f := eI) a0) (rk_put rfl (rk_ifF (rs_ret (rk_pure (d := ((eO eI) none)) ep_C  (rk_ret (r := none) fun _ he => ⟨rfl, outs_of rfl rfl he⟩))) (rs_nxs (rs_last (rs_ret (rk_bin (rk_pure (d := ((eTs eI) skin0.1)) (ep_ixN (d := ((eP2 (eTs eI) (eTs (eO eI))) skin0)) ep_C rfl rfl)  (rk_bin (rk_pure (d := ((eTs (eO eI)) skin0.2)) (ep_ixN (d := ((eP2 (eTs eI) (eTs (eO eI))) skin0)) ep_C rfl rfl)  (rk_pure (d := (eI half0)) (ep_var (d := (eI half0)) rfl)  (rk_ixT (f := (eO eI)) (xs := skin0.2) fun a1 => (by apply rs_unw (x := a1); exact (fun a10 => (rk_ixT (f := eI) (xs := skin0.1) fun a2 => (rk_ret (r := (some a2)) fun _ he => ⟨rfl, outs_of rfl rfl he⟩))))))))))))))))))))))))
def n__law_knot (skin0 : ((List Int) × (List (Option Int)))) (half0 : Int) : N (List Int) := Ct.fn (
 (whileC (fun row0 => Ct.fn ((idx row0 (-1 : Int)).ct fun a0 =>
 (n__law_left skin0 a0).ct fun r0 =>
 .rt (!(memB r0 [none, (some half0)])) : Ct Unit Unit Bool)) (fun row0 =>
 ((idx row0 (-1 : Int)).ct fun a1 =>
 (n__law_left skin0 a1).ct fun r1 =>
 (unw r1).ct fun r10 =>
 (appN row0 r10).ct fun row1 =>
 .nx row1 : Ct (List Int) (List Int) _)) FUEL [half0]).sq fun row2 =>
 (Ct.sq ((idx row2 (-1 : Int)).ct fun a2 =>
 (n__law_left skin0 a2).ct fun r2 =>
 (if (r2.isNone) = true then
 (whileC (fun row4 => Ct.fn ((idx row4 (0 : Int)).ct fun a3 =>
 (n__law_right skin0 a3).ct fun r3 =>
 .rt (!r3.isNone) : Ct Unit Unit Bool)) (fun row4 =>
 ((idx row4 (0 : Int)).ct fun a4 =>
 (n__law_right skin0 a4).ct fun r4 =>
 (unw r4).ct fun r40 =>
 (insN row4 (0 : Int) r40).ct fun row5 =>
 .nx row5 : Ct (List Int) (List Int) _)) FUEL row2).sq fun row6 =>
 .nx row6 else
 .nx row2) : Ct (List Int) _ _) fun row3 =>
 .rt row3) : Ct Unit Unit (List Int))
theorem rf__law_knot (skin0 : ((List Int) × (List (Option Int)))) (half0 : Int) : RF (n__law_knot skin0 half0) (f__law_knot [.v ((eP2 (eTs eI) (eTs (eO eI))) skin0), .v (eI half0)]) (fun r => ((eTs eI) r)) (fun r => [.no, .no]) := rf_of (n := 3) (b := b__law_knot) (c0 := [.is (.v ((eP2 (eTs eI) (eTs (eO eI))) skin0)), .is (.v (eI half0)), .nw])
 (rs_asgL (rk_pure (ep_lst (ep_acons (ep_var (d := (eI half0)) rfl) ep_anil)) (rk_asgL (rs_while (c0 := fun row0 => [.is (.v ((eP2 (eTs eI) (eTs (eO eI))) skin0)), .is (.v (eI half0)), .is (.l (List.map eI row0))]) (s0 := [half0]) (sub_cons wk_is (sub_cons wk_is (sub_cons wk_is sub_nil))) (fun row0 => rk_fnrt (v := eB) (c' := fun _ => [.is (.v ((eP2 (eTs eI) (eTs (eO eI))) skin0)), .is (.v (eI half0)), .is (.l (List.map eI row0))]) (rk_tst (rk_bin (rk_callN (rk_rcons (rk_pure (d := ((eP2 (eTs eI) (eTs (eO eI))) skin0)) (ep_var (d := ((eP2 (eTs eI) (eTs (eO eI))) skin0)) rfl)  (rk_rcons (rk_ixN (rk_pure (d := (eI (-1 : Int))) ep_C  (rk_ixAt (d := ((eLs eI) row0)) (rk_ixL (f := eI) (xs := row0) fun a0 => (rk_rnil (rk_call (rf__law_left skin0 a0) (fun r0 => (rk_pure (d := ((eTs (eO eI)) [none, (some half0)])) (ep_tup (ep_acons ep_C (ep_acons (ep_var (d := (eI half0)) rfl) ep_anil)))  (rk_put (nin_tup (f := (eO eI)) r0 [none, (some half0)]) (rk_put rfl (rk_retT fun _ he => ⟨rfl, he.sub (sub_cons wk_is (sub_cons wk_is (sub_cons wk_is sub_nil)))⟩))))) (fun _ _ _ _ => trivial)))) rfl)))))))))) (fun row0 => (rs_last (rs_drop (rk_mo (xs := List.map eI row0) (rk_acons (rk_callN (rk_rcons (rk_pure (d := ((eP2 (eTs eI) (eTs (eO eI))) skin0)) (ep_var (d := ((eP2 (eTs eI) (eTs (eO eI))) skin0)) rfl)  (rk_rcons (rk_ixN (rk_pure (d := (eI (-1 : Int))) ep_C  (rk_ixAt (d := ((eLs eI) row0)) (rk_ixL (f := eI) (xs := row0) fun a1 => (rk_rnil (rk_call (rf__law_left skin0 a1) (fun r1 => (by apply rs_unw (x := r1); exact (fun r10 => (rk_anil (rk_app (fe := eI) (xs := row0) (a := r10) fun row1 => (rs_nf (c' := [.is (.v ((eP2 (eTs eI) (eTs (eO eI))) skin0)), .is (.v (eI half0)), .is (.l (List.map eI row1))]) (rs_nx fun _ he => he.sub (sub_cons wk_is (sub_cons wk_is (sub_cons wk_is sub_nil)))))))))) (fun _ _ _ _ => trivial)))) rfl)))))))))))) (fun row2 => (rs_seq (c1 := fun row3 => [.is (.v ((eP2 (eTs eI) (eTs (eO eI))) skin0)), .is (.v (eI half0)), .is (.l (List.map eI row3))]) (rs_if0 (rk_tst (rk_bin (rk_callN (rk_rcons (rk_pure (d := ((eP2 (eTs eI) (eTs (eO eI))) skin0)) (ep_var (d := ((eP2 (eTs eI) (eTs (eO eI))) skin0)) rfl)  (rk_rcons (rk_ixN (rk_pure (d := (eI (-1 : Int))) ep_C  (rk_ixAt (d := ((eLs eI) row2)) (rk_ixL (f := eI) (xs := row2) fun a2 => (rk_rnil (rk_call (rf__law_left skin0 a2) (fun r2 => (rk_pure (d := (eU ())) ep_C  (rk_put (is_none (f := eI) r2) (rk_put rfl (rk_ifF (rs_last (rs_while (c0 := fun row4 => [.is (.v ((eP2 (eTs eI) (eTs (eO eI))) skin0)), .is (.v (eI half0)), .is (.l (List.map eI row4))]) (s0 := row2) (sub_cons wk_is (sub_cons wk_is (sub_cons wk_is sub_nil))) (fun row4 => rk_fnrt (v := eB) (c' := fun _ => [.is (.v ((eP2 (eTs eI) (eTs (eO eI))) skin0)), .is (.v (eI half0)), .is (.l (List.map eI row4))]) (rk_tst (rk_bin (rk_callN (rk_rcons (rk_pure (d := ((eP2 (eTs eI) (eTs (eO eI))) skin0)) (ep_var (d := ((eP2 (eTs eI) (eTs (eO eI))) skin0)) rfl)  (rk_rcons (rk_ixN (rk_pure (d := (eI (0 : Int))) ep_C  (rk_ixAt (d := ((eLs eI) row4)) (rk_ixL (f := eI) (xs := row4) fun a3 => (rk_rnil (rk_call (rf__law_right skin0 a3) (fun r3 => (rk_pure (d := (eU ())) ep_C  (rk_put (isnt_none (f := eI) r3) (rk_put rfl (rk_retT fun _ he => ⟨rfl, he.sub (sub_cons wk_is (sub_cons wk_is (sub_cons wk_is sub_nil)))⟩))))) (fun _ _ _ _ => trivial)))) rfl)))))))))) (fun row4 => (rs_last (rs_drop (rk_mo (xs := List.map eI row4) (rk_acons (rk_pure (d := (eI (0 : Int))) ep_C  (rk_acons (rk_callN (rk_rcons (rk_pure (d := ((eP2 (eTs eI) (eTs (eO eI))) skin0)) (ep_var (d := ((eP2 (eTs eI) (eTs (eO eI))) skin0)) rfl)  (rk_rcons (rk_ixN (rk_pure (d := (eI (0 : Int))) ep_C  (rk_ixAt (d := ((eLs eI) row4)) (rk_ixL (f := eI) (xs := row4) fun a4 => (rk_rnil (rk_call (rf__law_right skin0 a4) (fun r4 => (by apply rs_unw (x := r4); exact (fun r40 => (rk_anil (rk_ins (fe := eI) (xs := row4) (a := r40) fun row5 => (rs_nf (c' := [.is (.v ((eP2 (eTs eI) (eTs (eO eI))) skin0)), .is (.v (eI half0)), .is (.l (List.map eI row5))]) (rs_nx fun _ he => he.sub (sub_cons wk_is (sub_cons wk_is (sub_cons wk_is sub_nil)))))))))) (fun _ _ _ _ => trivial)))) rfl)))))))))))))) (fun row6 => (rs_nx fun _ he => he.sub (sub_cons wk_is (sub_cons wk_is (sub_cons wk_is sub_nil))))))) (rs_nx fun _ he => he.sub (sub_cons wk_is (sub_cons wk_is (sub_cons wk_is sub_nil))))))))) (fun _ _ _ _ => trivial)))) rfl)))))))))) (fun row3 => (rs_last (rs_ret (rk_pure (d := ((eTs eI) row3)) (ep_tupO (xs := List.map eI row3) rfl)  (rk_ret (r := row3) fun _ he => ⟨rfl, outs_of rfl rfl he⟩)))))))))))
def n__law_patch (skin0 : ((List Int) × (List (Option Int)))) (half0 : Int) : N (List Int) := Ct.fn (
 (whileC (fun row0 => Ct.fn ((idx row0 (-1 : Int)).ct fun a0 =>
 (idx skin0.1 a0).ct fun a1 =>
 .rt (!(decide (a1 = half0))) : Ct Unit Unit Bool)) (fun row0 =>
 ((idx row0 (-1 : Int)).ct fun a2 =>
 (idx skin0.1 a2).ct fun a3 =>
 (appN row0 a3).ct fun row1 =>
 .nx row1 : Ct (List Int) (List Int) _)) FUEL [half0]).sq fun row2 =>
 .rt row2 : Ct Unit Unit (List Int))
theorem rf__law_patch (skin0 : ((List Int) × (List (Option Int)))) (half0 : Int) : RF (n__law_patch skin0 half0) (f__law_patch [.v ((eP2 (eTs eI) (eTs (eO eI))) skin0), .v (eI half0)]) (fun r => ((eTs eI) r)) (fun r => [.no, .no]) := rf_of (n := 3) (b := b__law_patch) (c0 := [.is (.v ((eP2 (eTs eI) (eTs (eO eI))) skin0)), .is (.v (eI half0)), .nw])
 (rs_asgL (rk_pure (ep_lst (ep_acons (ep_var (d := (eI half0)) rfl) ep_anil)) (rk_asgL (rs_while (c0 := fun row0 => [.is (.v ((eP2 (eTs eI) (eTs (eO eI))) skin0)), .is (.v (eI half0)), .is (.l (List.map eI row0))]) (s0 := [half0]) (sub_cons wk_is (sub_cons wk_is (sub_cons wk_is sub_nil))) (fun row0 => rk_fnrt (v := eB) (c' := fun _ => [.is (.v ((eP2 (eTs eI) (eTs (eO eI))) skin0)), .is (.v (eI half0)), .is (.l (List.map eI row0))]) (rk_tst (rk_bin (rk_bin (rk_pure (d := ((eTs eI) skin0.1)) (ep_ixN (d := ((eP2 (eTs eI) (eTs (eO eI))) skin0)) ep_C rfl rfl)  (rk_ixN (rk_pure (d := (eI (-1 : Int))) ep_C  (rk_ixAt (d := ((eLs eI) row0)) (rk_ixL (f := eI) (xs := row0) fun a0 => (rk_ixT (f := eI) (xs := skin0.1) fun a1 => (rk_pure (d := (eI half0)) (ep_var (d := (eI half0)) rfl)  (rk_put (ne_typed (f := eI) a1 half0) (rk_put rfl (rk_retT fun _ he => ⟨rfl, he.sub (sub_cons wk_is (sub_cons wk_is (sub_cons wk_is sub_nil)))⟩)))))) rfl)))))))) (fun row0 => (rs_last (rs_drop (rk_mo (xs := List.map eI row0) (rk_acons (rk_bin (rk_pure (d := ((eTs eI) skin0.1)) (ep_ixN (d := ((eP2 (eTs eI) (eTs (eO eI))) skin0)) ep_C rfl rfl)  (rk_ixN (rk_pure (d := (eI (-1 : Int))) ep_C  (rk_ixAt (d := ((eLs eI) row0)) (rk_ixL (f := eI) (xs := row0) fun a2 => (rk_ixT (f := eI) (xs := skin0.1) fun a3 => (rk_anil (rk_app (fe := eI) (xs := row0) (a := a3) fun row1 => (rs_nf (c' := [.is (.v ((eP2 (eTs eI) (eTs (eO eI))) skin0)), .is (.v (eI half0)), .is (.l (List.map eI row1))]) (rs_nx fun _ he => he.sub (sub_cons wk_is (sub_cons wk_is (sub_cons wk_is sub_nil))))))))) rfl)))))))))) (fun row2 => (rs_last (rs_ret (rk_pure (d := ((eTs eI) row2)) (ep_tupO (xs := List.map eI row2) rfl)  (rk_ret (r := row2) fun _ he => ⟨rfl, outs_of rfl rfl he⟩)))))))))
end
end NW
set_option Elab.async false
set_option linter.all false
set_option maxRecDepth 100000
set_option maxHeartbeats 4000000
namespace K35
open PySem L2 DL LW NT NW
noncomputable section
def n_look_at_times (many0 : Int) : N Unit := Ct.fp (
 (if ((decide (many0 < (0 : Int))) || (decide ((1000000000000000000000000000000 : Int) < many0))) = true then
 .ex ⟨"TooMany", none⟩ else
 .nx ()) : Ct Unit Unit Unit)
theorem rf_look_at_times (many0 : Int) : RF (n_look_at_times many0) (f_look_at_times [.v (eI many0)]) (fun _ => PyData.none) (fun r => [.no]) := rp_of (n := 1) (b := b_look_at_times) (c0 := [.is (.v (eI many0))])
 (rs_last (rs_if (rk_pure (d := ((decide (many0 < (0 : Int))) || (decide ((1000000000000000000000000000000 : Int) < many0)))) (ep_orT (ep_tst (ep_bin (ep_var (d := (eI many0)) rfl) ep_C rfl)) (ep_tst (ep_bin (ep_var (d := (eI many0)) rfl) ep_C rfl))) (rk_ifF (rs_raise fun _ _ => trivial) (rs_nxs (rs_nx fun _ he => outs_of rfl rfl he))))))
def n_Walker_back (self0 : (((List Int) × (List (Option Int))) × (List Int))) : N (((List Int) × (List (Option Int))) × (List Int)) := Ct.fp (
 (if (decide ((self0.2.length : Int) = (1 : Int))) = true then
 .ex ⟨"NothingLeft", none⟩ else
 (popN self0.2).ct (P2 fun a0 stands0 =>
 .nx (self0.1, stands0))) : Ct (((List Int) × (List (Option Int))) × (List Int)) Unit (((List Int) × (List (Option Int))) × (List Int)))
theorem rfk_Walker_back (self0 : (((List Int) × (List (Option Int))) × (List Int))) : RFk (n_Walker_back self0) (f_Walker_back [.u (.o "Walker" [("cloth", .d ((eP2 (eTs eI) (eTs (eO eI))) self0.1)), ("stands", dL (List.map eI self0.2))])]) (fun _ => PyData.none) (fun r => [.u (.o "Walker" [("cloth", .d ((eP2 (eTs eI) (eTs (eO eI))) r.1)), ("stands", dL (List.map eI r.2))])]) [.u (.o "Walker" [("cloth", .d ((eP2 (eTs eI) (eTs (eO eI))) self0.1)), ("stands", dL (List.map eI self0.2))])] := rpk_of (n := 1) (b := b_Walker_back) (c0 := [.is (.u (.o "Walker" [("cloth", .d ((eP2 (eTs eI) (eTs (eO eI))) self0.1)), ("stands", dL (List.map eI self0.2))]))])
 (rs_if (rk_pure (d := (decide ((self0.2.length : Int) = (1 : Int)))) (ep_tst (ep_bin (ep_flenT (f := eI) (xs := self0.2) (objC_u (c := [.is (.u (.o "Walker" [("cloth", .d ((eP2 (eTs eI) (eTs (eO eI))) self0.1)), ("stands", dL (List.map eI self0.2))]))]) (i := 0) (cn := "Walker") rfl) rfl rfl) ep_C (eq_typed (f := eI) (self0.2.length : Int) (1 : Int)))) (rk_ifF (rs_raise fun _ h => outs_of rfl rfl h) (rs_nxs (rs_last (rs_drop (rk_fpop (fe := eI) (xs := self0.2) (objC_u (c := [.is (.u (.o "Walker" [("cloth", .d ((eP2 (eTs eI) (eTs (eO eI))) self0.1)), ("stands", dL (List.map eI self0.2))]))]) (i := 0) (cn := "Walker") rfl) rfl rfl fun ⟨a0, stands0⟩ => rs_nf (c' := [.is (.u (.o "Walker" [("cloth", .d ((eP2 (eTs eI) (eTs (eO eI))) self0.1)), ("stands", dL (List.map eI stands0))]))]) (rs_nx fun _ he => outs_of rfl rfl he))))))))
def n_Walker_go_to (self0 : (((List Int) × (List (Option Int))) × (List Int))) (half0 : Int) (many0 : Int) : N (Int × (((List Int) × (List (Option Int))) × (List Int))) := Ct.fn (
 (appN self0.2 half0).ct fun stands0 =>
 .rt (many0, (self0.1, stands0)) : Ct Unit Unit (Int × (((List Int) × (List (Option Int))) × (List Int))))
theorem rfk_Walker_go_to (self0 : (((List Int) × (List (Option Int))) × (List Int))) (half0 : Int) (many0 : Int) : RFk (n_Walker_go_to self0 half0 many0) (f_Walker_go_to [.u (.o "Walker" [("cloth", .d ((eP2 (eTs eI) (eTs (eO eI))) self0.1)), ("stands", dL (List.map eI self0.2))]), .v (eI half0), .v (eI many0)]) (fun r => (eI r.1)) (fun r => [.u (.o "Walker" [("cloth", .d ((eP2 (eTs eI) (eTs (eO eI))) r.2.1)), ("stands", dL (List.map eI r.2.2))]), .no, .no]) [.u (.o "Walker" [("cloth", .d ((eP2 (eTs eI) (eTs (eO eI))) self0.1)), ("stands", dL (List.map eI self0.2))]), .no, .no] := rfk_of (n := 3) (b := b_Walker_go_to) (c0 := [.is (.u (.o "Walker" [("cloth", .d ((eP2 (eTs eI) (eTs (eO eI))) self0.1)), ("stands", dL (List.map eI self0.2))])), .is (.v (eI half0)), .is (.v (eI many0))])
 (rs_drop (rk_fapp (fe := eI) (xs := self0.2) (a := half0) (ep_var (d := (eI half0)) rfl) (objC_u (c := [.is (.u (.o "Walker" [("cloth", .d ((eP2 (eTs eI) (eTs (eO eI))) self0.1)), ("stands", dL (List.map eI self0.2))])), .is (.v (eI half0)), .is (.v (eI many0))]) (i := 0) (cn := "Walker") rfl) rfl rfl fun stands0 => rs_nf (c' := [.is (.u (.o "Walker" [("cloth", .d ((eP2 (eTs eI) (eTs (eO eI))) self0.1)), ("stands", dL (List.map eI stands0))])), .is (.v (eI half0)), .is (.v (eI many0))]) (rs_last (rs_ret (rk_pure (d := (eI many0)) (ep_var (d := (eI many0)) rfl)  (rk_ret (r := (many0, (self0.1, stands0))) fun _ he => ⟨rfl, outs_of rfl rfl he⟩))))))
def n_Walker_at (self0 : (((List Int) × (List (Option Int))) × (List Int))) : N Int := Ct.fn (
 (idx self0.2 (-1 : Int)).ct fun a0 =>
 .rt a0 : Ct Unit Unit Int)
theorem rfk_Walker_at (self0 : (((List Int) × (List (Option Int))) × (List Int))) : RFk (n_Walker_at self0) (f_Walker_at [.u (.o "Walker" [("cloth", .d ((eP2 (eTs eI) (eTs (eO eI))) self0.1)), ("stands", dL (List.map eI self0.2))])]) (fun r => (eI r)) (fun r => [.u (.o "Walker" [("cloth", .d ((eP2 (eTs eI) (eTs (eO eI))) self0.1)), ("stands", dL (List.map eI self0.2))])]) [.u (.o "Walker" [("cloth", .d ((eP2 (eTs eI) (eTs (eO eI))) self0.1)), ("stands", dL (List.map eI self0.2))])] := rfk_of (n := 1) (b := b_Walker_at) (c0 := [.is (.u (.o "Walker" [("cloth", .d ((eP2 (eTs eI) (eTs (eO eI))) self0.1)), ("stands", dL (List.map eI self0.2))]))])
 (rs_last (rs_ret (rk_fix (xs := List.map eI self0.2) (d := eI (-1 : Int)) rfl ep_C (objC_u (c := [.is (.u (.o "Walker" [("cloth", .d ((eP2 (eTs eI) (eTs (eO eI))) self0.1)), ("stands", dL (List.map eI self0.2))]))]) (i := 0) (cn := "Walker") rfl) rfl rfl (rk_ixL (f := eI) (xs := self0.2) (i := (-1 : Int)) fun a0 => (rk_ret (r := a0) fun _ he => ⟨rfl, outs_of rfl rfl he⟩)))))
def n_Walker_on (self0 : (((List Int) × (List (Option Int))) × (List Int))) (many0 : Int) : N (Int × (((List Int) × (List (Option Int))) × (List Int))) := Ct.fn (
 (n_look_at_times many0).ct fun u0 =>
 (n_Walker_at self0).ct fun r0 =>
 (n_patch_of self0.1 r0).ct fun r1 =>
 (modN many0 (r1.length : Int)).ct fun n0 =>
 (idx r1 n0).ct fun a0 =>
 (n_Walker_go_to self0 a0 many0).ct (P2 fun r2 self1 =>
 .rt (r2, self1)) : Ct Unit Unit (Int × (((List Int) × (List (Option Int))) × (List Int))))
theorem rfk_Walker_on (self0 : (((List Int) × (List (Option Int))) × (List Int))) (many0 : Int) : RFk (n_Walker_on self0 many0) (f_Walker_on [.u (.o "Walker" [("cloth", .d ((eP2 (eTs eI) (eTs (eO eI))) self0.1)), ("stands", dL (List.map eI self0.2))]), .v (eI many0)]) (fun r => (eI r.1)) (fun r => [.u (.o "Walker" [("cloth", .d ((eP2 (eTs eI) (eTs (eO eI))) r.2.1)), ("stands", dL (List.map eI r.2.2))]), .no]) [.u (.o "Walker" [("cloth", .d ((eP2 (eTs eI) (eTs (eO eI))) self0.1)), ("stands", dL (List.map eI self0.2))]), .no] := rfk_of (n := 3) (b := b_Walker_on) (c0 := [.is (.u (.o "Walker" [("cloth", .d ((eP2 (eTs eI) (eTs (eO eI))) self0.1)), ("stands", dL (List.map eI self0.2))])), .is (.v (eI many0)), .nw])
 (rs_drop (rk_callN (rk_rcons (rk_pure (d := (eI many0)) (ep_var (d := (eI many0)) rfl)  (rk_rnil (rk_call (rf_look_at_times many0) (fun u0 => (rs_asg (rk_callN (rk_rcons (rk_pure (d := ((eP2 (eTs eI) (eTs (eO eI))) self0.1)) (ep_fldO (d := ((eP2 (eTs eI) (eTs (eO eI))) self0.1)) (objC_u (c := [.is (.u (.o "Walker" [("cloth", .d ((eP2 (eTs eI) (eTs (eO eI))) self0.1)), ("stands", dL (List.map eI self0.2))])), .is (.v (eI many0)), .nw]) (i := 0) (cn := "Walker") rfl) rfl)  (rk_rcons (rk_meth (objC_u (c := [.is (.u (.o "Walker" [("cloth", .d ((eP2 (eTs eI) (eTs (eO eI))) self0.1)), ("stands", dL (List.map eI self0.2))])), .is (.v (eI many0)), .nw]) (i := 0) (cn := "Walker") rfl) rfl (rk_rnil (rk_methK (objC_u (c := [.is (.u (.o "Walker" [("cloth", .d ((eP2 (eTs eI) (eTs (eO eI))) self0.1)), ("stands", dL (List.map eI self0.2))])), .is (.v (eI many0)), .nw]) (i := 0) (cn := "Walker") rfl) rfl (rk_callX (rfk_Walker_at self0) (fun r0 => rs_nf (c' := [.is (.u (.o "Walker" [("cloth", .d ((eP2 (eTs eI) (eTs (eO eI))) self0.1)), ("stands", dL (List.map eI self0.2))])), .is (.v (eI many0)), .nw]) (rk_rnil (rk_call (rf_patch_of self0.1 r0) (fun r1 => (rk_asgN (rs_last (rs_ret (rk_meth (objC_u (c := [.is (.u (.o "Walker" [("cloth", .d ((eP2 (eTs eI) (eTs (eO eI))) self0.1)), ("stands", dL (List.map eI self0.2))])), .is (.v (eI many0)), .is (.v ((eTs eI) r1))]) (i := 0) (cn := "Walker") rfl) rfl (rk_rcons (rk_ixN (rk_bin (rk_pure (d := (eI many0)) (ep_var (d := (eI many0)) rfl)  (rk_pure (d := (eI (r1.length : Int))) (ep_cb (ep_acons (ep_var (d := ((eTs eI) r1)) rfl) ep_anil) (len_T (f := eI) r1))  (rk_mod fun n0 => (rk_ixAt (d := ((eTs eI) r1)) (rk_ixT (f := eI) (xs := r1) fun a0 => (rk_rcons (rk_pure (d := (eI many0)) (ep_var (d := (eI many0)) rfl)  (rk_rnil (rk_methK (objC_u (c := [.is (.u (.o "Walker" [("cloth", .d ((eP2 (eTs eI) (eTs (eO eI))) self0.1)), ("stands", dL (List.map eI self0.2))])), .is (.v (eI many0)), .is (.v ((eTs eI) r1))]) (i := 0) (cn := "Walker") rfl) rfl (rk_callX (rfk_Walker_go_to self0 a0 many0) (fun ⟨r2, self1⟩ => rs_nf (c' := [.is (.u (.o "Walker" [("cloth", .d ((eP2 (eTs eI) (eTs (eO eI))) self1.1)), ("stands", dL (List.map eI self1.2))])), .is (.v (eI many0)), .is (.v ((eTs eI) r1))]) (rk_ret (r := (r2, self1)) fun _ he => ⟨rfl, outs_of rfl rfl he⟩)) (fun _ h => outs_of rfl rfl h))))))) rfl)))))))))))) (fun _ _ h h2 => by rw [h2 rfl]; exact outs_of rfl rfl h)))) (fun _ h => outs_of rfl rfl h))))))))))) (fun _ _ h h2 => by rw [h2 rfl]; exact outs_of rfl rfl h)))))))
def n_Walker_ahead (self0 : (((List Int) × (List (Option Int))) × (List Int))) (many0 : Int) : N (Int × (((List Int) × (List (Option Int))) × (List Int))) := Ct.fn (
 (n_look_at_times many0).ct fun u0 =>
 (n_Walker_at self0).ct fun r0 =>
 (n_patch_of self0.1 r0).ct fun r1 =>
 (modN ((0 : Int) - many0) (r1.length : Int)).ct fun n0 =>
 (idx r1 n0).ct fun a0 =>
 (n_Walker_go_to self0 a0 many0).ct (P2 fun r2 self1 =>
 .rt (r2, self1)) : Ct Unit Unit (Int × (((List Int) × (List (Option Int))) × (List Int))))
theorem rfk_Walker_ahead (self0 : (((List Int) × (List (Option Int))) × (List Int))) (many0 : Int) : RFk (n_Walker_ahead self0 many0) (f_Walker_ahead [.u (.o "Walker" [("cloth", .d ((eP2 (eTs eI) (eTs (eO eI))) self0.1)), ("stands", dL (List.map eI self0.2))]), .v (eI many0)]) (fun r => (eI r.1)) (fun r => [.u (.o "Walker" [("cloth", .d ((eP2 (eTs eI) (eTs (eO eI))) r.2.1)), ("stands", dL (List.map eI r.2.2))]), .no]) [.u (.o "Walker" [("cloth", .d ((eP2 (eTs eI) (eTs (eO eI))) self0.1)), ("stands", dL (List.map eI self0.2))]), .no] := rfk_of (n := 3) (b := b_Walker_ahead) (c0 := [.is (.u (.o "Walker" [("cloth", .d ((eP2 (eTs eI) (eTs (eO eI))) self0.1)), ("stands", dL (List.map eI self0.2))])), .is (.v (eI many0)), .nw])
 (rs_drop (rk_callN (rk_rcons (rk_pure (d := (eI many0)) (ep_var (d := (eI many0)) rfl)  (rk_rnil (rk_call (rf_look_at_times many0) (fun u0 => (rs_asg (rk_callN (rk_rcons (rk_pure (d := ((eP2 (eTs eI) (eTs (eO eI))) self0.1)) (ep_fldO (d := ((eP2 (eTs eI) (eTs (eO eI))) self0.1)) (objC_u (c := [.is (.u (.o "Walker" [("cloth", .d ((eP2 (eTs eI) (eTs (eO eI))) self0.1)), ("stands", dL (List.map eI self0.2))])), .is (.v (eI many0)), .nw]) (i := 0) (cn := "Walker") rfl) rfl)  (rk_rcons (rk_meth (objC_u (c := [.is (.u (.o "Walker" [("cloth", .d ((eP2 (eTs eI) (eTs (eO eI))) self0.1)), ("stands", dL (List.map eI self0.2))])), .is (.v (eI many0)), .nw]) (i := 0) (cn := "Walker") rfl) rfl (rk_rnil (rk_methK (objC_u (c := [.is (.u (.o "Walker" [("cloth", .d ((eP2 (eTs eI) (eTs (eO eI))) self0.1)), ("stands", dL (List.map eI self0.2))])), .is (.v (eI many0)), .nw]) (i := 0) (cn := "Walker") rfl) rfl (rk_callX (rfk_Walker_at self0) (fun r0 => rs_nf (c' := [.is (.u (.o "Walker" [("cloth", .d ((eP2 (eTs eI) (eTs (eO eI))) self0.1)), ("stands", dL (List.map eI self0.2))])), .is (.v (eI many0)), .nw]) (rk_rnil (rk_call (rf_patch_of self0.1 r0) (fun r1 => (rk_asgN (rs_last (rs_ret (rk_meth (objC_u (c := [.is (.u (.o "Walker" [("cloth", .d ((eP2 (eTs eI) (eTs (eO eI))) self0.1)), ("stands", dL (List.map eI self0.2))])), .is (.v (eI many0)), .is (.v ((eTs eI) r1))]) (i := 0) (cn := "Walker") rfl) rfl (rk_rcons (rk_ixN (rk_bin (rk_pure (d := (eI ((0 : Int) - many0))) (ep_bin ep_C (ep_var (d := (eI many0)) rfl) rfl)  (rk_pure (d := (eI (r1.length : Int))) (ep_cb (ep_acons (ep_var (d := ((eTs eI) r1)) rfl) ep_anil) (len_T (f := eI) r1))  (rk_mod fun n0 => (rk_ixAt (d := ((eTs eI) r1)) (rk_ixT (f := eI) (xs := r1) fun a0 => (rk_rcons (rk_pure (d := (eI many0)) (ep_var (d := (eI many0)) rfl)  (rk_rnil (rk_methK (objC_u (c := [.is (.u (.o "Walker" [("cloth", .d ((eP2 (eTs eI) (eTs (eO eI))) self0.1)), ("stands", dL (List.map eI self0.2))])), .is (.v (eI many0)), .is (.v ((eTs eI) r1))]) (i := 0) (cn := "Walker") rfl) rfl (rk_callX (rfk_Walker_go_to self0 a0 many0) (fun ⟨r2, self1⟩ => rs_nf (c' := [.is (.u (.o "Walker" [("cloth", .d ((eP2 (eTs eI) (eTs (eO eI))) self1.1)), ("stands", dL (List.map eI self1.2))])), .is (.v (eI many0)), .is (.v ((eTs eI) r1))]) (rk_ret (r := (r2, self1)) fun _ he => ⟨rfl, outs_of rfl rfl he⟩)) (fun _ h => outs_of rfl rfl h))))))) rfl)))))))))))) (fun _ _ h h2 => by rw [h2 rfl]; exact outs_of rfl rfl h)))) (fun _ h => outs_of rfl rfl h))))))))))) (fun _ _ h h2 => by rw [h2 rfl]; exact outs_of rfl rfl h)))))))
def n_Walker_turned_by (self0 : (((List Int) × (List (Option Int))) × (List Int))) (many0 : Int) : N (Int × (((List Int) × (List (Option Int))) × (List Int))) := Ct.fn (
 (n_Walker_at self0).ct fun r0 =>
 (n_round_knot self0.1 r0).ct fun r1 =>
 (n_Walker_at self0).ct fun r2 =>
 (indexN r1 r2).ct fun i0 =>
 (idx r1 (0 : Int)).ct fun a0 =>
 (idx self0.1.2 a0).ct fun a1 =>
 (if (!a1.isNone) = true then
 (modN (i0 + many0) (r1.length : Int)).ct fun n0 =>
 (idx r1 n0).ct fun a2 =>
 (n_Walker_go_to self0 a2 (iabs many0)).ct (P2 fun r3 self1 =>
 .rt (r3, self1)) else
 (idx r1 (imax (0 : Int) (imin (i0 + many0) ((r1.length : Int) - (1 : Int))))).ct fun a3 =>
 (n_Walker_at self0).ct fun r4 =>
 (indexN r1 r4).ct fun i1 =>
 (n_Walker_go_to self0 a3 (iabs ((imax (0 : Int) (imin (i0 + many0) ((r1.length : Int) - (1 : Int)))) - i1))).ct (P2 fun r5 self2 =>
 .rt (r5, self2))) : Ct Unit Unit (Int × (((List Int) × (List (Option Int))) × (List Int))))
theorem rfk_Walker_turned_by (self0 : (((List Int) × (List (Option Int))) × (List Int))) (many0 : Int) : RFk (n_Walker_turned_by self0 many0) (f_Walker_turned_by [.u (.o "Walker" [("cloth", .d ((eP2 (eTs eI) (eTs (eO eI))) self0.1)), ("stands", dL (List.map eI self0.2))]), .v (eI many0)]) (fun r => (eI r.1)) (fun r => [.u (.o "Walker" [("cloth", .d ((eP2 (eTs eI) (eTs (eO eI))) r.2.1)), ("stands", dL (List.map eI r.2.2))]), .no]) [.u (.o "Walker" [("cloth", .d ((eP2 (eTs eI) (eTs (eO eI))) self0.1)), ("stands", dL (List.map eI self0.2))]), .no] := rfk_of (n := 4) (b := b_Walker_turned_by) (c0 := [.is (.u (.o "Walker" [("cloth", .d ((eP2 (eTs eI) (eTs (eO eI))) self0.1)), ("stands", dL (List.map eI self0.2))])), .is (.v (eI many0)), .nw, .nw])
 (rs_asg (rk_callN (rk_rcons (rk_pure (d := ((eP2 (eTs eI) (eTs (eO eI))) self0.1)) (ep_fldO (d := ((eP2 (eTs eI) (eTs (eO eI))) self0.1)) (objC_u (c := [.is (.u (.o "Walker" [("cloth", .d ((eP2 (eTs eI) (eTs (eO eI))) self0.1)), ("stands", dL (List.map eI self0.2))])), .is (.v (eI many0)), .nw, .nw]) (i := 0) (cn := "Walker") rfl) rfl)  (rk_rcons (rk_meth (objC_u (c := [.is (.u (.o "Walker" [("cloth", .d ((eP2 (eTs eI) (eTs (eO eI))) self0.1)), ("stands", dL (List.map eI self0.2))])), .is (.v (eI many0)), .nw, .nw]) (i := 0) (cn := "Walker") rfl) rfl (rk_rnil (rk_methK (objC_u (c := [.is (.u (.o "Walker" [("cloth", .d ((eP2 (eTs eI) (eTs (eO eI))) self0.1)), ("stands", dL (List.map eI self0.2))])), .is (.v (eI many0)), .nw, .nw]) (i := 0) (cn := "Walker") rfl) rfl (rk_callX (rfk_Walker_at self0) (fun r0 => rs_nf (c' := [.is (.u (.o "Walker" [("cloth", .d ((eP2 (eTs eI) (eTs (eO eI))) self0.1)), ("stands", dL (List.map eI self0.2))])), .is (.v (eI many0)), .nw, .nw]) (rk_rnil (rk_call (rf_round_knot self0.1 r0) (fun r1 => (rk_asgN (rs_asg (rk_bin (rk_index (rk_pure (d := ((eTs eI) r1)) (ep_var (d := ((eTs eI) r1)) rfl)  (rk_idxT (rk_meth (objC_u (c := [.is (.u (.o "Walker" [("cloth", .d ((eP2 (eTs eI) (eTs (eO eI))) self0.1)), ("stands", dL (List.map eI self0.2))])), .is (.v (eI many0)), .is (.v ((eTs eI) r1)), .nw]) (i := 0) (cn := "Walker") rfl) rfl (rk_rnil (rk_methK (objC_u (c := [.is (.u (.o "Walker" [("cloth", .d ((eP2 (eTs eI) (eTs (eO eI))) self0.1)), ("stands", dL (List.map eI self0.2))])), .is (.v (eI many0)), .is (.v ((eTs eI) r1)), .nw]) (i := 0) (cn := "Walker") rfl) rfl (rk_callX (rfk_Walker_at self0) (fun r2 => rs_nf (c' := [.is (.u (.o "Walker" [("cloth", .d ((eP2 (eTs eI) (eTs (eO eI))) self0.1)), ("stands", dL (List.map eI self0.2))])), .is (.v (eI many0)), .is (.v ((eTs eI) r1)), .nw]) (rk_idxP (xs := r1) (i := r2) fun i0 => (rk_pure (d := (eI many0)) (ep_var (d := (eI many0)) rfl)  (rk_put rfl (rk_asgN (rs_if (rk_tst (rk_bin (rk_bin (rk_pure (d := ((eTs (eO eI)) self0.1.2)) (ep_bin (ep_fldO (d := ((eP2 (eTs eI) (eTs (eO eI))) self0.1)) (objC_u (c := [.is (.u (.o "Walker" [("cloth", .d ((eP2 (eTs eI) (eTs (eO eI))) self0.1)), ("stands", dL (List.map eI self0.2))])), .is (.v (eI many0)), .is (.v ((eTs eI) r1)), .is (.v (eI (i0 + many0)))]) (i := 0) (cn := "Walker") rfl) rfl) ep_C rfl)  (rk_ixN (rk_pure (d := (eI (0 : Int))) ep_C  (rk_ixAt (d := ((eTs eI) r1)) (rk_ixT (f := eI) (xs := r1) fun a0 => (rk_ixT (f := (eO eI)) (xs := self0.1.2) fun a1 => (rk_pure (d := (eU ())) ep_C  (rk_put (isnt_none (f := eI) a1) (rk_put rfl (rk_ifF (rs_ret (rk_meth (objC_u (c := [.is (.u (.o "Walker" [("cloth", .d ((eP2 (eTs eI) (eTs (eO eI))) self0.1)), ("stands", dL (List.map eI self0.2))])), .is (.v (eI many0)), .is (.v ((eTs eI) r1)), .is (.v (eI (i0 + many0)))]) (i := 0) (cn := "Walker") rfl) rfl (rk_rcons (rk_ixN (rk_bin (rk_pure (d := (eI (i0 + many0))) (ep_var (d := (eI (i0 + many0))) rfl)  (rk_pure (d := (eI (r1.length : Int))) (ep_cb (ep_acons (ep_var (d := ((eTs eI) r1)) rfl) ep_anil) (len_T (f := eI) r1))  (rk_mod fun n0 => (rk_ixAt (d := ((eTs eI) r1)) (rk_ixT (f := eI) (xs := r1) fun a2 => (rk_rcons (rk_pure (d := (eI (iabs many0))) (ep_cb (ep_acons (ep_var (d := (eI many0)) rfl) ep_anil) rfl)  (rk_rnil (rk_methK (objC_u (c := [.is (.u (.o "Walker" [("cloth", .d ((eP2 (eTs eI) (eTs (eO eI))) self0.1)), ("stands", dL (List.map eI self0.2))])), .is (.v (eI many0)), .is (.v ((eTs eI) r1)), .is (.v (eI (i0 + many0)))]) (i := 0) (cn := "Walker") rfl) rfl (rk_callX (rfk_Walker_go_to self0 a2 (iabs many0)) (fun ⟨r3, self1⟩ => rs_nf (c' := [.is (.u (.o "Walker" [("cloth", .d ((eP2 (eTs eI) (eTs (eO eI))) self1.1)), ("stands", dL (List.map eI self1.2))])), .is (.v (eI many0)), .is (.v ((eTs eI) r1)), .is (.v (eI (i0 + many0)))]) (rk_ret (r := (r3, self1)) fun _ he => ⟨rfl, outs_of rfl rfl he⟩)) (fun _ h => outs_of rfl rfl h))))))) rfl))))))))) (rs_nxs (rs_asg (rk_pure (d := (eI (imax (0 : Int) (imin (i0 + many0) ((r1.length : Int) - (1 : Int)))))) (ep_cb (ep_acons ep_C (ep_acons (ep_cb (ep_acons (ep_var (d := (eI (i0 + many0))) rfl) (ep_acons (ep_bin (ep_cb (ep_acons (ep_var (d := ((eTs eI) r1)) rfl) ep_anil) (len_T (f := eI) r1)) ep_C rfl) ep_anil)) rfl) ep_anil)) rfl)  (rk_asgN (rs_last (rs_ret (rk_meth (objC_u (c := [.is (.u (.o "Walker" [("cloth", .d ((eP2 (eTs eI) (eTs (eO eI))) self0.1)), ("stands", dL (List.map eI self0.2))])), .is (.v (eI many0)), .is (.v ((eTs eI) r1)), .is (.v (eI (imax (0 : Int) (imin (i0 + many0) ((r1.length : Int) - (1 : Int))))))]) (i := 0) (cn := "Walker") rfl) rfl (rk_rcons (rk_ixN (rk_pure (d := (eI (imax (0 : Int) (imin (i0 + many0) ((r1.length : Int) - (1 : Int)))))) (ep_var (d := (eI (imax (0 : Int) (imin (i0 + many0) ((r1.length : Int) - (1 : Int)))))) rfl)  (rk_ixAt (d := ((eTs eI) r1)) (rk_ixT (f := eI) (xs := r1) fun a3 => (rk_rcons (rk_cb (rk_acons (rk_bin (rk_pure (d := (eI (imax (0 : Int) (imin (i0 + many0) ((r1.length : Int) - (1 : Int)))))) (ep_var (d := (eI (imax (0 : Int) (imin (i0 + many0) ((r1.length : Int) - (1 : Int)))))) rfl)  (rk_index (rk_pure (d := ((eTs eI) r1)) (ep_var (d := ((eTs eI) r1)) rfl)  (rk_idxT (rk_meth (objC_u (c := [.is (.u (.o "Walker" [("cloth", .d ((eP2 (eTs eI) (eTs (eO eI))) self0.1)), ("stands", dL (List.map eI self0.2))])), .is (.v (eI many0)), .is (.v ((eTs eI) r1)), .is (.v (eI (imax (0 : Int) (imin (i0 + many0) ((r1.length : Int) - (1 : Int))))))]) (i := 0) (cn := "Walker") rfl) rfl (rk_rnil (rk_methK (objC_u (c := [.is (.u (.o "Walker" [("cloth", .d ((eP2 (eTs eI) (eTs (eO eI))) self0.1)), ("stands", dL (List.map eI self0.2))])), .is (.v (eI many0)), .is (.v ((eTs eI) r1)), .is (.v (eI (imax (0 : Int) (imin (i0 + many0) ((r1.length : Int) - (1 : Int))))))]) (i := 0) (cn := "Walker") rfl) rfl (rk_callX (rfk_Walker_at self0) (fun r4 => rs_nf (c' := [.is (.u (.o "Walker" [("cloth", .d ((eP2 (eTs eI) (eTs (eO eI))) self0.1)), ("stands", dL (List.map eI self0.2))])), .is (.v (eI many0)), .is (.v ((eTs eI) r1)), .is (.v (eI (imax (0 : Int) (imin (i0 + many0) ((r1.length : Int) - (1 : Int))))))]) (rk_idxP (xs := r1) (i := r4) fun i1 => (rk_put rfl (rk_anil (rk_put rfl (rk_rnil (rk_methK (objC_u (c := [.is (.u (.o "Walker" [("cloth", .d ((eP2 (eTs eI) (eTs (eO eI))) self0.1)), ("stands", dL (List.map eI self0.2))])), .is (.v (eI many0)), .is (.v ((eTs eI) r1)), .is (.v (eI (imax (0 : Int) (imin (i0 + many0) ((r1.length : Int) - (1 : Int))))))]) (i := 0) (cn := "Walker") rfl) rfl (rk_callX (rfk_Walker_go_to self0 a3 (iabs ((imax (0 : Int) (imin (i0 + many0) ((r1.length : Int) - (1 : Int)))) - i1))) (fun ⟨r5, self2⟩ => rs_nf (c' := [.is (.u (.o "Walker" [("cloth", .d ((eP2 (eTs eI) (eTs (eO eI))) self2.1)), ("stands", dL (List.map eI self2.2))])), .is (.v (eI many0)), .is (.v ((eTs eI) r1)), .is (.v (eI (imax (0 : Int) (imin (i0 + many0) ((r1.length : Int) - (1 : Int))))))]) (rk_ret (r := (r5, self2)) fun _ he => ⟨rfl, outs_of rfl rfl he⟩)) (fun _ h => outs_of rfl rfl h))))))))) (fun _ h => outs_of rfl rfl h)))))))))))))) rfl))))))))))))))))) rfl))))))))))))) (fun _ h => outs_of rfl rfl h)))))))))))) (fun _ _ h h2 => by rw [h2 rfl]; exact outs_of rfl rfl h)))) (fun _ h => outs_of rfl rfl h))))))))))
def n_Walker_left (self0 : (((List Int) × (List (Option Int))) × (List Int))) (many0 : Int) : N (Int × (((List Int) × (List (Option Int))) × (List Int))) := Ct.fn (
 (n_look_at_times many0).ct fun u0 =>
 (n_Walker_turned_by self0 many0).ct (P2 fun r0 self1 =>
 .rt (r0, self1)) : Ct Unit Unit (Int × (((List Int) × (List (Option Int))) × (List Int))))
theorem rfk_Walker_left (self0 : (((List Int) × (List (Option Int))) × (List Int))) (many0 : Int) : RFk (n_Walker_left self0 many0) (f_Walker_left [.u (.o "Walker" [("cloth", .d ((eP2 (eTs eI) (eTs (eO eI))) self0.1)), ("stands", dL (List.map eI self0.2))]), .v (eI many0)]) (fun r => (eI r.1)) (fun r => [.u (.o "Walker" [("cloth", .d ((eP2 (eTs eI) (eTs (eO eI))) r.2.1)), ("stands", dL (List.map eI r.2.2))]), .no]) [.u (.o "Walker" [("cloth", .d ((eP2 (eTs eI) (eTs (eO eI))) self0.1)), ("stands", dL (List.map eI self0.2))]), .no] := rfk_of (n := 2) (b := b_Walker_left) (c0 := [.is (.u (.o "Walker" [("cloth", .d ((eP2 (eTs eI) (eTs (eO eI))) self0.1)), ("stands", dL (List.map eI self0.2))])), .is (.v (eI many0))])
 (rs_drop (rk_callN (rk_rcons (rk_pure (d := (eI many0)) (ep_var (d := (eI many0)) rfl)  (rk_rnil (rk_call (rf_look_at_times many0) (fun u0 => (rs_last (rs_ret (rk_meth (objC_u (c := [.is (.u (.o "Walker" [("cloth", .d ((eP2 (eTs eI) (eTs (eO eI))) self0.1)), ("stands", dL (List.map eI self0.2))])), .is (.v (eI many0))]) (i := 0) (cn := "Walker") rfl) rfl (rk_rcons (rk_pure (d := (eI many0)) (ep_var (d := (eI many0)) rfl)  (rk_rnil (rk_methK (objC_u (c := [.is (.u (.o "Walker" [("cloth", .d ((eP2 (eTs eI) (eTs (eO eI))) self0.1)), ("stands", dL (List.map eI self0.2))])), .is (.v (eI many0))]) (i := 0) (cn := "Walker") rfl) rfl (rk_callX (rfk_Walker_turned_by self0 many0) (fun ⟨r0, self1⟩ => rs_nf (c' := [.is (.u (.o "Walker" [("cloth", .d ((eP2 (eTs eI) (eTs (eO eI))) self1.1)), ("stands", dL (List.map eI self1.2))])), .is (.v (eI many0))]) (rk_ret (r := (r0, self1)) fun _ he => ⟨rfl, outs_of rfl rfl he⟩)) (fun _ h => outs_of rfl rfl h)))))))))) (fun _ _ h h2 => by rw [h2 rfl]; exact outs_of rfl rfl h)))))))
def n_Walker_right (self0 : (((List Int) × (List (Option Int))) × (List Int))) (many0 : Int) : N (Int × (((List Int) × (List (Option Int))) × (List Int))) := Ct.fn (
 (n_look_at_times many0).ct fun u0 =>
 (n_Walker_turned_by self0 ((0 : Int) - many0)).ct (P2 fun r0 self1 =>
 .rt (r0, self1)) : Ct Unit Unit (Int × (((List Int) × (List (Option Int))) × (List Int))))
theorem rfk_Walker_right (self0 : (((List Int) × (List (Option Int))) × (List Int))) (many0 : Int) : RFk (n_Walker_right self0 many0) (f_Walker_right [.u (.o "Walker" [("cloth", .d ((eP2 (eTs eI) (eTs (eO eI))) self0.1)), ("stands", dL (List.map eI self0.2))]), .v (eI many0)]) (fun r => (eI r.1)) (fun r => [.u (.o "Walker" [("cloth", .d ((eP2 (eTs eI) (eTs (eO eI))) r.2.1)), ("stands", dL (List.map eI r.2.2))]), .no]) [.u (.o "Walker" [("cloth", .d ((eP2 (eTs eI) (eTs (eO eI))) self0.1)), ("stands", dL (List.map eI self0.2))]), .no] := rfk_of (n := 2) (b := b_Walker_right) (c0 := [.is (.u (.o "Walker" [("cloth", .d ((eP2 (eTs eI) (eTs (eO eI))) self0.1)), ("stands", dL (List.map eI self0.2))])), .is (.v (eI many0))])
 (rs_drop (rk_callN (rk_rcons (rk_pure (d := (eI many0)) (ep_var (d := (eI many0)) rfl)  (rk_rnil (rk_call (rf_look_at_times many0) (fun u0 => (rs_last (rs_ret (rk_meth (objC_u (c := [.is (.u (.o "Walker" [("cloth", .d ((eP2 (eTs eI) (eTs (eO eI))) self0.1)), ("stands", dL (List.map eI self0.2))])), .is (.v (eI many0))]) (i := 0) (cn := "Walker") rfl) rfl (rk_rcons (rk_pure (d := (eI ((0 : Int) - many0))) (ep_bin ep_C (ep_var (d := (eI many0)) rfl) rfl)  (rk_rnil (rk_methK (objC_u (c := [.is (.u (.o "Walker" [("cloth", .d ((eP2 (eTs eI) (eTs (eO eI))) self0.1)), ("stands", dL (List.map eI self0.2))])), .is (.v (eI many0))]) (i := 0) (cn := "Walker") rfl) rfl (rk_callX (rfk_Walker_turned_by self0 ((0 : Int) - many0)) (fun ⟨r0, self1⟩ => rs_nf (c' := [.is (.u (.o "Walker" [("cloth", .d ((eP2 (eTs eI) (eTs (eO eI))) self1.1)), ("stands", dL (List.map eI self1.2))])), .is (.v (eI many0))]) (rk_ret (r := (r0, self1)) fun _ he => ⟨rfl, outs_of rfl rfl he⟩)) (fun _ h => outs_of rfl rfl h)))))))))) (fun _ _ h h2 => by rw [h2 rfl]; exact outs_of rfl rfl h)))))))
def n_Walker_over (self0 : (((List Int) × (List (Option Int))) × (List Int))) : N (Int × (((List Int) × (List (Option Int))) × (List Int))) := Ct.fn (
 (n_Walker_at self0).ct fun r0 =>
 (idx self0.1.2 r0).ct fun a0 =>
 (optC a0
 ((n_Walker_at self0).ct fun r1 =>
 (n_Walker_go_to self0 r1 (0 : Int)).ct (P2 fun r2 self1 =>
 .rt (r2, self1)))
 (fun mate0 => (n_Walker_go_to self0 mate0 (1 : Int)).ct (P2 fun r3 self2 =>
 .rt (r3, self2)))) : Ct Unit Unit (Int × (((List Int) × (List (Option Int))) × (List Int))))
theorem rfk_Walker_over (self0 : (((List Int) × (List (Option Int))) × (List Int))) : RFk (n_Walker_over self0) (f_Walker_over [.u (.o "Walker" [("cloth", .d ((eP2 (eTs eI) (eTs (eO eI))) self0.1)), ("stands", dL (List.map eI self0.2))])]) (fun r => (eI r.1)) (fun r => [.u (.o "Walker" [("cloth", .d ((eP2 (eTs eI) (eTs (eO eI))) r.2.1)), ("stands", dL (List.map eI r.2.2))])]) [.u (.o "Walker" [("cloth", .d ((eP2 (eTs eI) (eTs (eO eI))) self0.1)), ("stands", dL (List.map eI self0.2))])] := rfk_of (n := 2) (b := b_Walker_over) (c0 := [.is (.u (.o "Walker" [("cloth", .d ((eP2 (eTs eI) (eTs (eO eI))) self0.1)), ("stands", dL (List.map eI self0.2))])), .nw])
 (rs_asg (rk_bin (rk_pure (d := ((eTs (eO eI)) self0.1.2)) (ep_bin (ep_fldO (d := ((eP2 (eTs eI) (eTs (eO eI))) self0.1)) (objC_u (c := [.is (.u (.o "Walker" [("cloth", .d ((eP2 (eTs eI) (eTs (eO eI))) self0.1)), ("stands", dL (List.map eI self0.2))])), .nw]) (i := 0) (cn := "Walker") rfl) rfl) ep_C rfl)  (rk_meth (objC_u (c := [.is (.u (.o "Walker" [("cloth", .d ((eP2 (eTs eI) (eTs (eO eI))) self0.1)), ("stands", dL (List.map eI self0.2))])), .nw]) (i := 0) (cn := "Walker") rfl) rfl (rk_rnil (rk_methK (objC_u (c := [.is (.u (.o "Walker" [("cloth", .d ((eP2 (eTs eI) (eTs (eO eI))) self0.1)), ("stands", dL (List.map eI self0.2))])), .nw]) (i := 0) (cn := "Walker") rfl) rfl (rk_callX (rfk_Walker_at self0) (fun r0 => rs_nf (c' := [.is (.u (.o "Walker" [("cloth", .d ((eP2 (eTs eI) (eTs (eO eI))) self0.1)), ("stands", dL (List.map eI self0.2))])), .nw]) (rk_ixT (f := (eO eI)) (xs := self0.1.2) fun a0 => (rk_asgN (rs_if (by apply rs_opt (x := a0); exact (rk_pure (d := true) (ep_tst (ep_bin (ep_var (d := ((eO eI) none)) rfl) ep_C (is_none (f := eI) none))) (rs_ret (rk_meth (objC_u (c := [.is (.u (.o "Walker" [("cloth", .d ((eP2 (eTs eI) (eTs (eO eI))) self0.1)), ("stands", dL (List.map eI self0.2))])), .is (.v ((eO eI) none))]) (i := 0) (cn := "Walker") rfl) rfl (rk_rcons (rk_meth (objC_u (c := [.is (.u (.o "Walker" [("cloth", .d ((eP2 (eTs eI) (eTs (eO eI))) self0.1)), ("stands", dL (List.map eI self0.2))])), .is (.v ((eO eI) none))]) (i := 0) (cn := "Walker") rfl) rfl (rk_rnil (rk_methK (objC_u (c := [.is (.u (.o "Walker" [("cloth", .d ((eP2 (eTs eI) (eTs (eO eI))) self0.1)), ("stands", dL (List.map eI self0.2))])), .is (.v ((eO eI) none))]) (i := 0) (cn := "Walker") rfl) rfl (rk_callX (rfk_Walker_at self0) (fun r1 => rs_nf (c' := [.is (.u (.o "Walker" [("cloth", .d ((eP2 (eTs eI) (eTs (eO eI))) self0.1)), ("stands", dL (List.map eI self0.2))])), .is (.v ((eO eI) none))]) (rk_rcons (rk_pure (d := (eI (0 : Int))) ep_C  (rk_rnil (rk_methK (objC_u (c := [.is (.u (.o "Walker" [("cloth", .d ((eP2 (eTs eI) (eTs (eO eI))) self0.1)), ("stands", dL (List.map eI self0.2))])), .is (.v ((eO eI) none))]) (i := 0) (cn := "Walker") rfl) rfl (rk_callX (rfk_Walker_go_to self0 r1 (0 : Int)) (fun ⟨r2, self1⟩ => rs_nf (c' := [.is (.u (.o "Walker" [("cloth", .d ((eP2 (eTs eI) (eTs (eO eI))) self1.1)), ("stands", dL (List.map eI self1.2))])), .is (.v ((eO eI) none))]) (rk_ret (r := (r2, self1)) fun _ he => ⟨rfl, outs_of rfl rfl he⟩)) (fun _ h => outs_of rfl rfl h))))))) (fun _ h => outs_of rfl rfl h))))))))); exact (fun mate0 => rk_pure (d := false) (ep_tst (ep_bin (ep_var (d := (eI mate0)) rfl) ep_C rfl)) (rs_nxs (rs_last (rs_ret (rk_meth (objC_u (c := [.is (.u (.o "Walker" [("cloth", .d ((eP2 (eTs eI) (eTs (eO eI))) self0.1)), ("stands", dL (List.map eI self0.2))])), .is (.v (eI mate0))]) (i := 0) (cn := "Walker") rfl) rfl (rk_rcons (rk_pure (d := (eI mate0)) (ep_var (d := (eI mate0)) rfl)  (rk_rcons (rk_pure (d := (eI (1 : Int))) ep_C  (rk_rnil (rk_methK (objC_u (c := [.is (.u (.o "Walker" [("cloth", .d ((eP2 (eTs eI) (eTs (eO eI))) self0.1)), ("stands", dL (List.map eI self0.2))])), .is (.v (eI mate0))]) (i := 0) (cn := "Walker") rfl) rfl (rk_callX (rfk_Walker_go_to self0 mate0 (1 : Int)) (fun ⟨r3, self2⟩ => rs_nf (c' := [.is (.u (.o "Walker" [("cloth", .d ((eP2 (eTs eI) (eTs (eO eI))) self2.1)), ("stands", dL (List.map eI self2.2))])), .is (.v (eI mate0))]) (rk_ret (r := (r3, self2)) fun _ he => ⟨rfl, outs_of rfl rfl he⟩)) (fun _ h => outs_of rfl rfl h)))))))))))))))))) (fun _ h => outs_of rfl rfl h))))))))
def n__law_went (walker0 : (((List Int) × (List (Option Int))) × (List Int))) (word0 : Str) (many0 : Int) : N ((Option Int) × (((List Int) × (List (Option Int))) × (List Int))) := Ct.fn (
 (eqN (eS word0) (eS ("on" : Str))).ct fun b0 =>
 (if b0 = true then
 (n_Walker_on walker0 many0).ct (P2 fun r0 walker1 =>
 .rt ((some r0), walker1)) else
 (eqN (eS word0) (eS ("ahead" : Str))).ct fun b1 =>
 (if b1 = true then
 (n_Walker_ahead walker0 many0).ct (P2 fun r1 walker2 =>
 .rt ((some r1), walker2)) else
 (eqN (eS word0) (eS ("left" : Str))).ct fun b2 =>
 (if b2 = true then
 (n_Walker_left walker0 many0).ct (P2 fun r2 walker3 =>
 .rt ((some r2), walker3)) else
 (eqN (eS word0) (eS ("right" : Str))).ct fun b3 =>
 (if b3 = true then
 (n_Walker_right walker0 many0).ct (P2 fun r3 walker4 =>
 .rt ((some r3), walker4)) else
 (eqN (eS word0) (eS ("over" : Str))).ct fun b4 =>
 (if b4 = true then
 (n_Walker_over walker0).ct (P2 fun r4 walker5 =>
 .rt ((some r4), walker5)) else
 (n_Walker_back walker0).ct fun walker6 =>
 .rt (none, walker6)))))) : Ct Unit Unit ((Option Int) × (((List Int) × (List (Option Int))) × (List Int))))
theorem rfk__law_went (walker0 : (((List Int) × (List (Option Int))) × (List Int))) (word0 : Str) (many0 : Int) : RFk (n__law_went walker0 word0 many0) (f__law_went [.u (.o "Walker" [("cloth", .d ((eP2 (eTs eI) (eTs (eO eI))) walker0.1)), ("stands", dL (List.map eI walker0.2))]), .v (eS word0), .v (eI many0)]) (fun r => ((eO eI) r.1)) (fun r => [.u (.o "Walker" [("cloth", .d ((eP2 (eTs eI) (eTs (eO eI))) r.2.1)), ("stands", dL (List.map eI r.2.2))]), .no, .no]) [.u (.o "Walker" [("cloth", .d ((eP2 (eTs eI) (eTs (eO eI))) walker0.1)), ("stands", dL (List.map eI walker0.2))]), .no, .no] := rfk_of (n := 3) (b := b__law_went) (c0 := [.is (.u (.o "Walker" [("cloth", .d ((eP2 (eTs eI) (eTs (eO eI))) walker0.1)), ("stands", dL (List.map eI walker0.2))])), .is (.v (eS word0)), .is (.v (eI many0))])
 (rs_if (rk_tst (rk_bin (rk_pure (d := (eS word0)) (ep_var (d := (eS word0)) rfl)  (rk_pure (d := (eS ("on" : Str))) ep_C  (rk_eqD (x := (eS word0)) (y := (eS ("on" : Str))) fun b0 => (rk_put rfl (rk_ifF (rs_ret (rk_meth (objC_u (c := [.is (.u (.o "Walker" [("cloth", .d ((eP2 (eTs eI) (eTs (eO eI))) walker0.1)), ("stands", dL (List.map eI walker0.2))])), .is (.v (eS word0)), .is (.v (eI many0))]) (i := 0) (cn := "Walker") rfl) rfl (rk_rcons (rk_pure (d := (eI many0)) (ep_var (d := (eI many0)) rfl)  (rk_rnil (rk_methK (objC_u (c := [.is (.u (.o "Walker" [("cloth", .d ((eP2 (eTs eI) (eTs (eO eI))) walker0.1)), ("stands", dL (List.map eI walker0.2))])), .is (.v (eS word0)), .is (.v (eI many0))]) (i := 0) (cn := "Walker") rfl) rfl (rk_callX (rfk_Walker_on walker0 many0) (fun ⟨r0, walker1⟩ => rs_nf (c' := [.is (.u (.o "Walker" [("cloth", .d ((eP2 (eTs eI) (eTs (eO eI))) walker1.1)), ("stands", dL (List.map eI walker1.2))])), .is (.v (eS word0)), .is (.v (eI many0))]) (rk_ret (r := ((some r0), walker1)) fun _ he => ⟨rfl, outs_of rfl rfl he⟩)) (fun _ h => outs_of rfl rfl h)))))))) (rs_nxs (rs_if (rk_tst (rk_bin (rk_pure (d := (eS word0)) (ep_var (d := (eS word0)) rfl)  (rk_pure (d := (eS ("ahead" : Str))) ep_C  (rk_eqD (x := (eS word0)) (y := (eS ("ahead" : Str))) fun b1 => (rk_put rfl (rk_ifF (rs_ret (rk_meth (objC_u (c := [.is (.u (.o "Walker" [("cloth", .d ((eP2 (eTs eI) (eTs (eO eI))) walker0.1)), ("stands", dL (List.map eI walker0.2))])), .is (.v (eS word0)), .is (.v (eI many0))]) (i := 0) (cn := "Walker") rfl) rfl (rk_rcons (rk_pure (d := (eI many0)) (ep_var (d := (eI many0)) rfl)  (rk_rnil (rk_methK (objC_u (c := [.is (.u (.o "Walker" [("cloth", .d ((eP2 (eTs eI) (eTs (eO eI))) walker0.1)), ("stands", dL (List.map eI walker0.2))])), .is (.v (eS word0)), .is (.v (eI many0))]) (i := 0) (cn := "Walker") rfl) rfl (rk_callX (rfk_Walker_ahead walker0 many0) (fun ⟨r1, walker2⟩ => rs_nf (c' := [.is (.u (.o "Walker" [("cloth", .d ((eP2 (eTs eI) (eTs (eO eI))) walker2.1)), ("stands", dL (List.map eI walker2.2))])), .is (.v (eS word0)), .is (.v (eI many0))]) (rk_ret (r := ((some r1), walker2)) fun _ he => ⟨rfl, outs_of rfl rfl he⟩)) (fun _ h => outs_of rfl rfl h)))))))) (rs_nxs (rs_if (rk_tst (rk_bin (rk_pure (d := (eS word0)) (ep_var (d := (eS word0)) rfl)  (rk_pure (d := (eS ("left" : Str))) ep_C  (rk_eqD (x := (eS word0)) (y := (eS ("left" : Str))) fun b2 => (rk_put rfl (rk_ifF (rs_ret (rk_meth (objC_u (c := [.is (.u (.o "Walker" [("cloth", .d ((eP2 (eTs eI) (eTs (eO eI))) walker0.1)), ("stands", dL (List.map eI walker0.2))])), .is (.v (eS word0)), .is (.v (eI many0))]) (i := 0) (cn := "Walker") rfl) rfl (rk_rcons (rk_pure (d := (eI many0)) (ep_var (d := (eI many0)) rfl)  (rk_rnil (rk_methK (objC_u (c := [.is (.u (.o "Walker" [("cloth", .d ((eP2 (eTs eI) (eTs (eO eI))) walker0.1)), ("stands", dL (List.map eI walker0.2))])), .is (.v (eS word0)), .is (.v (eI many0))]) (i := 0) (cn := "Walker") rfl) rfl (rk_callX (rfk_Walker_left walker0 many0) (fun ⟨r2, walker3⟩ => rs_nf (c' := [.is (.u (.o "Walker" [("cloth", .d ((eP2 (eTs eI) (eTs (eO eI))) walker3.1)), ("stands", dL (List.map eI walker3.2))])), .is (.v (eS word0)), .is (.v (eI many0))]) (rk_ret (r := ((some r2), walker3)) fun _ he => ⟨rfl, outs_of rfl rfl he⟩)) (fun _ h => outs_of rfl rfl h)))))))) (rs_nxs (rs_if (rk_tst (rk_bin (rk_pure (d := (eS word0)) (ep_var (d := (eS word0)) rfl)  (rk_pure (d := (eS ("right" : Str))) ep_C  (rk_eqD (x := (eS word0)) (y := (eS ("right" : Str))) fun b3 => (rk_put rfl (rk_ifF (rs_ret (rk_meth (objC_u (c := [.is (.u (.o "Walker" [("cloth", .d ((eP2 (eTs eI) (eTs (eO eI))) walker0.1)), ("stands", dL (List.map eI walker0.2))])), .is (.v (eS word0)), .is (.v (eI many0))]) (i := 0) (cn := "Walker") rfl) rfl (rk_rcons (rk_pure (d := (eI many0)) (ep_var (d := (eI many0)) rfl)  (rk_rnil (rk_methK (objC_u (c := [.is (.u (.o "Walker" [("cloth", .d ((eP2 (eTs eI) (eTs (eO eI))) walker0.1)), ("stands", dL (List.map eI walker0.2))])), .is (.v (eS word0)), .is (.v (eI many0))]) (i := 0) (cn := "Walker") rfl) rfl (rk_callX (rfk_Walker_right walker0 many0) (fun ⟨r3, walker4⟩ => rs_nf (c' := [.is (.u (.o "Walker" [("cloth", .d ((eP2 (eTs eI) (eTs (eO eI))) walker4.1)), ("stands", dL (List.map eI walker4.2))])), .is (.v (eS word0)), .is (.v (eI many0))]) (rk_ret (r := ((some r3), walker4)) fun _ he => ⟨rfl, outs_of rfl rfl he⟩)) (fun _ h => outs_of rfl rfl h)))))))) (rs_nxs (rs_if (rk_tst (rk_bin (rk_pure (d := (eS word0)) (ep_var (d := (eS word0)) rfl)  (rk_pure (d := (eS ("over" : Str))) ep_C  (rk_eqD (x := (eS word0)) (y := (eS ("over" : Str))) fun b4 => (rk_put rfl (rk_ifF (rs_ret (rk_meth (objC_u (c := [.is (.u (.o "Walker" [("cloth", .d ((eP2 (eTs eI) (eTs (eO eI))) walker0.1)), ("stands", dL (List.map eI walker0.2))])), .is (.v (eS word0)), .is (.v (eI many0))]) (i := 0) (cn := "Walker") rfl) rfl (rk_rnil (rk_methK (objC_u (c := [.is (.u (.o "Walker" [("cloth", .d ((eP2 (eTs eI) (eTs (eO eI))) walker0.1)), ("stands", dL (List.map eI walker0.2))])), .is (.v (eS word0)), .is (.v (eI many0))]) (i := 0) (cn := "Walker") rfl) rfl (rk_callX (rfk_Walker_over walker0) (fun ⟨r4, walker5⟩ => rs_nf (c' := [.is (.u (.o "Walker" [("cloth", .d ((eP2 (eTs eI) (eTs (eO eI))) walker5.1)), ("stands", dL (List.map eI walker5.2))])), .is (.v (eS word0)), .is (.v (eI many0))]) (rk_ret (r := ((some r4), walker5)) fun _ he => ⟨rfl, outs_of rfl rfl he⟩)) (fun _ h => outs_of rfl rfl h)))))) (rs_nxs (rs_last (rs_ret (rk_meth (objC_u (c := [.is (.u (.o "Walker" [("cloth", .d ((eP2 (eTs eI) (eTs (eO eI))) walker0.1)), ("stands", dL (List.map eI walker0.2))])), .is (.v (eS word0)), .is (.v (eI many0))]) (i := 0) (cn := "Walker") rfl) rfl (rk_rnil (rk_methK (objC_u (c := [.is (.u (.o "Walker" [("cloth", .d ((eP2 (eTs eI) (eTs (eO eI))) walker0.1)), ("stands", dL (List.map eI walker0.2))])), .is (.v (eS word0)), .is (.v (eI many0))]) (i := 0) (cn := "Walker") rfl) rfl (rk_callX (rfk_Walker_back walker0) (fun walker6 => rs_nf (c' := [.is (.u (.o "Walker" [("cloth", .d ((eP2 (eTs eI) (eTs (eO eI))) walker6.1)), ("stands", dL (List.map eI walker6.2))])), .is (.v (eS word0)), .is (.v (eI many0))]) (rk_ret (r := (none, walker6)) fun _ he => ⟨rfl, outs_of rfl rfl he⟩)) (fun _ h => outs_of rfl rfl h))))))))))))))))))))))))))))))))))))))))))))))))))))
def n__law_tried (walker0 : (((List Int) × (List (Option Int))) × (List Int))) (word0 : Str) (many0 : Int) : N (((Option Int) × Str) × (((List Int) × (List (Option Int))) × (List Int))) := Ct.fn (
 (Ct.sq (tryC ((n__law_went walker0 word0 many0).ct (P2 fun r0 walker2 =>
 .nx (walker2, r0, ("" : Str))) : Ct ((((List Int) × (List (Option Int))) × (List Int)) × (Option Int) × Str) _ _) fun x => (kindT x [("SkinError", none)]).ct fun s0 => .nx (walker0, none, s0)) (P3 fun walker1 found0 kind0 =>
 .rt ((found0, kind0), walker1))) : Ct Unit Unit (((Option Int) × Str) × (((List Int) × (List (Option Int))) × (List Int))))
theorem rfk__law_tried (walker0 : (((List Int) × (List (Option Int))) × (List Int))) (word0 : Str) (many0 : Int) : RFk (n__law_tried walker0 word0 many0) (f__law_tried [.u (.o "Walker" [("cloth", .d ((eP2 (eTs eI) (eTs (eO eI))) walker0.1)), ("stands", dL (List.map eI walker0.2))]), .v (eS word0), .v (eI many0)]) (fun r => ((eP2 (eO eI) eS) r.1)) (fun r => [.u (.o "Walker" [("cloth", .d ((eP2 (eTs eI) (eTs (eO eI))) r.2.1)), ("stands", dL (List.map eI r.2.2))]), .no, .no]) [.u (.o "Walker" [("cloth", .d ((eP2 (eTs eI) (eTs (eO eI))) walker0.1)), ("stands", dL (List.map eI walker0.2))]), .no, .no] := rfk_of (n := 6) (b := b__law_tried) (c0 := [.is (.u (.o "Walker" [("cloth", .d ((eP2 (eTs eI) (eTs (eO eI))) walker0.1)), ("stands", dL (List.map eI walker0.2))])), .is (.v (eS word0)), .is (.v (eI many0)), .nw, .nw, .nw])
 (rs_asg (rk_pure (d := ((eO eI) none)) ep_C  (rk_asgN (rs_asg (rk_pure (d := (eS ("" : Str))) ep_C  (rk_asgN (rs_try (hl := [("SkinError", none)]) (c1 := (P3 fun walker1 found0 kind0 => [.is (.u (.o "Walker" [("cloth", .d ((eP2 (eTs eI) (eTs (eO eI))) walker1.1)), ("stands", dL (List.map eI walker1.2))])), .is (.v (eS word0)), .is (.v (eI many0)), .is (.v ((eO eI) found0)), .is (.v (eS kind0)), .nw])) (cx := [.is (.u (.o "Walker" [("cloth", .d ((eP2 (eTs eI) (eTs (eO eI))) walker0.1)), ("stands", dL (List.map eI walker0.2))])), .is (.v (eS word0)), .is (.v (eI many0)), .is (.v ((eO eI) none)), .is (.v (eS ("" : Str))), .nw]) (V := fun s0 => (walker0, none, s0)) (rs_last (rs_asg (rk_callN (rk_lend (rk_rcons (rk_pure (d := (eS word0)) (ep_var (d := (eS word0)) rfl)  (rk_rcons (rk_pure (d := (eI many0)) (ep_var (d := (eI many0)) rfl)  (rk_rnil (rk_lendK (rk_callX (rfk__law_went walker0 word0 many0) (fun ⟨r0, walker2⟩ => rs_nf (c' := [.is (.u (.o "Walker" [("cloth", .d ((eP2 (eTs eI) (eTs (eO eI))) walker2.1)), ("stands", dL (List.map eI walker2.2))])), .is (.v (eS word0)), .is (.v (eI many0)), .is (.v ((eO eI) none)), .is (.v (eS ("" : Str))), .nw]) (rk_asgN (rs_nx fun _ he => he.sub (sub_cons wk_is (sub_cons wk_is (sub_cons wk_is (sub_cons wk_is (sub_cons wk_is (sub_cons wk_nw sub_nil))))))))) (fun _ h => h.sub (sub_cons wk_is (sub_cons wk_is (sub_cons wk_is (sub_cons wk_is (sub_cons wk_is (sub_cons wk_nw sub_nil)))))))))))))))))) (fun s0 => (sub_cons wk_is (sub_cons wk_is (sub_cons wk_is (sub_cons wk_is (sub_cons wk_is (sub_cons wk_nw sub_nil))))))) (fun ⟨walker1, found0, kind0⟩ => (rs_last (rs_ret (rk_pure (d := ((eP2 (eO eI) eS) (found0, kind0))) (ep_tup (ep_acons (ep_var (d := ((eO eI) found0)) rfl) (ep_acons (ep_var (d := (eS kind0)) rfl) ep_anil)))  (rk_ret (r := ((found0, kind0), walker1)) fun _ he => ⟨rfl, outs_of rfl rfl he⟩))))) (fun _ h => outs_of rfl rfl h))))))))
def n__law_goal (skin0 : ((List Int) × (List (Option Int)))) (at0 : Int) (word0 : Str) (many0 : Int) : N (Int × Int) := Ct.fn (
 (eqN (eS word0) (eS ("over" : Str))).ct fun b0 =>
 (if b0 = true then
 (idx skin0.2 at0).ct fun a0 =>
 .rt (optC a0 (at0, (0 : Int)) (fun mate0 => (mate0, (1 : Int)))) else
 (Ct.fn ((eqN (eS word0) (eS ("on" : Str))).ct fun b1 =>
 (if b1 = true then
 .rt true else
 (eqN (eS word0) (eS ("ahead" : Str))).ct fun b2 =>
 .rt b2) : Ct Unit Unit Bool)).ct fun b3 =>
 (if b3 = true then
 (n__law_patch skin0 at0).ct fun r0 =>
 (eqN (eS word0) (eS ("ahead" : Str))).ct fun b4 =>
 (idx [many0, ((0 : Int) - many0)] (b2i b4)).ct fun a1 =>
 (modN a1 (r0.length : Int)).ct fun n0 =>
 (idx r0 n0).ct fun a2 =>
 .rt (a2, many0) else
 (n__law_knot skin0 at0).ct fun r1 =>
 (indexN r1 at0).ct fun i0 =>
 (idx r1 (0 : Int)).ct fun a3 =>
 (idx skin0.2 a3).ct fun a4 =>
 (if (!a4.isNone) = true then
 (eqN (eS word0) (eS ("right" : Str))).ct fun b5 =>
 (idx [many0, ((0 : Int) - many0)] (b2i b5)).ct fun a5 =>
 (modN (i0 + a5) (r1.length : Int)).ct fun n1 =>
 (idx r1 n1).ct fun a6 =>
 .rt (a6, many0) else
 (eqN (eS word0) (eS ("right" : Str))).ct fun b6 =>
 (idx [(((r1.length : Int) - (1 : Int)) - i0), i0] (b2i b6)).ct fun a7 =>
 (eqN (eS word0) (eS ("right" : Str))).ct fun b7 =>
 (idx [(imin a7 many0), ((0 : Int) - (imin a7 many0))] (b2i b7)).ct fun a8 =>
 (idx r1 (i0 + a8)).ct fun a9 =>
 .rt (a9, (imin a7 many0))))) : Ct Unit Unit (Int × Int))
theorem rf__law_goal (skin0 : ((List Int) × (List (Option Int)))) (at0 : Int) (word0 : Str) (many0 : Int) : RF (n__law_goal skin0 at0 word0 many0) (f__law_goal [.v ((eP2 (eTs eI) (eTs (eO eI))) skin0), .v (eI at0), .v (eS word0), .v (eI many0)]) (fun r => ((eP2 eI eI) r)) (fun r => [.no, .no, .no, .no]) := rf_of (n := 9) (b := b__law_goal) (c0 := [.is (.v ((eP2 (eTs eI) (eTs (eO eI))) skin0)), .is (.v (eI at0)), .is (.v (eS word0)), .is (.v (eI many0)), .nw, .nw, .nw, .nw, .nw])
 (rs_if (rk_tst (rk_bin (rk_pure (d := (eS word0)) (ep_var (d := (eS word0)) rfl)  (rk_pure (d := (eS ("over" : Str))) ep_C  (rk_eqD (x := (eS word0)) (y := (eS ("over" : Str))) fun b0 => (rk_put rfl (rk_ifF (rs_assoc (rs_asg (rk_bin (rk_pure (d := ((eTs (eO eI)) skin0.2)) (ep_ixN (d := ((eP2 (eTs eI) (eTs (eO eI))) skin0)) ep_C rfl rfl)  (rk_pure (d := (eI at0)) (ep_var (d := (eI at0)) rfl)  (rk_ixT (f := (eO eI)) (xs := skin0.2) fun a0 => (rk_asgN (rs_ret (rk_pure (d := ((eP2 eI eI) (optC a0 (at0, (0 : Int)) (fun mate0 => (mate0, (1 : Int)))))) (by apply ep_optE (f := (eP2 eI eI)) (x := a0); exact (ep_ifA (ep_tst (ep_bin (ep_var (d := ((eO eI) none)) rfl) ep_C (is_none (f := eI) none))) (ep_tup (ep_acons (ep_var (d := (eI at0)) rfl) (ep_acons ep_C ep_anil)))); exact (fun mate0 => ep_ifB (ep_tst (ep_bin (ep_var (d := (eI mate0)) rfl) ep_C rfl)) (ep_tup (ep_acons (ep_var (d := (eI mate0)) rfl) (ep_acons ep_C ep_anil)))))  (rk_ret (r := (optC a0 (at0, (0 : Int)) (fun mate0 => (mate0, (1 : Int))))) fun _ he => ⟨rfl, outs_of rfl rfl he⟩)))))))))) (rs_nxs (rs_if (rk_unitT (v := fun b3 => b3) (c' := fun b3 => [.is (.v ((eP2 (eTs eI) (eTs (eO eI))) skin0)), .is (.v (eI at0)), .is (.v (eS word0)), .is (.v (eI many0)), .nw, .nw, .nw, .nw, .nw]) (rk_orT (rk_tst (rk_bin (rk_pure (d := (eS word0)) (ep_var (d := (eS word0)) rfl)  (rk_pure (d := (eS ("on" : Str))) ep_C  (rk_eqD (x := (eS word0)) (y := (eS ("on" : Str))) fun b1 => (rk_put rfl (rk_ifF (rk_retT fun _ he => ⟨rfl, he.sub (sub_cons wk_is (sub_cons wk_is (sub_cons wk_is (sub_cons wk_is (sub_cons wk_nw (sub_cons wk_nw (sub_cons wk_nw (sub_cons wk_nw (sub_cons wk_nw sub_nil)))))))))⟩) (rk_tst (rk_bin (rk_pure (d := (eS word0)) (ep_var (d := (eS word0)) rfl)  (rk_pure (d := (eS ("ahead" : Str))) ep_C  (rk_eqD (x := (eS word0)) (y := (eS ("ahead" : Str))) fun b2 => (rk_put rfl (rk_retT fun _ he => ⟨rfl, he.sub (sub_cons wk_is (sub_cons wk_is (sub_cons wk_is (sub_cons wk_is (sub_cons wk_nw (sub_cons wk_nw (sub_cons wk_nw (sub_cons wk_nw (sub_cons wk_nw sub_nil)))))))))⟩))))))))))))))) (fun b3 => (rk_ifF (rs_assoc (rs_asg (rk_callN (rk_rcons (rk_pure (d := ((eP2 (eTs eI) (eTs (eO eI))) skin0)) (ep_var (d := ((eP2 (eTs eI) (eTs (eO eI))) skin0)) rfl)  (rk_rcons (rk_pure (d := (eI at0)) (ep_var (d := (eI at0)) rfl)  (rk_rnil (rk_call (rf__law_patch skin0 at0) (fun r0 => (rk_asgN (rs_ret (rk_tup (rk_acons (rk_ixN (rk_bin (rk_bin (rk_pure (d := ((eLs eI) [many0, ((0 : Int) - many0)])) (ep_elst (ep_lst (ep_acons (ep_var (d := (eI many0)) rfl) (ep_acons (ep_bin ep_C (ep_var (d := (eI many0)) rfl) rfl) ep_anil))))  (rk_cb (rk_acons (rk_bin (rk_pure (d := (eS word0)) (ep_var (d := (eS word0)) rfl)  (rk_pure (d := (eS ("ahead" : Str))) ep_C  (rk_eqD (x := (eS word0)) (y := (eS ("ahead" : Str))) fun b4 => (rk_anil (rk_put rfl (rk_ixL (f := eI) (xs := [many0, ((0 : Int) - many0)]) fun a1 => (rk_pure (d := (eI (r0.length : Int))) (ep_cb (ep_acons (ep_var (d := ((eTs eI) r0)) rfl) ep_anil) (len_T (f := eI) r0))  (rk_mod fun n0 => (rk_ixAt (d := ((eTs eI) r0)) (rk_ixT (f := eI) (xs := r0) fun a2 => (rk_acons (rk_pure (d := (eI many0)) (ep_var (d := (eI many0)) rfl)  (rk_anil (rk_put (if_pos (Nat.le_of_ble_eq_true rfl)) (rk_ret (r := (a2, many0)) fun _ he => ⟨rfl, outs_of rfl rfl he⟩)))))) rfl))))))))))))))))))))) (fun _ _ _ _ => trivial)))))))))) (rs_nxs (rs_asg (rk_callN (rk_rcons (rk_pure (d := ((eP2 (eTs eI) (eTs (eO eI))) skin0)) (ep_var (d := ((eP2 (eTs eI) (eTs (eO eI))) skin0)) rfl)  (rk_rcons (rk_pure (d := (eI at0)) (ep_var (d := (eI at0)) rfl)  (rk_rnil (rk_call (rf__law_knot skin0 at0) (fun r1 => (rk_asgN (rs_asg (rk_index (rk_pure (d := ((eTs eI) r1)) (ep_var (d := ((eTs eI) r1)) rfl)  (rk_idxT (rk_pure (d := (eI at0)) (ep_var (d := (eI at0)) rfl)  (rk_idxP (xs := r1) (i := at0) fun i0 => (rk_asgN (rs_if (rk_tst (rk_bin (rk_bin (rk_pure (d := ((eTs (eO eI)) skin0.2)) (ep_ixN (d := ((eP2 (eTs eI) (eTs (eO eI))) skin0)) ep_C rfl rfl)  (rk_ixN (rk_pure (d := (eI (0 : Int))) ep_C  (rk_ixAt (d := ((eTs eI) r1)) (rk_ixT (f := eI) (xs := r1) fun a3 => (rk_ixT (f := (eO eI)) (xs := skin0.2) fun a4 => (rk_pure (d := (eU ())) ep_C  (rk_put (isnt_none (f := eI) a4) (rk_put rfl (rk_ifF (rs_ret (rk_tup (rk_acons (rk_ixN (rk_bin (rk_bin (rk_pure (d := (eI i0)) (ep_var (d := (eI i0)) rfl)  (rk_bin (rk_pure (d := ((eLs eI) [many0, ((0 : Int) - many0)])) (ep_elst (ep_lst (ep_acons (ep_var (d := (eI many0)) rfl) (ep_acons (ep_bin ep_C (ep_var (d := (eI many0)) rfl) rfl) ep_anil))))  (rk_cb (rk_acons (rk_bin (rk_pure (d := (eS word0)) (ep_var (d := (eS word0)) rfl)  (rk_pure (d := (eS ("right" : Str))) ep_C  (rk_eqD (x := (eS word0)) (y := (eS ("right" : Str))) fun b5 => (rk_anil (rk_put rfl (rk_ixL (f := eI) (xs := [many0, ((0 : Int) - many0)]) fun a5 => (rk_put rfl (rk_pure (d := (eI (r1.length : Int))) (ep_cb (ep_acons (ep_var (d := ((eTs eI) r1)) rfl) ep_anil) (len_T (f := eI) r1))  (rk_mod fun n1 => (rk_ixAt (d := ((eTs eI) r1)) (rk_ixT (f := eI) (xs := r1) fun a6 => (rk_acons (rk_pure (d := (eI many0)) (ep_var (d := (eI many0)) rfl)  (rk_anil (rk_put (if_pos (Nat.le_of_ble_eq_true rfl)) (rk_ret (r := (a6, many0)) fun _ he => ⟨rfl, outs_of rfl rfl he⟩)))))) rfl)))))))))))))))))))))) (rs_nxs (rs_asg (rk_bin (rk_pure (d := ((eLs eI) [(((r1.length : Int) - (1 : Int)) - i0), i0])) (ep_elst (ep_lst (ep_acons (ep_bin (ep_bin (ep_cb (ep_acons (ep_var (d := ((eTs eI) r1)) rfl) ep_anil) (len_T (f := eI) r1)) ep_C rfl) (ep_var (d := (eI i0)) rfl) rfl) (ep_acons (ep_var (d := (eI i0)) rfl) ep_anil))))  (rk_cb (rk_acons (rk_bin (rk_pure (d := (eS word0)) (ep_var (d := (eS word0)) rfl)  (rk_pure (d := (eS ("right" : Str))) ep_C  (rk_eqD (x := (eS word0)) (y := (eS ("right" : Str))) fun b6 => (rk_anil (rk_put rfl (rk_ixL (f := eI) (xs := [(((r1.length : Int) - (1 : Int)) - i0), i0]) fun a7 => (rk_asgN (rs_asg (rk_pure (d := (eI (imin a7 many0))) (ep_cb (ep_acons (ep_var (d := (eI a7)) rfl) (ep_acons (ep_var (d := (eI many0)) rfl) ep_anil)) rfl)  (rk_asgN (rs_last (rs_ret (rk_tup (rk_acons (rk_ixN (rk_bin (rk_pure (d := (eI i0)) (ep_var (d := (eI i0)) rfl)  (rk_bin (rk_pure (d := ((eLs eI) [(imin a7 many0), ((0 : Int) - (imin a7 many0))])) (ep_elst (ep_lst (ep_acons (ep_var (d := (eI (imin a7 many0))) rfl) (ep_acons (ep_bin ep_C (ep_var (d := (eI (imin a7 many0))) rfl) rfl) ep_anil))))  (rk_cb (rk_acons (rk_bin (rk_pure (d := (eS word0)) (ep_var (d := (eS word0)) rfl)  (rk_pure (d := (eS ("right" : Str))) ep_C  (rk_eqD (x := (eS word0)) (y := (eS ("right" : Str))) fun b7 => (rk_anil (rk_put rfl (rk_ixL (f := eI) (xs := [(imin a7 many0), ((0 : Int) - (imin a7 many0))]) fun a8 => (rk_put rfl (rk_ixAt (d := ((eTs eI) r1)) (rk_ixT (f := eI) (xs := r1) fun a9 => (rk_acons (rk_pure (d := (eI (imin a7 many0))) (ep_var (d := (eI (imin a7 many0))) rfl)  (rk_anil (rk_put (if_pos (Nat.le_of_ble_eq_true rfl)) (rk_ret (r := (a9, (imin a7 many0))) fun _ he => ⟨rfl, outs_of rfl rfl he⟩)))))) rfl))))))))))))))))))))))))))))))))))))))))))) rfl))))))))))))))))) (fun _ _ _ _ => trivial)))))))))))))))))))))))
def n_Walker_init (skin0 : ((List Int) × (List (Option Int)))) (half0 : Int) : N (((List Int) × (List (Option Int))) × (List Int)) := Ct.fp (
 (n_look_at_half skin0 half0).ct fun u0 =>
 .nx (skin0, [half0]) : Ct (((List Int) × (List (Option Int))) × (List Int)) Unit (((List Int) × (List (Option Int))) × (List Int)))
theorem rf_Walker_init (skin0 : ((List Int) × (List (Option Int)))) (half0 : Int) : RF (n_Walker_init skin0 half0) (f_Walker_init [.u (.o "Walker" []), .v ((eP2 (eTs eI) (eTs (eO eI))) skin0), .v (eI half0)]) (fun _ => PyData.none) (fun r => [.u (.o "Walker" [("cloth", .d ((eP2 (eTs eI) (eTs (eO eI))) r.1)), ("stands", dL (List.map eI r.2))]), .no, .no]) := rp_of (n := 3) (b := b_Walker_init) (c0 := [.is (.u (.o "Walker" [])), .is (.v ((eP2 (eTs eI) (eTs (eO eI))) skin0)), .is (.v (eI half0))])
 (rs_drop (rk_callN (rk_rcons (rk_pure (d := ((eP2 (eTs eI) (eTs (eO eI))) skin0)) (ep_var (d := ((eP2 (eTs eI) (eTs (eO eI))) skin0)) rfl)  (rk_rcons (rk_pure (d := (eI half0)) (ep_var (d := (eI half0)) rfl)  (rk_rnil (rk_call (rf_look_at_half skin0 half0) (fun u0 => (rs_fldD (rk_pure (d := ((eP2 (eTs eI) (eTs (eO eI))) skin0)) (ep_var (d := ((eP2 (eTs eI) (eTs (eO eI))) skin0)) rfl)  (rs_fldK (objC_u (c := [.is (.u (.o "Walker" [])), .is (.v ((eP2 (eTs eI) (eTs (eO eI))) skin0)), .is (.v (eI half0))]) (i := 0) (cn := "Walker") rfl) (Nat.le_of_ble_eq_true rfl) (rs_nf (c' := [.is (.u (.o "Walker" [("cloth", .d ((eP2 (eTs eI) (eTs (eO eI))) skin0))])), .is (.v ((eP2 (eTs eI) (eTs (eO eI))) skin0)), .is (.v (eI half0))]) (rs_last (rs_fldL (rk_pure (ep_lst (ep_acons (ep_var (d := (eI half0)) rfl) ep_anil)) (rs_fldK (objC_u (c := [.is (.u (.o "Walker" [("cloth", .d ((eP2 (eTs eI) (eTs (eO eI))) skin0))])), .is (.v ((eP2 (eTs eI) (eTs (eO eI))) skin0)), .is (.v (eI half0))]) (i := 0) (cn := "Walker") rfl) (Nat.le_of_ble_eq_true rfl) (rs_nf (c' := [.is (.u (.o "Walker" [("cloth", .d ((eP2 (eTs eI) (eTs (eO eI))) skin0)), ("stands", dL (List.map eI [half0]))])), .is (.v ((eP2 (eTs eI) (eTs (eO eI))) skin0)), .is (.v (eI half0))]) (rs_nx fun _ he => outs_of rfl rfl he))))))))))) (fun _ _ _ _ => trivial)))))))))
def n__law_made_at (skin0 : ((List Int) × (List (Option Int)))) (half0 : Int) : N Str := Ct.fn (
 (Ct.sq (tryC ((n_Walker_init skin0 half0).ct fun _ =>
 .nx ("" : Str) : Ct Str _ _) fun x => (kindT x [("SkinError", none)]).ct fun s0 => .nx s0) fun kind0 =>
 .rt kind0) : Ct Unit Unit Str)
theorem rf__law_made_at (skin0 : ((List Int) × (List (Option Int)))) (half0 : Int) : RF (n__law_made_at skin0 half0) (f__law_made_at [.v ((eP2 (eTs eI) (eTs (eO eI))) skin0), .v (eI half0)]) (fun r => (eS r)) (fun r => [.no, .no]) := rf_of (n := 4) (b := b__law_made_at) (c0 := [.is (.v ((eP2 (eTs eI) (eTs (eO eI))) skin0)), .is (.v (eI half0)), .nw, .nw])
 (rs_asg (rk_pure (d := (eS ("" : Str))) ep_C  (rk_asgN (rs_try (hl := [("SkinError", none)]) (c1 := fun kind0 => [.is (.v ((eP2 (eTs eI) (eTs (eO eI))) skin0)), .is (.v (eI half0)), .is (.v (eS kind0)), .nw]) (cx := [.is (.v ((eP2 (eTs eI) (eTs (eO eI))) skin0)), .is (.v (eI half0)), .is (.v (eS ("" : Str))), .nw]) (V := fun s0 => s0) (rs_last (rs_makeX (rk_acons (rk_pure (d := ((eP2 (eTs eI) (eTs (eO eI))) skin0)) (ep_var (d := ((eP2 (eTs eI) (eTs (eO eI))) skin0)) rfl)  (rk_acons (rk_pure (d := (eI half0)) (ep_var (d := (eI half0)) rfl)  (rk_anil (rk_makeX (rf_Walker_init skin0 half0) (fun _ => rfl) (fun _ => (rs_nx fun _ he => he.sub (sub_cons wk_is (sub_cons wk_is (sub_cons wk_is (sub_cons wk_nw sub_nil)))))) (fun _ h => h.sub (sub_cons wk_is (sub_cons wk_is (sub_cons wk_is (sub_cons wk_nw sub_nil))))) rfl)))))))) (fun s0 => (sub_cons wk_is (sub_cons wk_is (sub_cons wk_is (sub_cons wk_nw sub_nil))))) (fun kind0 => (rs_last (rs_ret (rk_pure (d := (eS kind0)) (ep_var (d := (eS kind0)) rfl)  (rk_ret (r := kind0) fun _ he => ⟨rfl, outs_of rfl rfl he⟩))))) (fun _ _ => trivial)))))
def n_Walker_deeds (self0 : (((List Int) × (List (Option Int))) × (List Int))) : N Int := Ct.fn (
 .rt ((self0.2.length : Int) - (1 : Int)) : Ct Unit Unit Int)
theorem rfk_Walker_deeds (self0 : (((List Int) × (List (Option Int))) × (List Int))) : RFk (n_Walker_deeds self0) (f_Walker_deeds [.u (.o "Walker" [("cloth", .d ((eP2 (eTs eI) (eTs (eO eI))) self0.1)), ("stands", dL (List.map eI self0.2))])]) (fun r => (eI r)) (fun r => [.u (.o "Walker" [("cloth", .d ((eP2 (eTs eI) (eTs (eO eI))) self0.1)), ("stands", dL (List.map eI self0.2))])]) [.u (.o "Walker" [("cloth", .d ((eP2 (eTs eI) (eTs (eO eI))) self0.1)), ("stands", dL (List.map eI self0.2))])] := rfk_of (n := 1) (b := b_Walker_deeds) (c0 := [.is (.u (.o "Walker" [("cloth", .d ((eP2 (eTs eI) (eTs (eO eI))) self0.1)), ("stands", dL (List.map eI self0.2))]))])
 (rs_last (rs_ret (rk_pure (d := (eI ((self0.2.length : Int) - (1 : Int)))) (ep_bin (ep_flenT (f := eI) (xs := self0.2) (objC_u (c := [.is (.u (.o "Walker" [("cloth", .d ((eP2 (eTs eI) (eTs (eO eI))) self0.1)), ("stands", dL (List.map eI self0.2))]))]) (i := 0) (cn := "Walker") rfl) rfl rfl) ep_C rfl)  (rk_ret (r := ((self0.2.length : Int) - (1 : Int))) fun _ he => ⟨rfl, outs_of rfl rfl he⟩))))
def n_law (script0 : (List Int)) : N Bool := Ct.fn (
 (n__law_bag script0 (0 : Int)).ct fun r0 =>
 (n__law_take r0 (6 : Int)).ct (P2 fun r1 first0 =>
 (idx [(40 : Int), (400 : Int)] (b2i (decide (r1 = (0 : Int))))).ct fun a0 =>
 (n__law_skin first0 a0).ct (P2 fun r2 first1 =>
 (n__law_take first1 (r2.1.length : Int)).ct (P2 fun r3 first2 =>
 (idx [r3] (0 : Int)).ct fun a1 =>
 (n_Walker_init r2 a1).ct fun walker0 =>
 (powN (10 : Int) (8 : Int)).ct fun n0 =>
 (forC (fun half0 => fun (_ : Unit) =>
 ((n__law_made_at r2 half0).ct fun r4 =>
 (eqN (eS r4) (eS ("NoHalf+" : Str))).ct fun b0 =>
 (if (!b0) = true then
 .rt false else
 .nx ()) : Ct Unit Unit _)) [(-1 : Int), (r2.1.length : Int), n0] ()).sq fun (_ : Unit) =>
 (rngN ((1 : Int) + (imin (script0.length : Int) (60 : Int)))).ct fun xs0 =>
 (forC (fun k0 => (P2 fun stands0 walker1 =>
 ((n__law_bag script0 k0).ct fun r5 =>
 (n__law_take r5 (7 : Int)).ct (P2 fun r6 bag0 =>
 (idx [("on" : Str), ("ahead" : Str), ("left" : Str), ("right" : Str), ("over" : Str), ("over" : Str), ("back" : Str)] r6).ct fun a2 =>
 (n__law_take bag0 (4 : Int)).ct (P2 fun r7 bag1 =>
 (n__law_take bag1 (90 : Int)).ct (P2 fun r8 bag2 =>
 (powN (10 : Int) (30 : Int)).ct fun n1 =>
 (n__law_take bag2 (999 : Int)).ct (P2 fun r9 bag3 =>
 (powN (10 : Int) (30 : Int)).ct fun n2 =>
 (n__law_take bag3 (9 : Int)).ct (P2 fun r10 bag4 =>
 (idx [(0 : Int), (0 : Int), (0 : Int), (1 : Int), (1 : Int), (2 : Int), (2 : Int), (3 : Int), (4 : Int)] r10).ct fun a3 =>
 (idx [r7, r8, (n1 - r9), (-1 : Int), (n2 + (1 : Int))] a3).ct fun a4 =>
 (Ct.sq ((if ((memB a2 [("on" : Str), ("ahead" : Str), ("left" : Str), ("right" : Str)]) && (!((decide ((0 : Int) ≤ a4)) && (decide (a4 ≤ ((10 : Int) ^ (30 : Int).toNat)))))) = true then
 .nx (stands0, (none, ("TooMany+" : Str))) else
 (eqN (eS a2) (eS ("back" : Str))).ct fun b1 =>
 (if b1 = true then
 (idx [("" : Str), ("NothingLeft+" : Str)] (b2i (decide ((stands0.length : Int) = (1 : Int))))).ct fun a5 =>
 .nx ((cutL stands0 none (some (imax (1 : Int) ((stands0.length : Int) - (1 : Int))))), (none, a5)) else
 (idx stands0 (-1 : Int)).ct fun a6 =>
 (n__law_goal r2 a6 a2 a4).ct fun r11 =>
 (appN stands0 r11.1).ct fun stands2 =>
 .nx (stands2, ((some r11.2), ("" : Str))))) : Ct ((List Int) × ((Option Int) × Str)) _ _) (P2 fun stands1 due0 =>
 (n__law_tried walker1 a2 a4).ct (P2 fun r12 walker2 =>
 (eqN ((eP2 (eO eI) eS) r12) ((eP2 (eO eI) eS) due0)).ct fun b2 =>
 (if (!b2) = true then
 .rt false else
 (Ct.fn ((n_Walker_at walker2).ct fun r13 =>
 (idx stands1 (-1 : Int)).ct fun a7 =>
 (if (!(decide (r13 = a7))) = true then
 .rt true else
 (n_Walker_deeds walker2).ct fun r14 =>
 (if (!(decide (r14 = ((stands1.length : Int) - (1 : Int))))) = true then
 .rt true else
 (n_Walker_at walker2).ct fun r15 =>
 .rt (isBoolD (eI r15)))) : Ct Unit Unit Bool)).ct fun b3 =>
 (if b3 = true then
 .rt false else
 .nx (stands1, walker2))))))))))) : Ct ((List Int) × (((List Int) × (List (Option Int))) × (List Int))) ((List Int) × (((List Int) × (List (Option Int))) × (List Int))) _))) xs0 ([r3], walker0)).sq (P2 fun stands3 walker3 =>
 .rt true)))) : Ct Unit Unit Bool)
theorem rf_law (script0 : (List Int)) : RF (n_law script0) (f_law [.v ((eLs eI) script0)]) (fun r => (eB r)) (fun r => [.no]) := rf_of (n := 13) (b := b_law) (c0 := [.is (.v ((eLs eI) script0)), .nw, .nw, .nw, .nw, .nw, .nw, .nw, .nw, .nw, .nw, .nw, .nw])
 (rs_asgL (rk_callNL (rk_rcons (rk_pure (d := ((eLs eI) script0)) (ep_var (d := ((eLs eI) script0)) rfl)  (rk_rcons (rk_pure (d := (eI (0 : Int))) ep_C  (rk_rnil (rk_callL (rf__law_bag script0 (0 : Int)) (fun r0 => (rk_asgL (rs_asg (rk_callN (rk_lend (rk_rcons (rk_bin (rk_pure (d := ((eLs eI) [(40 : Int), (400 : Int)])) (ep_elst (ep_lst (ep_acons ep_C (ep_acons ep_C ep_anil))))  (rk_cb (rk_acons (rk_bin (rk_callN (rk_lend (rk_rcons (rk_pure (d := (eI (6 : Int))) ep_C  (rk_rnil (rk_lendK (rk_call (rf__law_take r0 (6 : Int)) (fun ⟨r1, first0⟩ => (rk_pure (d := (eI (0 : Int))) ep_C  (rk_put (eq_typed (f := eI) r1 (0 : Int)) (rk_anil (rk_put rfl (rk_ixL (f := eI) (xs := [(40 : Int), (400 : Int)]) fun a0 => (rk_rnil (rk_lendK (rk_call (rf__law_skin first0 a0) (fun ⟨r2, first1⟩ => (rk_asgN (rs_asgL (rk_lst (rk_acons (rk_callN (rk_lend (rk_rcons (rk_pure (d := (eI (r2.1.length : Int))) (ep_cb (ep_acons (ep_ixN (d := ((eP2 (eTs eI) (eTs (eO eI))) r2)) ep_C rfl rfl) ep_anil) (len_T (f := eI) r2.1))  (rk_rnil (rk_lendK (rk_call (rf__law_take first1 (r2.1.length : Int)) (fun ⟨r3, first2⟩ => (rk_anil (rk_put (if_pos (Nat.le_of_ble_eq_true rfl)) (rk_asgL (rs_make (rk_acons (rk_pure (d := ((eP2 (eTs eI) (eTs (eO eI))) r2)) (ep_var (d := ((eP2 (eTs eI) (eTs (eO eI))) r2)) rfl)  (rk_acons (rk_ixN (rk_pure (d := (eI (0 : Int))) ep_C  (rk_ixAt (d := ((eLs eI) [r3])) (rk_ixL (f := eI) (xs := [r3]) fun a1 => (rk_anil (rk_make (enc := fun walker0 => [("cloth", .d ((eP2 (eTs eI) (eTs (eO eI))) walker0.1)), ("stands", dL (List.map eI walker0.2))]) (rf_Walker_init r2 a1) (fun _ => rfl) (fun _ => rfl) (fun walker0 => rs_nf (c' := [.is (.v ((eLs eI) script0)), .is (.l (List.map eI first2)), .is (.v ((eP2 (eTs eI) (eTs (eO eI))) r2)), .is (.l (List.map eI [r3])), .is (.t (.o "Walker" [("cloth", .d ((eP2 (eTs eI) (eTs (eO eI))) walker0.1)), ("stands", dL (List.map eI walker0.2))])), .nw, .nw, .nw, .nw, .nw, .nw, .nw, .nw]) (rs_forK (rk_seqS (rk_elst (rk_lst (rk_acons (rk_pure (d := (eI (-1 : Int))) ep_C  (rk_acons (rk_pure (d := (eI (r2.1.length : Int))) (ep_cb (ep_acons (ep_ixN (d := ((eP2 (eTs eI) (eTs (eO eI))) r2)) ep_C rfl rfl) ep_anil) (len_T (f := eI) r2.1))  (rk_acons (rk_bin (rk_pure (d := (eI (10 : Int))) ep_C  (rk_pure (d := (eI (8 : Int))) ep_C  (rk_pow fun n0 => (rk_anil (rk_put (if_pos (Nat.le_of_ble_eq_true rfl)) (rk_put rfl (rs_for (fe := eI) (c0 := fun (_ : Unit) => [.is (.v ((eLs eI) script0)), .is (.l (List.map eI first2)), .is (.v ((eP2 (eTs eI) (eTs (eO eI))) r2)), .is (.l (List.map eI [r3])), .is (.t (.o "Walker" [("cloth", .d ((eP2 (eTs eI) (eTs (eO eI))) walker0.1)), ("stands", dL (List.map eI walker0.2))])), .nw, .nw, .nw, .nw, .nw, .nw, .nw, .nw]) (c1 := fun half0 => fun (_ : Unit) => [.is (.v ((eLs eI) script0)), .is (.l (List.map eI first2)), .is (.v ((eP2 (eTs eI) (eTs (eO eI))) r2)), .is (.l (List.map eI [r3])), .is (.t (.o "Walker" [("cloth", .d ((eP2 (eTs eI) (eTs (eO eI))) walker0.1)), ("stands", dL (List.map eI walker0.2))])), .is (.v (eI half0)), .nw, .nw, .nw, .nw, .nw, .nw, .nw]) (s0 := ()) (sub_cons wk_is (sub_cons wk_is (sub_cons wk_is (sub_cons wk_is (sub_cons wk_is (sub_cons wk_nw (sub_cons wk_nw (sub_cons wk_nw (sub_cons wk_nw (sub_cons wk_nw (sub_cons wk_nw (sub_cons wk_nw (sub_cons wk_nw sub_nil))))))))))))) (fun _ _ => gs_N) (fun half0 _ => (rs_last (rs_if (rk_tst (rk_bin (rk_callN (rk_rcons (rk_pure (d := ((eP2 (eTs eI) (eTs (eO eI))) r2)) (ep_var (d := ((eP2 (eTs eI) (eTs (eO eI))) r2)) rfl)  (rk_rcons (rk_pure (d := (eI half0)) (ep_var (d := (eI half0)) rfl)  (rk_rnil (rk_call (rf__law_made_at r2 half0) (fun r4 => (rk_pure (d := (eS ("NoHalf+" : Str))) ep_C  (rk_neD (x := (eS r4)) (y := (eS ("NoHalf+" : Str))) fun b0 => (rk_put rfl (rk_ifF (rs_ret (rk_pure (d := (eB false)) ep_C  (rk_ret (r := false) fun _ he => ⟨rfl, outs_of rfl rfl he⟩))) (rs_nxs (rs_nx fun _ he => he.sub (sub_cons wk_is (sub_cons wk_is (sub_cons wk_is (sub_cons wk_is (sub_cons wk_is (sub_cons wk_vnw (sub_cons wk_nw (sub_cons wk_nw (sub_cons wk_nw (sub_cons wk_nw (sub_cons wk_nw (sub_cons wk_nw (sub_cons wk_nw sub_nil)))))))))))))))))))) (fun _ _ _ _ => trivial))))))))))))) (fun _ => (rs_forK (rk_rng (j := ((1 : Int) + (imin (script0.length : Int) (60 : Int)))) (ep_acons (ep_bin ep_C (ep_cb (ep_acons (ep_cb (ep_acons (ep_var (d := ((eLs eI) script0)) rfl) ep_anil) (len_L (f := eI) script0)) (ep_acons ep_C ep_anil)) rfl) rfl) ep_anil) fun xs0 => (rs_for (fe := eI) (c0 := (P2 fun stands0 walker1 => [.is (.v ((eLs eI) script0)), .is (.l (List.map eI first2)), .is (.v ((eP2 (eTs eI) (eTs (eO eI))) r2)), .is (.l (List.map eI stands0)), .is (.t (.o "Walker" [("cloth", .d ((eP2 (eTs eI) (eTs (eO eI))) walker1.1)), ("stands", dL (List.map eI walker1.2))])), .nw, .nw, .np, .nw, .nw, .nw, .nw, .nw])) (c1 := fun k0 => (P2 fun stands0 walker1 => [.is (.v ((eLs eI) script0)), .is (.l (List.map eI first2)), .is (.v ((eP2 (eTs eI) (eTs (eO eI))) r2)), .is (.l (List.map eI stands0)), .is (.t (.o "Walker" [("cloth", .d ((eP2 (eTs eI) (eTs (eO eI))) walker1.1)), ("stands", dL (List.map eI walker1.2))])), .nw, .is (.v (eI k0)), .np, .nw, .nw, .nw, .nw, .nw])) (s0 := ([r3], walker0)) (sub_cons wk_is (sub_cons wk_is (sub_cons wk_is (sub_cons wk_is (sub_cons wk_is (sub_cons wk_nw (sub_cons wk_nw (sub_cons wk_nwnp (sub_cons wk_nw (sub_cons wk_nw (sub_cons wk_nw (sub_cons wk_nw (sub_cons wk_nw sub_nil))))))))))))) (fun _ ⟨stands0, walker1⟩ => gs_N) (fun k0 ⟨stands0, walker1⟩ => (rs_asgL (rk_callNL (rk_rcons (rk_pure (d := ((eLs eI) script0)) (ep_var (d := ((eLs eI) script0)) rfl)  (rk_rcons (rk_pure (d := (eI k0)) (ep_var (d := (eI k0)) rfl)  (rk_rnil (rk_callL (rf__law_bag script0 k0) (fun r5 => (rk_asgL (rs_asg (rk_bin (rk_pure (d := ((eLs eS) [("on" : Str), ("ahead" : Str), ("left" : Str), ("right" : Str), ("over" : Str), ("over" : Str), ("back" : Str)])) (ep_elst (ep_lst (ep_acons ep_C (ep_acons ep_C (ep_acons ep_C (ep_acons ep_C (ep_acons ep_C (ep_acons ep_C (ep_acons ep_C ep_anil)))))))))  (rk_callN (rk_lend (rk_rcons (rk_pure (d := (eI (7 : Int))) ep_C  (rk_rnil (rk_lendK (rk_call (rf__law_take r5 (7 : Int)) (fun ⟨r6, bag0⟩ => (rk_ixL (f := eS) (xs := [("on" : Str), ("ahead" : Str), ("left" : Str), ("right" : Str), ("over" : Str), ("over" : Str), ("back" : Str)]) fun a2 => (rk_asgN (rs_asg (rk_elst (rk_lst (rk_acons (rk_callN (rk_lend (rk_rcons (rk_pure (d := (eI (4 : Int))) ep_C  (rk_rnil (rk_lendK (rk_call (rf__law_take bag0 (4 : Int)) (fun ⟨r7, bag1⟩ => (rk_acons (rk_callN (rk_lend (rk_rcons (rk_pure (d := (eI (90 : Int))) ep_C  (rk_rnil (rk_lendK (rk_call (rf__law_take bag1 (90 : Int)) (fun ⟨r8, bag2⟩ => (rk_acons (rk_bin (rk_bin (rk_pure (d := (eI (10 : Int))) ep_C  (rk_pure (d := (eI (30 : Int))) ep_C  (rk_pow fun n1 => (rk_callN (rk_lend (rk_rcons (rk_pure (d := (eI (999 : Int))) ep_C  (rk_rnil (rk_lendK (rk_call (rf__law_take bag2 (999 : Int)) (fun ⟨r9, bag3⟩ => (rk_put rfl (rk_acons (rk_pure (d := (eI (-1 : Int))) ep_C  (rk_acons (rk_bin (rk_bin (rk_pure (d := (eI (10 : Int))) ep_C  (rk_pure (d := (eI (30 : Int))) ep_C  (rk_pow fun n2 => (rk_pure (d := (eI (1 : Int))) ep_C  (rk_put rfl (rk_anil (rk_put (if_pos (Nat.le_of_ble_eq_true rfl)) (rk_asgN (rs_asg (rk_ixN (rk_bin (rk_pure (d := ((eLs eI) [(0 : Int), (0 : Int), (0 : Int), (1 : Int), (1 : Int), (2 : Int), (2 : Int), (3 : Int), (4 : Int)])) (ep_elst (ep_lst (ep_acons ep_C (ep_acons ep_C (ep_acons ep_C (ep_acons ep_C (ep_acons ep_C (ep_acons ep_C (ep_acons ep_C (ep_acons ep_C (ep_acons ep_C ep_anil)))))))))))  (rk_callN (rk_lend (rk_rcons (rk_pure (d := (eI (9 : Int))) ep_C  (rk_rnil (rk_lendK (rk_call (rf__law_take bag3 (9 : Int)) (fun ⟨r10, bag4⟩ => (rk_ixL (f := eI) (xs := [(0 : Int), (0 : Int), (0 : Int), (1 : Int), (1 : Int), (2 : Int), (2 : Int), (3 : Int), (4 : Int)]) fun a3 => (rk_ixAt (d := ((eLs eI) [r7, r8, (n1 - r9), (-1 : Int), (n2 + (1 : Int))])) (rk_ixL (f := eI) (xs := [r7, r8, (n1 - r9), (-1 : Int), (n2 + (1 : Int))]) fun a4 => (rk_asgN (rs_seq (c1 := (P2 fun stands1 due0 => [.is (.v ((eLs eI) script0)), .is (.l (List.map eI first2)), .is (.v ((eP2 (eTs eI) (eTs (eO eI))) r2)), .is (.l (List.map eI stands1)), .is (.t (.o "Walker" [("cloth", .d ((eP2 (eTs eI) (eTs (eO eI))) walker1.1)), ("stands", dL (List.map eI walker1.2))])), .nw, .is (.v (eI k0)), .is (.l (List.map eI bag4)), .is (.v (eS a2)), .is (.v (eI a4)), .is (.v ((eP2 (eO eI) eS) due0)), .nw, .nw])) (rs_if0 (rk_pure (d := ((memB a2 [("on" : Str), ("ahead" : Str), ("left" : Str), ("right" : Str)]) && (!((decide ((0 : Int) ≤ a4)) && (decide (a4 ≤ ((10 : Int) ^ (30 : Int).toNat))))))) (ep_andT (ep_tst (ep_bin (ep_var (d := (eS a2)) rfl) (ep_elst (ep_lst (ep_acons ep_C (ep_acons ep_C (ep_acons ep_C (ep_acons ep_C ep_anil)))))) (in_lst (f := eS) a2 [("on" : Str), ("ahead" : Str), ("left" : Str), ("right" : Str)]))) (ep_notT (ep_tst (ep_chain ep_C (ep_var (d := (eI a4)) rfl) (ep_bin ep_C ep_C (dPow_c (i := 10) (j := 30) (by decide +kernel))) rfl rfl)))) (rk_ifF (rs_last (rs_asg (rk_pure (d := ((eP2 (eO eI) eS) (none, ("TooMany+" : Str)))) (ep_tup (ep_acons ep_C (ep_acons ep_C ep_anil)))  (rk_asgN (rs_nx fun _ he => he.sub (sub_cons wk_is (sub_cons wk_is (sub_cons wk_is (sub_cons wk_is (sub_cons wk_is (sub_cons wk_nw (sub_cons wk_is (sub_cons wk_is (sub_cons wk_is (sub_cons wk_is (sub_cons wk_is (sub_cons wk_nw (sub_cons wk_nw sub_nil)))))))))))))))))) (rs_last (rs_if (rk_tst (rk_bin (rk_pure (d := (eS a2)) (ep_var (d := (eS a2)) rfl)  (rk_pure (d := (eS ("back" : Str))) ep_C  (rk_eqD (x := (eS a2)) (y := (eS ("back" : Str))) fun b1 => (rk_put rfl (rk_ifF (rs_assoc (rs_asg (rk_tup (rk_acons (rk_pure (d := ((eO eI) none)) ep_C  (rk_acons (rk_bin (rk_pure (d := ((eLs eS) [("" : Str), ("NothingLeft+" : Str)])) (ep_elst (ep_lst (ep_acons ep_C (ep_acons ep_C ep_anil))))  (rk_pure (d := (eI (b2i (decide ((stands0.length : Int) = (1 : Int)))))) (ep_cb (ep_acons (ep_bin (ep_lenO (f := eI) (xs := stands0) rfl) ep_C (eq_typed (f := eI) (stands0.length : Int) (1 : Int))) ep_anil) rfl)  (rk_ixL (f := eS) (xs := [("" : Str), ("NothingLeft+" : Str)]) fun a5 => (rk_anil (rk_put (if_pos (Nat.le_of_ble_eq_true rfl)) (rk_asgN (rs_asgL (rk_pure (ep_slA (f := eI) (xs := stands0) ep_ptN (ep_ptS (ep_cb (ep_acons ep_C (ep_acons (ep_bin (ep_lenO (f := eI) (xs := stands0) rfl) ep_C rfl) ep_anil)) rfl)) rfl) (rk_asgL (rs_nx fun _ he => he.sub (sub_cons wk_is (sub_cons wk_is (sub_cons wk_is (sub_cons wk_is (sub_cons wk_is (sub_cons wk_nw (sub_cons wk_is (sub_cons wk_is (sub_cons wk_is (sub_cons wk_is (sub_cons wk_is (sub_cons wk_nw (sub_cons wk_nw sub_nil)))))))))))))))))))))))))))))) (rs_assoc (rs_asg (rk_callN (rk_rcons (rk_pure (d := ((eP2 (eTs eI) (eTs (eO eI))) r2)) (ep_var (d := ((eP2 (eTs eI) (eTs (eO eI))) r2)) rfl)  (rk_rcons (rk_ixN (rk_pure (d := (eI (-1 : Int))) ep_C  (rk_ixAt (d := ((eLs eI) stands0)) (rk_ixL (f := eI) (xs := stands0) fun a6 => (rk_rcons (rk_pure (d := (eS a2)) (ep_var (d := (eS a2)) rfl)  (rk_rcons (rk_pure (d := (eI a4)) (ep_var (d := (eI a4)) rfl)  (rk_rnil (rk_call (rf__law_goal r2 a6 a2 a4) (fun r11 => (rk_asg (gs_T (gss_cons gs_N (gss_cons gs_N gss_nil))) (rs_assoc (rs_asg (rk_pure (d := ((eP2 (eO eI) eS) ((some r11.2), ("" : Str)))) (ep_tup (ep_acons (ep_var (d := (eI r11.2)) rfl) (ep_acons ep_C ep_anil)))  (rk_asgN (rs_drop (rk_mo (xs := List.map eI stands0) (rk_acons (rk_pure (d := (eI r11.1)) (ep_var (d := (eI r11.1)) rfl)  (rk_anil (rk_app (fe := eI) (xs := stands0) (a := r11.1) fun stands2 => (rs_nf (c' := [.is (.v ((eLs eI) script0)), .is (.l (List.map eI first2)), .is (.v ((eP2 (eTs eI) (eTs (eO eI))) r2)), .is (.l (List.map eI stands2)), .is (.t (.o "Walker" [("cloth", .d ((eP2 (eTs eI) (eTs (eO eI))) walker1.1)), ("stands", dL (List.map eI walker1.2))])), .nw, .is (.v (eI k0)), .is (.l (List.map eI bag4)), .is (.v (eS a2)), .is (.v (eI a4)), .is (.v ((eP2 (eO eI) eS) ((some r11.2), ("" : Str)))), .is (.v (eI r11.1)), .is (.v (eI r11.2))]) (rs_nx fun _ he => he.sub (sub_cons wk_is (sub_cons wk_is (sub_cons wk_is (sub_cons wk_is (sub_cons wk_is (sub_cons wk_nw (sub_cons wk_is (sub_cons wk_is (sub_cons wk_is (sub_cons wk_is (sub_cons wk_is (sub_cons wk_vnw (sub_cons wk_vnw sub_nil))))))))))))))))))))))))))) (fun _ _ _ _ => trivial)))))))) rfl))))))))))))))))))))) (fun ⟨stands1, due0⟩ => (rs_if (rk_tst (rk_bin (rk_callN (rk_lend (rk_rcons (rk_pure (d := (eS a2)) (ep_var (d := (eS a2)) rfl)  (rk_rcons (rk_pure (d := (eI a4)) (ep_var (d := (eI a4)) rfl)  (rk_rnil (rk_lendK (rk_callX (rfk__law_tried walker1 a2 a4) (fun ⟨r12, walker2⟩ => rs_nf (c' := [.is (.v ((eLs eI) script0)), .is (.l (List.map eI first2)), .is (.v ((eP2 (eTs eI) (eTs (eO eI))) r2)), .is (.l (List.map eI stands1)), .is (.t (.o "Walker" [("cloth", .d ((eP2 (eTs eI) (eTs (eO eI))) walker2.1)), ("stands", dL (List.map eI walker2.2))])), .nw, .is (.v (eI k0)), .is (.l (List.map eI bag4)), .is (.v (eS a2)), .is (.v (eI a4)), .is (.v ((eP2 (eO eI) eS) due0)), .nw, .nw]) (rk_pure (d := ((eP2 (eO eI) eS) due0)) (ep_var (d := ((eP2 (eO eI) eS) due0)) rfl)  (rk_neD (x := ((eP2 (eO eI) eS) r12)) (y := ((eP2 (eO eI) eS) due0)) fun b2 => (rk_put rfl (rk_ifF (rs_ret (rk_pure (d := (eB false)) ep_C  (rk_ret (r := false) fun _ he => ⟨rfl, outs_of rfl rfl he⟩))) (rs_nxs (rs_last (rs_if (rk_unitT (v := fun b3 => b3) (c' := fun b3 => [.is (.v ((eLs eI) script0)), .is (.l (List.map eI first2)), .is (.v ((eP2 (eTs eI) (eTs (eO eI))) r2)), .is (.l (List.map eI stands1)), .is (.t (.o "Walker" [("cloth", .d ((eP2 (eTs eI) (eTs (eO eI))) walker2.1)), ("stands", dL (List.map eI walker2.2))])), .nw, .is (.v (eI k0)), .is (.l (List.map eI bag4)), .is (.v (eS a2)), .is (.v (eI a4)), .is (.v ((eP2 (eO eI) eS) due0)), .nw, .nw]) (rk_orT (rk_tst (rk_bin (rk_meth (objC_t (c := [.is (.v ((eLs eI) script0)), .is (.l (List.map eI first2)), .is (.v ((eP2 (eTs eI) (eTs (eO eI))) r2)), .is (.l (List.map eI stands1)), .is (.t (.o "Walker" [("cloth", .d ((eP2 (eTs eI) (eTs (eO eI))) walker2.1)), ("stands", dL (List.map eI walker2.2))])), .nw, .is (.v (eI k0)), .is (.l (List.map eI bag4)), .is (.v (eS a2)), .is (.v (eI a4)), .is (.v ((eP2 (eO eI) eS) due0)), .nw, .nw]) (i := 4) (cn := "Walker") rfl) rfl (rk_rnil (rk_methK (objC_t (c := [.is (.v ((eLs eI) script0)), .is (.l (List.map eI first2)), .is (.v ((eP2 (eTs eI) (eTs (eO eI))) r2)), .is (.l (List.map eI stands1)), .is (.t (.o "Walker" [("cloth", .d ((eP2 (eTs eI) (eTs (eO eI))) walker2.1)), ("stands", dL (List.map eI walker2.2))])), .nw, .is (.v (eI k0)), .is (.l (List.map eI bag4)), .is (.v (eS a2)), .is (.v (eI a4)), .is (.v ((eP2 (eO eI) eS) due0)), .nw, .nw]) (i := 4) (cn := "Walker") rfl) rfl (rk_callX (rfk_Walker_at walker2) (fun r13 => rs_nf (c' := [.is (.v ((eLs eI) script0)), .is (.l (List.map eI first2)), .is (.v ((eP2 (eTs eI) (eTs (eO eI))) r2)), .is (.l (List.map eI stands1)), .is (.t (.o "Walker" [("cloth", .d ((eP2 (eTs eI) (eTs (eO eI))) walker2.1)), ("stands", dL (List.map eI walker2.2))])), .nw, .is (.v (eI k0)), .is (.l (List.map eI bag4)), .is (.v (eS a2)), .is (.v (eI a4)), .is (.v ((eP2 (eO eI) eS) due0)), .nw, .nw]) (rk_ixN (rk_pure (d := (eI (-1 : Int))) ep_C  (rk_ixAt (d := ((eLs eI) stands1)) (rk_ixL (f := eI) (xs := stands1) fun a7 => (rk_put (ne_typed (f := eI) r13 a7) (rk_put rfl (rk_ifF (rk_retT fun _ he => ⟨rfl, he.sub (sub_cons wk_is (sub_cons wk_is (sub_cons wk_is (sub_cons wk_is (sub_cons wk_is (sub_cons wk_nw (sub_cons wk_is (sub_cons wk_is (sub_cons wk_is (sub_cons wk_is (sub_cons wk_is (sub_cons wk_nw (sub_cons wk_nw sub_nil)))))))))))))⟩) (rk_orT (rk_tst (rk_bin (rk_meth (objC_t (c := [.is (.v ((eLs eI) script0)), .is (.l (List.map eI first2)), .is (.v ((eP2 (eTs eI) (eTs (eO eI))) r2)), .is (.l (List.map eI stands1)), .is (.t (.o "Walker" [("cloth", .d ((eP2 (eTs eI) (eTs (eO eI))) walker2.1)), ("stands", dL (List.map eI walker2.2))])), .nw, .is (.v (eI k0)), .is (.l (List.map eI bag4)), .is (.v (eS a2)), .is (.v (eI a4)), .is (.v ((eP2 (eO eI) eS) due0)), .nw, .nw]) (i := 4) (cn := "Walker") rfl) rfl (rk_rnil (rk_methK (objC_t (c := [.is (.v ((eLs eI) script0)), .is (.l (List.map eI first2)), .is (.v ((eP2 (eTs eI) (eTs (eO eI))) r2)), .is (.l (List.map eI stands1)), .is (.t (.o "Walker" [("cloth", .d ((eP2 (eTs eI) (eTs (eO eI))) walker2.1)), ("stands", dL (List.map eI walker2.2))])), .nw, .is (.v (eI k0)), .is (.l (List.map eI bag4)), .is (.v (eS a2)), .is (.v (eI a4)), .is (.v ((eP2 (eO eI) eS) due0)), .nw, .nw]) (i := 4) (cn := "Walker") rfl) rfl (rk_callX (rfk_Walker_deeds walker2) (fun r14 => rs_nf (c' := [.is (.v ((eLs eI) script0)), .is (.l (List.map eI first2)), .is (.v ((eP2 (eTs eI) (eTs (eO eI))) r2)), .is (.l (List.map eI stands1)), .is (.t (.o "Walker" [("cloth", .d ((eP2 (eTs eI) (eTs (eO eI))) walker2.1)), ("stands", dL (List.map eI walker2.2))])), .nw, .is (.v (eI k0)), .is (.l (List.map eI bag4)), .is (.v (eS a2)), .is (.v (eI a4)), .is (.v ((eP2 (eO eI) eS) due0)), .nw, .nw]) (rk_pure (d := (eI ((stands1.length : Int) - (1 : Int)))) (ep_bin (ep_lenO (f := eI) (xs := stands1) rfl) ep_C rfl)  (rk_put (ne_typed (f := eI) r14 ((stands1.length : Int) - (1 : Int))) (rk_put rfl (rk_ifF (rk_retT fun _ he => ⟨rfl, he.sub (sub_cons wk_is (sub_cons wk_is (sub_cons wk_is (sub_cons wk_is (sub_cons wk_is (sub_cons wk_nw (sub_cons wk_is (sub_cons wk_is (sub_cons wk_is (sub_cons wk_is (sub_cons wk_is (sub_cons wk_nw (sub_cons wk_nw sub_nil)))))))))))))⟩) (rk_tst (rk_isi (rk_meth (objC_t (c := [.is (.v ((eLs eI) script0)), .is (.l (List.map eI first2)), .is (.v ((eP2 (eTs eI) (eTs (eO eI))) r2)), .is (.l (List.map eI stands1)), .is (.t (.o "Walker" [("cloth", .d ((eP2 (eTs eI) (eTs (eO eI))) walker2.1)), ("stands", dL (List.map eI walker2.2))])), .nw, .is (.v (eI k0)), .is (.l (List.map eI bag4)), .is (.v (eS a2)), .is (.v (eI a4)), .is (.v ((eP2 (eO eI) eS) due0)), .nw, .nw]) (i := 4) (cn := "Walker") rfl) rfl (rk_rnil (rk_methK (objC_t (c := [.is (.v ((eLs eI) script0)), .is (.l (List.map eI first2)), .is (.v ((eP2 (eTs eI) (eTs (eO eI))) r2)), .is (.l (List.map eI stands1)), .is (.t (.o "Walker" [("cloth", .d ((eP2 (eTs eI) (eTs (eO eI))) walker2.1)), ("stands", dL (List.map eI walker2.2))])), .nw, .is (.v (eI k0)), .is (.l (List.map eI bag4)), .is (.v (eS a2)), .is (.v (eI a4)), .is (.v ((eP2 (eO eI) eS) due0)), .nw, .nw]) (i := 4) (cn := "Walker") rfl) rfl (rk_callX (rfk_Walker_at walker2) (fun r15 => rs_nf (c' := [.is (.v ((eLs eI) script0)), .is (.l (List.map eI first2)), .is (.v ((eP2 (eTs eI) (eTs (eO eI))) r2)), .is (.l (List.map eI stands1)), .is (.t (.o "Walker" [("cloth", .d ((eP2 (eTs eI) (eTs (eO eI))) walker2.1)), ("stands", dL (List.map eI walker2.2))])), .nw, .is (.v (eI k0)), .is (.l (List.map eI bag4)), .is (.v (eS a2)), .is (.v (eI a4)), .is (.v ((eP2 (eO eI) eS) due0)), .nw, .nw]) (rk_put (isi_bool (eI r15)) (rk_put rfl (rk_retT fun _ he => ⟨rfl, he.sub (sub_cons wk_is (sub_cons wk_is (sub_cons wk_is (sub_cons wk_is (sub_cons wk_is (sub_cons wk_nw (sub_cons wk_is (sub_cons wk_is (sub_cons wk_is (sub_cons wk_is (sub_cons wk_is (sub_cons wk_nw (sub_cons wk_nw sub_nil)))))))))))))⟩)))) (fun _ _ => trivial)))))))))))) (fun _ _ => trivial)))))))))))) rfl)))) (fun _ _ => trivial)))))))) (fun b3 => (rk_ifF (rs_ret (rk_pure (d := (eB false)) ep_C  (rk_ret (r := false) fun _ he => ⟨rfl, outs_of rfl rfl he⟩))) (rs_nxs (rs_nx fun _ he => he.sub (sub_cons wk_is (sub_cons wk_is (sub_cons wk_is (sub_cons wk_is (sub_cons wk_is (sub_cons wk_nw (sub_cons wk_vnw (sub_cons wk_lnp (sub_cons wk_vnw (sub_cons wk_vnw (sub_cons wk_vnw (sub_cons wk_nw (sub_cons wk_nw sub_nil)))))))))))))))))))))))))) (fun _ _ => trivial))))))))))))))))) rfl))) (fun _ _ _ _ => trivial))))))))))))))))))))))))))) (fun _ _ _ _ => trivial))))))))))))))) (fun _ _ _ _ => trivial)))))))))) (fun _ _ _ _ => trivial))))))))))))))) (fun _ _ _ _ => trivial))))))))))))) (fun _ _ _ _ => trivial)))))))))) (fun ⟨stands3, walker3⟩ => (rs_last (rs_ret (rk_pure (d := (eB true)) ep_C  (rk_ret (r := true) fun _ he => ⟨rfl, outs_of rfl rfl he⟩))))))))))))))))))))))))))) (fun _ _ => trivial) rfl))) rfl))))))))))) (fun _ _ _ _ => trivial))))))))))))) (fun _ _ _ _ => trivial)))))))))) (fun _ _ _ _ => trivial))))))))))))))))))) (fun _ _ _ _ => trivial)))))))))
end
end K35
set_option Elab.async false
set_option linter.all false
set_option maxRecDepth 100000
set_option maxHeartbeats 4000000
namespace NP
open PySem L2 DL LW NT NW
abbrev nI (L : List Nat) : List Int := L.map fun (k : Nat) => (k : Int)
abbrev oI (L : List (Option Nat)) : List (Option Int) := L.map fun o => o.map fun (k : Nat) => (k : Int)
theorem idx_k {α : Type} {xs : List α} {i : Nat} {a : α} (h : xs[i]? = some a) : idx xs (i : Int) = .ok a := by
  unfold idx
  rw [atI_nat h]
  rfl
theorem idx_at {α : Type} {xs : List α} {i : Nat} (h : i < xs.length) : idx xs (i : Int) = .ok xs[i] := idx_k (List.getElem?_eq_getElem h)
theorem idx_nI {L : List Nat} {i : Nat} (h : i < L.length) : idx (nI L) (i : Int) = .ok (L[i] : Int) := idx_k (by simp [h])
theorem setN_k {α : Type} {xs : List α} {i : Nat} (h : i < xs.length) (a : α) : setN xs (i : Int) a = .ok (xs.set i a) := by
  unfold setN
  rw [ixN_of h]
theorem rngN_k {n : Nat} (h : n ≤ 1000000) : rngN (n : Int) = .ok (nI (List.range n)) := by
  unfold rngN
  rw [if_pos (i62_of (by omega) (by omega))]
  simp [rgI]
theorem rngL_k {n : Nat} (h : n ≤ 10000) : rngL (n : Int) = .ok (nI (List.range n)) := by
  unfold rngL
  rw [if_pos ⟨by omega, by omega⟩]
  simp [rgI]
theorem range_at {n i : Nat} {a : Int} (h : (nI (List.range n))[i]? = some a) : i < n ∧ a = (i : Int) := by
  by_cases c : i < n
  · simp [List.getElem?_map, List.getElem?_range c] at h
    exact ⟨c, h.symm⟩
  · rw [List.getElem?_eq_none (by simp; omega)] at h
    cases h
@[simp] theorem nI_len (L : List Nat) : (nI L).length = L.length := by simp
abbrev bg (s : Int × Int) : List Int := [s.1, s.2]
theorem idx0 {α : Type} (x : α) (r : List α) : idx (x :: r) 0 = .ok x := idx_k (i := 0) rfl
theorem idx1 {α : Type} (x y : α) (r : List α) : idx (x :: y :: r) 1 = .ok y := idx_k (i := 1) rfl
theorem idx2 {α : Type} (x y z : α) (r : List α) : idx (x :: y :: z :: r) 2 = .ok z := idx_k (i := 2) rfl
theorem set0 {α : Type} (x : α) (r : List α) (a : α) : setN (x :: r) 0 a = .ok (a :: r) := setN_k (i := 0) (by simp) a
theorem set1 {α : Type} (x y : α) (r : List α) (a : α) : setN (x :: y :: r) 1 a = .ok (x :: a :: r) := setN_k (i := 1) (by simp) a
theorem take_n (s : Int × Int) (m : Int) (hm : 0 < m) (hm2 : m < 2 ^ 64) : ∃ r s', 0 ≤ r ∧ r < m ∧ n__law_take (bg s) m = .ok (r, bg s') := by
  have h64 := divOk_of hm hm2
  obtain ⟨x, y⟩ := s
  by_cases hx : 0 < x
  · refine ⟨x % m, (x / m, y), Int.emod_nonneg _ (by omega), Int.emod_lt_of_pos _ hm, ?_⟩
    simp [n__law_take, idx0, hx, modN, hm, divN, h64, set0]
  · have c1 : mulOk y 48271 = true := mulOk_r (by decide) (by decide)
    have b1 : 0 ≤ y * 48271 % 2147483647 := Int.emod_nonneg _ (by decide)
    have b2 : y * 48271 % 2147483647 < 2147483647 := Int.emod_lt_of_pos _ (by decide)
    have c3 : mulOk (y * 48271 % 2147483647) (y * 48271 % 2147483647) = true := mulOk_l (by omega) (by omega)
    have c5 : divOk 64 = true := divOk_of (by decide) (by decide)
    refine ⟨(y * 48271 % 2147483647) * (y * 48271 % 2147483647) % 2147483629 / 64 % m, (x, y * 48271 % 2147483647), Int.emod_nonneg _ (by omega), Int.emod_lt_of_pos _ hm, ?_⟩
    generalize hz : y * 48271 % 2147483647 = z at c3
    simp [n__law_take, idx0, hx, idx1, modN, hm, divN, mulN, c1, hz, set1, c3, c5]
theorem pow60 : powN 10 60 = .ok ((10 : Int) ^ (60 : Int).toNat) := by
  unfold powN
  rw [if_pos powOk60]
theorem pow18 : powN 10 18 = .ok T18 := by
  unfold powN
  rw [if_pos powOk18]
  rfl
theorem mul60 : mulN ((10 : Int) ^ (60 : Int).toNat) ((10 : Int) ^ (60 : Int).toNat) = .ok T120 := by
  unfold mulN
  rw [if_pos mulOk60]
  rfl
theorem bag_n (ns : List Int) (k : Int) (hk : 0 ≤ k) : ∃ s, n__law_bag ns k = .ok (bg s) := by
  have m1 : ∀ c : Int, mulOk c 7919 = true := fun c => mulOk_r (by decide) (by decide)
  have m2 : mulOk 104729 k = true := mulOk_l (by decide) (by decide)
  obtain ⟨cell, hc⟩ : ∃ cell : Int, (if decide (k < (ns.length : Int)) = true then
      (idx ns k).ct fun a0 => (powN 10 60).ct fun n0 => (powN 10 60).ct fun n1 => (mulN n0 n1).ct fun n2 => (modN a0 n2).ct fun n3 => .nx n3 else .nx 0 : Ct Int Unit (List Int)) = .nx cell := by
    by_cases c : k < (ns.length : Int)
    · obtain ⟨n, rfl⟩ := Int.eq_ofNat_of_zero_le hk
      have hl : n < ns.length := by omega
      refine ⟨ns[n] % T120, ?_⟩
      rw [if_pos (by simpa using c), idx_at hl]
      simp only [ct_ok, pow60, mul60, modN, if_pos T120_pos]
    · exact ⟨0, by rw [if_neg (by simpa using c)]⟩
  unfold n__law_bag
  rw [hc]
  simp only [sq_nx, pow18, ct_ok]
  by_cases h : cell < T18
  · exact ⟨(0, 1 + (cell * 7919 + 104729 * k) % 2147483646), by simp [h, mulN, m1, m2, modN]⟩
  · exact ⟨(cell, 1 + (cell + k) % 2147483646), by simp [h, modN]⟩
end NP
set_option Elab.async false
set_option linter.all false
set_option maxRecDepth 100000
set_option maxHeartbeats 4000000
namespace NP
open PySem L2 DL LW NT NW
theorem cutL_take {α : Type} (xs : List α) (k : Nat) : cutL xs none (some (k : Int)) = xs.take k := by
  unfold cutL
  rw [HT.sIx_nat, HT.sIx_none]
  simp [List.take_eq_take_min]
theorem cutL_drop {α : Type} (xs : List α) (k : Nat) : cutL xs (some (k : Int)) none = xs.drop k := by
  unfold cutL
  rw [HT.sIx_nat, HT.sIx_none]
  by_cases c : k ≤ xs.length
  · rw [Nat.min_eq_left c]
    apply List.take_of_length_le
    simp
  · rw [Nat.min_eq_right (by omega)]
    simp [List.drop_of_length_le (by omega : xs.length ≤ k)]
theorem repN_k {α : Type} (a : α) {n : Nat} (h : n ≤ 100000) : repN a (n : Int) = .ok (List.replicate n a) := by
  unfold repN
  rw [if_pos ⟨i63_of (by omega) (by omega), by simpa using h⟩]
  simp
theorem popAt_n {α : Type} {xs : List α} {k : Nat} (h : k < xs.length) (hl : xs.length ≤ 1000000) : popAtN xs (k : Int) = .ok (xs[k], xs.eraseIdx k) := by
  unfold popAtN
  rw [if_pos (i63_of (by omega) (by omega)), seqIx_of h]
  simp only [List.getElem?_eq_getElem h]
theorem nI_erase (L : List Nat) (k : Nat) : (nI L).eraseIdx k = nI (L.eraseIdx k) := map_eraseIdx _ _ _
theorem nI_take (L : List Nat) (k : Nat) : (nI L).take k = nI (L.take k) := by simp [List.map_take]
theorem nI_drop (L : List Nat) (k : Nat) : (nI L).drop k = nI (L.drop k) := by simp [List.map_drop]
theorem nI_set (L : List Nat) (k v : Nat) : (nI L).set k (v : Int) = nI (L.set k v) := by simp [List.map_set]
theorem oI_set (L : List (Option Nat)) (k : Nat) (v : Option Nat) : (oI L).set k (v.map fun (k : Nat) => (k : Int)) = oI (L.set k v) := by simp [List.map_set]
theorem oI_sets (L : List (Option Nat)) (k v : Nat) : (oI L).set k (some (v : Int)) = oI (L.set k (some v)) := oI_set L k (some v)
theorem idx_prev {p : List Nat} {i : Nat} (h : i < p.length) : idx (nI p) ((i : Int) - 1) = .ok (prevOf p i : Int) := by
  unfold idx
  have h1 := atI_prev h
  have h2 : atI ((nI p).map eI) ((i : Int) - 1) = some (eI (prevOf p i : Int)) := by
    have : (nI p).map eI = nsD p := by simp [nsD, nD]
    rw [this, h1]
    rfl
  rw [atI_map] at h2
  cases q : atI (nI p) ((i : Int) - 1) with
  | none => rw [q] at h2; cases h2
  | some a =>
    rw [q] at h2
    have h3 : eI a = eI (prevOf p i : Int) := by simpa using h2
    injection h3 with h3
    rw [h3]
    rfl
theorem idx_g {p : List Nat} {i : Nat} (h : i < p.length) : idx (nI p) (i : Int) = .ok (p.getD i 0 : Int) := by
  rw [idx_nI h]
  simp [List.getD, List.getElem?_eq_getElem h]
/-- a turn of a patch: what comes behind is put -/
theorem patch_for {ρ l : Type} {p on : List Nat} {n : Nat} (hon : on.length = n) (hpn : p.Nodup) (hlt : ∀ x, x ∈ p → x < n) (body : Int → List Int → Ct (List Int) (List Int) ρ)
    (hb : ∀ (i : Nat) (o : List Nat), i < p.length → o.length = n → body (i : Int) (nI o) = .nx (nI (o.set (prevOf p i) (p.getD i 0)))) : ∃ on' : List Nat, (forC body (nI (List.range p.length)) (nI on) : Ct (List Int) l ρ) = .nx (nI on') ∧ on'.length = n ∧ (∀ x, x ∉ p → on'[x]? = on[x]?) ∧ (∀ j, j < p.length → on'[prevOf p j]? = some (p.getD j 0)) := by
  obtain ⟨st, e, on', rfl, h1, h3, h4⟩ := for_ok (l := l) (body := body) (fun i st => ∃ on' : List Nat, st = nI on' ∧ on'.length = n ∧ (∀ x, x ∉ p → on'[x]? = on[x]?) ∧ (∀ j, j < i → on'[prevOf p j]? = some (p.getD j 0))) (nI (List.range p.length)) (nI on) ⟨on, rfl, hon, fun _ _ => rfl, fun _ h => absurd h (Nat.not_lt_zero _)⟩ (by
    rintro i a _ hi ⟨o, rfl, h1, h3, h4⟩
    obtain ⟨hi2, rfl⟩ := range_at hi
    refine ⟨_, .inl (hb i o hi2 h1), _, rfl, by simp [h1], fun x hx => ?_, fun j hj => ?_⟩
    · rw [List.getElem?_set_ne (fun h => hx (by rw [← h]; exact prev_mem hi2))]
      exact h3 x hx
    · have e3 : prevOf p i < o.length := by rw [h1]; exact hlt _ (prev_mem hi2)
      by_cases c : j = i
      · subst c
        rw [List.getElem?_set_self e3]
      · rw [List.getElem?_set_ne (fun h => c (prev_inj hpn (by omega) hi2 h.symm))]
        exact h4 j (by omega))
  exact ⟨on', e, h1, h3, fun j hj => h4 j (by simpa using hj)⟩
theorem skin_n (s : Int × Int) (m : Nat) (hm : 1 ≤ m) (hm2 : m ≤ 1000) : ∃ r, n__law_skin (bg s) m = .ok r ∧ ∃ n on ms s', 1 ≤ n ∧ n ≤ m ∧ SkinP n on ms ∧ r = ((nI on, oI ms), bg s') := by
  unfold n__law_skin
  refine W_fn ?_
  obtain ⟨r, s1, r0, r1, t1⟩ := take_n s m (by omega) (by omega)
  obtain ⟨n, hn⟩ : ∃ n : Nat, 1 + r = (n : Int) := ⟨(1 + r).toNat, by omega⟩
  have hn1 : 1 ≤ n := by omega
  have hn2 : n ≤ m := by omega
  simp only [t1, ct_ok, P2, hn, rngN_k (show n ≤ 1000000 by omega)]
  refine W_cut (fun st => ∃ s L, st = (bg s, nI L) ∧ L.Perm (List.range n)) ?_ ?_
  · refine W_for (fun i st => ∃ s L, st = (bg s, nI L) ∧ L.Perm (List.range i)) ⟨s1, [], rfl, List.Perm.refl _⟩ ?_ (fun st h => by simpa using h)
    rintro i a _ hi ⟨s, L, rfl, hp⟩
    obtain ⟨hi1, rfl⟩ := range_at hi
    obtain ⟨r, s2, r0, r1, t2⟩ := take_n s (i + 1 : Int) (by omega) (by omega)
    obtain ⟨k, rfl⟩ := Int.eq_ofNat_of_zero_le r0
    have hl : L.length = i := by rw [hp.length_eq]; simp
    have hins : insN (nI L) (k : Int) (i : Int) = .ok (nI (L.take k ++ [i] ++ L.drop k)) := by
      unfold insN
      rw [if_pos ⟨by simp; omega, by omega, i63_of (by omega) (by omega)⟩]
      simp [List.map_take, List.map_drop]
    simp only [P2, t2, ct_ok, hins, W_nx]
    refine ⟨s2, _, rfl, ?_⟩
    rw [List.range_succ]
    refine List.Perm.trans ?_ (List.Perm.append_right [i] hp)
    have h3 := List.perm_append_comm (l₁ := L.take k ++ [i]) (l₂ := L.drop k)
    refine h3.trans ?_
    rw [← List.append_assoc]
    refine List.Perm.append_right [i] ?_
    have h4 := List.perm_append_comm (l₁ := L.drop k) (l₂ := L.take k)
    rw [List.take_append_drop] at h4
    exact h4
  rintro _ ⟨s, L, rfl, hp⟩
  have hL : L.length = n := by rw [hp.length_eq]; simp
  have hLn : L.Nodup := hp.nodup_iff.2 List.nodup_range
  obtain ⟨q1, s1, a0, a1, t1⟩ := take_n s 6 (by decide) (by decide)
  obtain ⟨q2, s2, b0, b1, t2⟩ := take_n s1 3 (by decide) (by decide)
  obtain ⟨w, hw, w0, w1⟩ : ∃ w : Nat, idx [1 + q1, 3, (n : Int)] q2 = .ok (w : Int) ∧ 1 ≤ w ∧ w ≤ 1000 := by
    have : q2 = 0 ∨ q2 = 1 ∨ q2 = 2 := by omega
    rcases this with rfl | rfl | rfl
    · exact ⟨(1 + q1).toNat, by rw [idx0]; congr 1; omega, by omega, by omega⟩
    · exact ⟨3, by rw [idx1]; rfl, by omega, by omega⟩
    · exact ⟨n, by rw [idx2], by omega, by omega⟩
  simp only [P2, t1, t2, ct_ok, hw, repN_k (0 : Int) (show n ≤ 100000 by omega)]
  refine W_cut (fun st => ∃ s on lf, st = (bg s, nI on, lf) ∧ on.Perm (List.range n)) ?_ ?_
  · refine W_while (fun k st => ∃ s dn lf on, st = (bg s, nI on, nI lf) ∧ L = dn ++ lf ∧ on.length = n ∧ (dn.map fun x => on.getD x 0).Perm dn ∧ k = lf.length) FUEL n _ (by have := fuel_le; omega) ⟨s2, [], L, List.replicate n 0, by simp, rfl, by simp, List.Perm.refl _, hL.symm⟩ ?_
    rintro k _ ⟨s, dn, lf, on, rfl, hd, hon, hpm, rfl⟩
    simp only [P3, fn_rt]
    cases lf with
    | nil =>
      left
      refine ⟨by simp, s, on, [], rfl, ?_⟩
      rw [List.append_nil] at hd
      subst hd
      have h1 := map_range_getD on
      rw [hon] at h1
      rw [← h1]
      exact ((hp.symm.map _).trans hpm).trans hp
    | cons x0 lf0 =>
      right
      refine ⟨by simp, ?_⟩
      generalize hlf : x0 :: lf0 = lf at *
      have hlf1 : 0 < lf.length := by rw [← hlf]; simp
      have hdl : dn.length + lf.length = n := by rw [← hL, hd, List.length_append]
      obtain ⟨q3, s3, d0, d1, t3⟩ := take_n s w (by omega) (by omega)
      obtain ⟨q4, s4, f0, f1, t4⟩ := take_n s3 2 (by decide) (by decide)
      obtain ⟨y, hy, y0⟩ : ∃ y : Nat, idx [(w : Int), 1 + q3] q4 = .ok (y : Int) ∧ 1 ≤ y := by
        have : q4 = 0 ∨ q4 = 1 := by omega
        rcases this with rfl | rfl
        · exact ⟨w, by rw [idx0], by omega⟩
        · exact ⟨(1 + q3).toNat, by rw [idx1]; congr 1; omega, by omega⟩
      obtain ⟨z, hz, z0, z1⟩ : ∃ z : Nat, imin (lf.length : Int) (y : Int) = (z : Int) ∧ 1 ≤ z ∧ z ≤ lf.length := by
        unfold imin
        by_cases c : (y : Int) < (lf.length : Int)
        · exact ⟨y, by rw [if_pos c], y0, by omega⟩
        · exact ⟨lf.length, by rw [if_neg c], by omega, by omega⟩
      have hpl : (lf.take z).length = z := by rw [List.length_take]; omega
      have hpn : (lf.take z).Nodup := by
        rw [hd] at hLn
        exact ((List.nodup_append.1 hLn).2.1).sublist (List.take_sublist _ _)
      have hlt : ∀ x, x ∈ lf.take z → x < n := fun x hx => by
        have : x ∈ L := by rw [hd]; exact List.mem_append_right _ (List.mem_of_mem_take hx)
        exact List.mem_range.1 (hp.mem_iff.1 this)
      have hz' : imin ((nI lf).length : Int) (y : Int) = (z : Int) := by rw [nI_len]; exact hz
      have e1 : cutL (nI lf) none (some (z : Int)) = nI (lf.take z) := by rw [cutL_take, nI_take]
      have e2 : cutL (nI lf) (some (z : Int)) none = nI (lf.drop z) := by rw [cutL_drop, nI_drop]
      simp only [P2, P3, t3, t4, ct_ok, hy, hz', rngN_k (show z ≤ 1000000 by omega), e1, e2]
      obtain ⟨on', e, h1, h3, h4⟩ := patch_for (l := (List Int × List Int × List Int)) (ρ := ((List Int × List (Option Int)) × List Int)) hon hpn hlt (fun k0 onward1 => (idx (nI (lf.take z)) k0).ct fun a2 => (idx (nI (lf.take z)) (k0 - 1)).ct fun a3 => (setN onward1 a3 a2).ct fun onward2 => .nx onward2) (fun i o hi ho => by
        rw [idx_g hi, ct_ok, idx_prev hi, ct_ok, setN_k (by simp [ho]; exact hlt _ (prev_mem hi)), ct_ok, nI_set])
      rw [hpl] at e
      refine W_sq ?_
      rw [e]
      simp only [W_nx]
      have hrd := round_perm hpn (on := on') h4
      refine ⟨(lf.drop z).length, by rw [List.length_drop]; omega, s4, dn ++ lf.take z, lf.drop z, on', rfl, ?_, h1, ?_, rfl⟩
      · rw [List.append_assoc, List.take_append_drop]
        exact hd
      · rw [List.map_append]
        refine List.Perm.append ?_ hrd
        have : (dn.map fun x => on'.getD x 0) = dn.map fun x => on.getD x 0 := by
          apply List.map_congr_left
          intro x hx
          simp only [List.getD]
          rw [h3 x (fun hx2 => ?_)]
          rw [hd] at hLn
          exact (List.nodup_append.1 hLn).2.2 x hx x (List.mem_of_mem_take hx2) rfl
        rw [this]
        exact hpm
  rintro _ ⟨s, on, lf, rfl, hon⟩
  obtain ⟨q5, s5, a0, a1, t5⟩ := take_n s 3 (by decide) (by decide)
  obtain ⟨q, hq, q0, q1⟩ : ∃ q : Nat, idx [(2 : Int), 5, 99] q5 = .ok (q : Int) ∧ 1 ≤ q ∧ q ≤ 99 := by
    have : q5 = 0 ∨ q5 = 1 ∨ q5 = 2 := by omega
    rcases this with rfl | rfl | rfl
    · exact ⟨2, by rw [idx0]; rfl, by omega, by omega⟩
    · exact ⟨5, by rw [idx1]; rfl, by omega, by omega⟩
    · exact ⟨99, by rw [idx2]; rfl, by omega, by omega⟩
  simp only [P2, P3, t5, ct_ok, hq, repN_k (none : Option Int) (show n ≤ 100000 by omega), rngL_k (show n ≤ 10000 by omega)]
  refine W_cut (fun st => ∃ s ms wt, st = (bg s, oI ms, wt) ∧ ms.length = n ∧ ∀ i j : Nat, ms[i]? = some (some j) → j < n ∧ j ≠ i ∧ ms[j]? = some (some i)) ?_ ?_
  · refine W_while (fun k st => ∃ s ms wt, st = (bg s, oI ms, nI wt) ∧ SkM n ms wt ∧ k = wt.length) FUEL n _ (by have := fuel_le; omega) ⟨s5, List.replicate n none, List.range n, by simp, ⟨by simp, List.nodup_range, by simp, fun x hx => ⟨List.mem_range.1 hx, ?_⟩, fun i j h => ?_⟩, by simp⟩ ?_
    · rw [List.getElem?_replicate, if_pos (List.mem_range.1 hx)]
    · rw [List.getElem?_replicate] at h
      split at h <;> cases h
    rintro k _ ⟨s, ms, wt, rfl, hM, rfl⟩
    simp only [P3, fn_rt]
    by_cases c : 1 < wt.length
    case neg =>
      left
      exact ⟨by simp; omega, s, ms, nI wt, rfl, hM.len, hM.mate⟩
    right
    refine ⟨by simp; omega, ?_⟩
    have hwl : wt.length ≤ n := hM.lew
    obtain ⟨q6, s6, b0, b1, t6⟩ := take_n s wt.length (by omega) (by omega)
    obtain ⟨x, rfl⟩ := Int.eq_ofNat_of_zero_le b0
    have hx : x < wt.length := by omega
    have hl2 : (wt.eraseIdx x).length = wt.length - 1 := by rw [List.length_eraseIdx]; simp [hx]
    obtain ⟨q7, s7, c0, c1, t7⟩ := take_n s6 ((wt.eraseIdx x).length) (by omega) (by omega)
    obtain ⟨y, rfl⟩ := Int.eq_ofNat_of_zero_le c0
    have hy : y < (wt.eraseIdx x).length := by omega
    obtain ⟨q8, s8, d0, d1, t8⟩ := take_n s7 q (by omega) (by omega)
    have p1 : popAtN (nI wt) (x : Int) = .ok ((wt[x] : Int), nI (wt.eraseIdx x)) := by
      rw [popAt_n (by simpa using hx) (by simp; omega), nI_erase]
      simp
    have p2 : popAtN (nI (wt.eraseIdx x)) (y : Int) = .ok (((wt.eraseIdx x)[y] : Nat), nI ((wt.eraseIdx x).eraseIdx y)) := by
      rw [popAt_n (by simpa using hy) (by simp; omega), nI_erase]
      simp
    have oa := erase_out hM.nod hx
    have ob := erase_out (hM.drop x).nod hy
    have ma := hM.lone _ (List.getElem_mem hx)
    have mb := (hM.drop x).lone _ (List.getElem_mem hy)
    have oab : wt[x] ≠ (wt.eraseIdx x)[y] := fun h => oa (by rw [h]; exact List.getElem_mem hy)
    have oa2 : wt[x] ∉ (wt.eraseIdx x).eraseIdx y := fun h => oa ((List.eraseIdx_sublist _ _).subset h)
    have hM2 := (hM.drop x).drop y
    have hl3 : ((wt.eraseIdx x).eraseIdx y).length < wt.length := by rw [List.length_eraseIdx, if_pos hy]; omega
    generalize wt[x] = a at *
    generalize (wt.eraseIdx x)[y] = b at *
    have t6' : n__law_take (bg s) ((nI wt).length : Int) = .ok ((x : Int), bg s6) := by rw [nI_len]; exact t6
    have t7' : n__law_take (bg s6) ((nI (wt.eraseIdx x)).length : Int) = .ok ((y : Int), bg s7) := by rw [nI_len]; exact t7
    simp only [P2, P3, t6', p1, t7', p2, t8, ct_ok]
    refine W_if (fun c => ?_) (fun c => ?_)
    · have e1 : setN (oI ms) (a : Int) (some (b : Int)) = .ok (oI (ms.set a (some b))) := by
        rw [setN_k (by simp [hM.len]; exact ma.1), oI_sets]
      have e2 : setN (oI (ms.set a (some b))) (b : Int) (some (a : Int)) = .ok (oI ((ms.set a (some b)).set b (some a))) := by
        rw [setN_k (by simp [hM.len]; exact mb.1), oI_sets]
      simp only [e1, e2, ct_ok, W_nx]
      exact ⟨_, hl3, s8, _, _, rfl, hM2.put oa2 ob oab ma.1 mb.1 ma.2 mb.2, rfl⟩
    · simp only [W_nx]
      exact ⟨_, hl3, s8, ms, _, rfl, hM2, rfl⟩
  rintro _ ⟨s, ms, wt, rfl, hl, hmt⟩
  simp only [P3, W_rt]
  exact ⟨n, on, ms, s, hn1, hn2, ⟨hon, hl, hmt⟩, rfl⟩
end NP
set_option Elab.async false
set_option linter.all false
set_option maxRecDepth 100000
set_option maxHeartbeats 4000000
namespace NP
/-- one behind the other -/
def Lk (f : Nat → Option Nat) (l : List Nat) : Prop := ∀ i a b, l[i]? = some a → l[i + 1]? = some b → f a = some b
structure Fw (f : Nat → Option Nat) (x : Nat) (l : List Nat) : Prop where
  hd : l[0]? = some x
  lk : Lk f l
  ne : ∀ i : Nat, l[i + 1]? ≠ some x
/-- a walk from x that is at its end -/
structure FwC (f : Nat → Option Nat) (x : Nat) (l : List Nat) : Prop extends Fw f x l where
  fin : ∀ z, l.getLast? = some z → f z = none ∨ f z = some x
def Inj (f : Nat → Option Nat) : Prop := ∀ a b c, f a = some c → f b = some c → a = b
theorem Fw.one (f : Nat → Option Nat) (x : Nat) : Fw f x [x] := ⟨rfl, fun i a b _ h => by simp at h, fun i h => by simp at h⟩
theorem Fw.ne_nil {f : Nat → Option Nat} {x : Nat} {l : List Nat} (h : Fw f x l) : l ≠ [] := fun e => by have := h.hd; rw [e] at this; cases this
theorem Lk.snoc {f : Nat → Option Nat} {l : List Nat} (h : Lk f l) {z y : Nat} (hz : l.getLast? = some z) (hy : f z = some y) : Lk f (l ++ [y]) := fun i a b ha hb => by
  have hl : l ≠ [] := fun e => by rw [e] at hz; cases hz
  have lb := (List.getElem?_eq_some_iff.mp hb).1
  rw [List.length_append] at lb
  simp at lb
  by_cases c : i + 1 < l.length
  · rw [List.getElem?_append_left (by omega)] at ha
    rw [List.getElem?_append_left c] at hb
    exact h i a b ha hb
  · have e : i + 1 = l.length := by omega
    rw [List.getElem?_append_left (by omega)] at ha
    rw [List.getElem?_append_right (by omega), e] at hb
    simp at hb
    rw [List.getLast?_eq_getElem?] at hz
    rw [show l.length - 1 = i by omega, ha] at hz
    cases hz
    rw [← hb]
    exact hy
theorem Fw.snoc {f : Nat → Option Nat} {x : Nat} {l : List Nat} (h : Fw f x l) {z y : Nat} (hz : l.getLast? = some z) (hy : f z = some y) (hx : y ≠ x) : Fw f x (l ++ [y]) := by
  have hl : 0 < l.length := List.length_pos_iff.2 h.ne_nil
  refine ⟨by rw [List.getElem?_append_left hl]; exact h.hd, h.lk.snoc hz hy, fun i hi => ?_⟩
  by_cases c : i + 1 < l.length
  · rw [List.getElem?_append_left c] at hi
    exact h.ne i hi
  · rw [List.getElem?_append_right (by omega)] at hi
    have : i + 1 - l.length = 0 := by
      have := (List.getElem?_eq_some_iff.mp hi).1
      simp at this
      omega
    rw [this] at hi
    simp at hi
    exact hx hi
theorem Fw.nodup {f : Nat → Option Nat} (inj : Inj f) {x : Nat} {l : List Nat} (h : Fw f x l) : l.Nodup := by
  have key : ∀ (i d : Nat) (a : Nat), l[i]? = some a → l[i + (d + 1)]? = some a → False := by
    intro i
    induction i with
    | zero =>
      intro d a h1 h2
      rw [h.hd] at h1
      cases h1
      rw [Nat.zero_add] at h2
      exact h.ne d h2
    | succ i ih =>
      intro d a h1 h2
      have l1 := (List.getElem?_eq_some_iff.mp h1).1
      have l2 := (List.getElem?_eq_some_iff.mp h2).1
      have e1 : l[i]? = some l[i] := List.getElem?_eq_getElem (by omega)
      have e2 : l[i + (d + 1)]? = some l[i + (d + 1)] := List.getElem?_eq_getElem (by omega)
      have f1 := h.lk i _ _ e1 h1
      have f2 := h.lk (i + (d + 1)) _ a e2 (by rw [show i + (d + 1) + 1 = i + 1 + (d + 1) by omega]; exact h2)
      have := inj _ _ _ f1 f2
      exact ih d l[i] e1 (by rw [e2, this])
  rw [List.nodup_iff_pairwise_ne, List.pairwise_iff_getElem]
  intro i j hi hj hij e
  refine key i (j - i - 1) l[i] (List.getElem?_eq_getElem hi) ?_
  rw [show i + (j - i - 1 + 1) = j by omega, List.getElem?_eq_getElem hj, e]
theorem nodup_len : ∀ (n : Nat) (l : List Nat), l.Nodup → (∀ a, a ∈ l → a < n) → l.length ≤ n
  | 0, l, _, h => by
    cases l with
    | nil => exact Nat.le_refl _
    | cons a l => exact absurd (h a (List.mem_cons_self ..)) (Nat.not_lt_zero _)
  | n + 1, l, hn, h => by
    have h1 := nodup_len n (l.erase n) (hn.sublist List.erase_sublist) (fun a ha => by
      have := (hn.mem_erase_iff.1 ha)
      have h2 := h a this.2
      have := this.1
      omega)
    have : l.length ≤ (l.erase n).length + 1 := by
      rw [List.length_erase]
      split <;> omega
    omega
theorem FwC.uniq {f : Nat → Option Nat} {x : Nat} {l l' : List Nat} (h : FwC f x l) (h' : FwC f x l') : l = l' := by
  have pre : ∀ (i a b : Nat), l[i]? = some a → l'[i]? = some b → a = b := by
    intro i
    induction i with
    | zero =>
      intro a b h1 h2
      rw [h.hd] at h1
      rw [h'.hd] at h2
      cases h1; cases h2; rfl
    | succ i ih =>
      intro a b h1 h2
      have l1 := (List.getElem?_eq_some_iff.mp h1).1
      have l2 := (List.getElem?_eq_some_iff.mp h2).1
      have e1 : l[i]? = some l[i] := List.getElem?_eq_getElem (by omega)
      have e2 : l'[i]? = some l'[i] := List.getElem?_eq_getElem (by omega)
      have e := ih _ _ e1 e2
      have f1 := h.lk i _ _ e1 h1
      have f2 := h'.lk i _ _ e2 h2
      rw [e, f2] at f1
      cases f1
      rfl
  have len : ∀ {l l' : List Nat}, FwC f x l → FwC f x l' → (∀ (i a b : Nat), l[i]? = some a → l'[i]? = some b → a = b) → l'.length ≤ l.length := by
    intro l l' h h' pre
    apply Classical.byContradiction
    intro c
    have hl : 0 < l.length := List.length_pos_iff.2 h.ne_nil
    have e1 : l[l.length - 1]? = some l[l.length - 1] := List.getElem?_eq_getElem (by omega)
    have e2 : l'[l.length - 1]? = some l'[l.length - 1] := List.getElem?_eq_getElem (by omega)
    have e3 : l'[l.length - 1 + 1]? = some l'[l.length - 1 + 1] := List.getElem?_eq_getElem (by omega)
    have e := pre _ _ _ e1 e2
    have g := h'.lk _ _ _ e2 e3
    rw [← e] at g
    rcases h.fin _ (by rw [List.getLast?_eq_getElem?]; exact e1) with q | q
    · rw [g] at q; cases q
    · rw [g] at q
      cases q
      exact h'.ne _ e3
  have le : l.length = l'.length := Nat.le_antisymm (len h' h fun i a b h1 h2 => (pre i b a h2 h1).symm) (len h h' pre)
  apply List.ext_getElem le
  intro i h1 h2
  exact pre i _ _ (List.getElem?_eq_getElem h1) (List.getElem?_eq_getElem h2)
/-- all lie within, if the first does -/
theorem Fw.lt {f : Nat → Option Nat} {x n : Nat} (hf : ∀ a b, f a = some b → b < n) (hx : x < n) {l : List Nat} (h : Fw f x l) : ∀ a, a ∈ l → a < n := fun a ha => by
  obtain ⟨i, hi, e⟩ := List.mem_iff_getElem.1 ha
  cases i with
  | zero =>
    have := h.hd
    rw [List.getElem?_eq_getElem hi] at this
    cases this
    rw [← e]
    exact hx
  | succ i =>
    have := h.lk i _ _ (List.getElem?_eq_getElem (by omega)) (List.getElem?_eq_getElem hi)
    rw [← e]
    exact hf _ _ this
theorem Fw.len {f : Nat → Option Nat} {x n : Nat} (inj : Inj f) (hf : ∀ a b, f a = some b → b < n) (hx : x < n) {l : List Nat} (h : Fw f x l) : l.length ≤ n := nodup_len n l (h.nodup inj) (h.lt hf hx)
section
variable {n : Nat} {on : List Nat} {ms : List (Option Nat)}
def nx (on : List Nat) (h : Nat) : Nat := on.getD h 0
def ah (on : List Nat) (h : Nat) : Nat := on.idxOf h
def mt (ms : List (Option Nat)) (h : Nat) : Option Nat := (ms[h]?).join
def lf (on : List Nat) (ms : List (Option Nat)) (h : Nat) : Option Nat := mt ms (ah on h)
def rt (on : List Nat) (ms : List (Option Nat)) (h : Nat) : Option Nat := (mt ms h).map (nx on)
open LW
theorem SkinP.lenO (S : SkinP n on ms) : on.length = n := by rw [S.perm.length_eq]; simp
theorem nx_at (S : SkinP n on ms) {h : Nat} (hh : h < n) : on[h]? = some (nx on h) := by
  have : h < on.length := by rw [SkinP.lenO S]; exact hh
  simp [nx, List.getD, List.getElem?_eq_getElem this]
theorem nx_lt (S : SkinP n on ms) {h : Nat} (hh : h < n) : nx on h < n := by
  have := List.mem_of_getElem? (nx_at S hh)
  exact List.mem_range.1 (S.perm.mem_iff.1 this)
theorem on_nodup (S : SkinP n on ms) : on.Nodup := S.perm.nodup_iff.2 List.nodup_range
theorem ah_lt (S : SkinP n on ms) {h : Nat} (hh : h < n) : ah on h < n := by
  have : h ∈ on := S.perm.mem_iff.2 (List.mem_range.2 hh)
  have := List.idxOf_lt_length_iff.2 this
  rw [SkinP.lenO S] at this
  exact this
theorem nx_ah (S : SkinP n on ms) {h : Nat} (hh : h < n) : nx on (ah on h) = h := by
  have h1 : on.idxOf h < on.length := by rw [SkinP.lenO S]; exact ah_lt S hh
  have := List.getElem_idxOf h1
  simp only [nx, ah, List.getD, List.getElem?_eq_getElem h1, Option.getD_some]
  exact this
theorem nx_inj (S : SkinP n on ms) {a b : Nat} (ha : a < n) (hb : b < n) (e : nx on a = nx on b) : a = b := by
  exact getD_inj (on_nodup S) (by rw [SkinP.lenO S]; exact ha) (by rw [SkinP.lenO S]; exact hb) e
theorem ah_nx (S : SkinP n on ms) {h : Nat} (hh : h < n) : ah on (nx on h) = h := nx_inj S (ah_lt S (nx_lt S hh)) hh (nx_ah S (nx_lt S hh))
theorem mt_at (S : SkinP n on ms) {h : Nat} (hh : h < n) : ms[h]? = some (mt ms h) := by
  have : h < ms.length := by rw [S.len]; exact hh
  simp [mt, List.getElem?_eq_getElem this]
theorem mt_some (S : SkinP n on ms) {a b : Nat} (h : mt ms a = some b) : a < n ∧ b < n ∧ b ≠ a ∧ mt ms b = some a := by
  unfold mt at h
  cases q : ms[a]? with
  | none => rw [q] at h; cases h
  | some o =>
    rw [q] at h
    have h' : o = some b := h
    subst h'
    obtain ⟨h1, h2, h3⟩ := S.mate a b q
    have := (List.getElem?_eq_some_iff.mp q).1
    exact ⟨by rw [← S.len]; exact this, h1, h2, by unfold mt; rw [h3]; rfl⟩
theorem lf_rt (S : SkinP n on ms) {a b : Nat} (ha : a < n) (h : lf on ms a = some b) : b < n ∧ rt on ms b = some a := by
  obtain ⟨h1, h2, h3, h4⟩ := mt_some S h
  refine ⟨h2, ?_⟩
  unfold rt
  rw [h4]
  exact congrArg some (nx_ah S ha)
theorem rt_lf (S : SkinP n on ms) {a b : Nat} (h : rt on ms b = some a) : a < n ∧ b < n ∧ lf on ms a = some b := by
  unfold rt at h
  cases q : mt ms b with
  | none => rw [q] at h; cases h
  | some m =>
    rw [q] at h
    have e : nx on m = a := by simpa using h
    obtain ⟨h1, h2, h3, h4⟩ := mt_some S q
    refine ⟨by rw [← e]; exact nx_lt S h2, h1, ?_⟩
    unfold lf
    rw [← e, ah_nx S h2]
    exact h4
theorem lf_lt (S : SkinP n on ms) {a b : Nat} (h : lf on ms a = some b) : a < n := by
  obtain ⟨h1, _⟩ := mt_some S h
  have h2 : on.idxOf a < on.length := by rw [SkinP.lenO S]; exact h1
  have := List.idxOf_lt_length_iff.1 h2
  exact List.mem_range.1 (S.perm.mem_iff.1 this)
theorem lf_inj (S : SkinP n on ms) : Inj (lf on ms) := fun a b c h1 h2 => by
  have e1 := (lf_rt S (lf_lt S h1) h1).2
  have e2 := (lf_rt S (lf_lt S h2) h2).2
  rw [e1] at e2
  cases e2
  rfl
theorem rt_inj (S : SkinP n on ms) : Inj (rt on ms) := fun a b c h1 h2 => by
  have e1 := (rt_lf S h1).2.2
  have e2 := (rt_lf S h2).2.2
  rw [e1] at e2
  cases e2
  rfl
theorem lf_ub (S : SkinP n on ms) (a b : Nat) (h : lf on ms a = some b) : b < n := (lf_rt S (lf_lt S h) h).1
theorem rt_ub (S : SkinP n on ms) (a b : Nat) (h : rt on ms a = some b) : b < n := (rt_lf S h).1
end
/-- the walk round a knot: it comes round, or goes from end to end -/
structure Kn (L R : Nat → Option Nat) (h : Nat) (l : List Nat) : Prop where
  ex : (FwC L h l ∧ ∀ z, l.getLast? = some z → L z = some h) ∨ (∃ x, FwC L x l ∧ R x = none ∧ h ∈ l ∧ ∀ z, l.getLast? = some z → L z = none)
theorem Lk.drop {f : Nat → Option Nat} {l : List Nat} (h : Lk f l) (k : Nat) : Lk f (l.drop k) := fun i a b ha hb => by
  rw [List.getElem?_drop] at ha hb
  exact h (k + i) a b ha (by rw [show k + i + 1 = k + (i + 1) by omega]; exact hb)
/-- from a place on to the end: by how far it is -/
theorem ends {f : Nat → Option Nat} {l l' : List Nat} (h : Lk f l) (h' : Lk f l') (e : ∀ z, l.getLast? = some z → f z = none) (e' : ∀ z, l'.getLast? = some z → f z = none) {i j a : Nat} (hi : l[i]? = some a) (hj : l'[j]? = some a) : l.drop i = l'.drop j := by
  have key : ∀ (k : Nat) (l l' : List Nat) (i j a : Nat), Lk f l → Lk f l' → (∀ z, l.getLast? = some z → f z = none) → (∀ z, l'.getLast? = some z → f z = none) → l[i]? = some a → l'[j]? = some a → l.length - i ≤ k → l.drop i = l'.drop j := by
    intro k
    induction k with
    | zero =>
      intro l l' i j a _ _ _ _ hi _ hk
      have := (List.getElem?_eq_some_iff.mp hi).1
      omega
    | succ k ih =>
      intro l l' i j a h h' e e' hi hj hk
      have li := (List.getElem?_eq_some_iff.mp hi).1
      have lj := (List.getElem?_eq_some_iff.mp hj).1
      rw [List.drop_eq_getElem_cons li, List.drop_eq_getElem_cons lj]
      have ea : l[i] = l'[j] := by
        rw [List.getElem?_eq_getElem li] at hi
        rw [List.getElem?_eq_getElem lj] at hj
        cases hi
        injection hj with hj
        exact hj.symm
      rw [ea]
      congr 1
      by_cases ci : i + 1 < l.length
      · have n1 := h i a _ hi (List.getElem?_eq_getElem ci)
        by_cases cj : j + 1 < l'.length
        · have n2 := h' j a _ hj (List.getElem?_eq_getElem cj)
          rw [n1] at n2
          exact ih l l' (i + 1) (j + 1) _ h h' e e' (List.getElem?_eq_getElem ci) (by rw [List.getElem?_eq_getElem cj]; exact n2.symm) (by omega)
        · have : f a = none := e' a (by rw [List.getLast?_eq_getElem?, show l'.length - 1 = j by omega]; exact hj)
          rw [this] at n1
          cases n1
      · have n1 : f a = none := e a (by rw [List.getLast?_eq_getElem?, show l.length - 1 = i by omega]; exact hi)
        by_cases cj : j + 1 < l'.length
        · have n2 := h' j a _ hj (List.getElem?_eq_getElem cj)
          rw [n1] at n2
          cases n2
        · rw [List.drop_of_length_le (by omega), List.drop_of_length_le (by omega)]
  exact key _ l l' i j a h h' e e' hi hj (Nat.le_refl _)
theorem Kn.uniq {L R : Nat → Option Nat} (inv : ∀ a b, L a = some b → R b = some a) {h : Nat} {l l' : List Nat} (k : Kn L R h l) (k' : Kn L R h l') : l = l' := by
  have mix : ∀ {l l' : List Nat}, (FwC L h l ∧ ∀ z, l.getLast? = some z → L z = some h) → (∃ x, FwC L x l' ∧ R x = none ∧ h ∈ l' ∧ ∀ z, l'.getLast? = some z → L z = none) → False := by
    intro l l' ⟨c, cl⟩ ⟨x, c', hx, hm, cl'⟩
    -- each of l has one behind it, so the chain could not end
    have step : ∀ a, a ∈ l → ∃ b, b ∈ l ∧ L a = some b := fun a ha => by
      obtain ⟨i, hi, e⟩ := List.mem_iff_getElem.1 ha
      by_cases q : i + 1 < l.length
      · exact ⟨l[i + 1], List.getElem_mem q, by rw [← e]; exact c.lk i _ _ (List.getElem?_eq_getElem hi) (List.getElem?_eq_getElem q)⟩
      · refine ⟨h, List.mem_of_getElem? c.hd, ?_⟩
        rw [← e]
        exact cl _ (by rw [List.getLast?_eq_getElem?, show l.length - 1 = i by omega]; exact List.getElem?_eq_getElem hi)
    obtain ⟨j, hj, e⟩ := List.mem_iff_getElem.1 hm
    have all : ∀ (d z : Nat), l'[j + d]? = some z → z ∈ l := by
      intro d
      induction d with
      | zero =>
        intro z hz
        rw [Nat.add_zero, List.getElem?_eq_getElem hj, e] at hz
        cases hz
        exact List.mem_of_getElem? c.hd
      | succ d ih =>
        intro z hz
        have ld := (List.getElem?_eq_some_iff.mp hz).1
        have e4 : l'[j + d]? = some l'[j + d] := List.getElem?_eq_getElem (by omega)
        obtain ⟨b, hb, hL⟩ := step _ (ih _ e4)
        have := c'.lk (j + d) _ _ e4 hz
        rw [hL] at this
        cases this
        exact hb
    have hz2 : l'[l'.length - 1]? = some l'[l'.length - 1] := List.getElem?_eq_getElem (by omega)
    have hlast := all (l'.length - 1 - j) _ (by rw [show j + (l'.length - 1 - j) = l'.length - 1 by omega]; exact hz2)
    obtain ⟨b, _, hL⟩ := step _ hlast
    have := cl' _ (by rw [List.getLast?_eq_getElem?]; exact hz2)
    rw [hL] at this
    cases this
  rcases k.ex with a | a <;> rcases k'.ex with b | b
  · exact a.1.uniq b.1
  · exact (mix a b).elim
  · exact (mix b a).elim
  · obtain ⟨x, c, hx, hm, cl⟩ := a
    obtain ⟨x', c', hx', hm', cl'⟩ := b
    obtain ⟨i, hi, e⟩ := List.mem_iff_getElem.1 hm
    obtain ⟨j, hj, e'⟩ := List.mem_iff_getElem.1 hm'
    have d := ends c.lk c'.lk cl cl' (i := i) (j := j) (a := h) (by rw [List.getElem?_eq_getElem hi, e]) (by rw [List.getElem?_eq_getElem hj, e'])
    -- backwards
    have back : ∀ (k : Nat) (l l' : List Nat) (i j a x x' : Nat), Fw L x l → Fw L x' l' → R x = none → R x' = none → l[i]? = some a → l'[j]? = some a → i ≤ k → i = j ∧ l.take i = l'.take j := by
      intro k
      induction k with
      | zero =>
        intro l l' i j a x x' f f' hx hx' hi hj hk
        have : i = 0 := by omega
        subst this
        rw [f.hd] at hi
        cases hi
        cases j with
        | zero => exact ⟨rfl, rfl⟩
        | succ j =>
          have lj := (List.getElem?_eq_some_iff.mp hj).1
          have := inv _ _ (f'.lk j _ _ (List.getElem?_eq_getElem (by omega)) hj)
          rw [hx] at this
          cases this
      | succ k ih =>
        intro l l' i j a x x' f f' hx hx' hi hj hk
        cases i with
        | zero =>
          rw [f.hd] at hi
          cases hi
          cases j with
          | zero => exact ⟨rfl, rfl⟩
          | succ j =>
            have lj := (List.getElem?_eq_some_iff.mp hj).1
            have := inv _ _ (f'.lk j _ _ (List.getElem?_eq_getElem (by omega)) hj)
            rw [hx] at this
            cases this
        | succ i =>
          have li := (List.getElem?_eq_some_iff.mp hi).1
          have g1 := inv _ _ (f.lk i _ _ (List.getElem?_eq_getElem (by omega)) hi)
          cases j with
          | zero =>
            rw [f'.hd] at hj
            cases hj
            rw [hx'] at g1
            cases g1
          | succ j =>
            have lj := (List.getElem?_eq_some_iff.mp hj).1
            have g2 := inv _ _ (f'.lk j _ _ (List.getElem?_eq_getElem (by omega)) hj)
            rw [g1] at g2
            injection g2 with g2
            obtain ⟨e1, e2⟩ := ih l l' i j l[i] x x' f f' hx hx' (List.getElem?_eq_getElem (by omega)) (by rw [List.getElem?_eq_getElem (by omega), g2]) (by omega)
            subst e1
            refine ⟨rfl, ?_⟩
            rw [List.take_succ, List.take_succ, e2, List.getElem?_eq_getElem (by omega : i < l.length), List.getElem?_eq_getElem (by omega : i < l'.length), g2]
    obtain ⟨e1, e2⟩ := back i l l' i j h x x' c.toFw c'.toFw hx hx' (by rw [List.getElem?_eq_getElem hi, e]) (by rw [List.getElem?_eq_getElem hj, e']) (Nat.le_refl _)
    subst e1
    rw [← List.take_append_drop i l, ← List.take_append_drop i l', e2, d]
end NP
set_option Elab.async false
set_option linter.all false
set_option maxRecDepth 100000
set_option maxHeartbeats 4000000
namespace NP
open PySem L2 DL LW NT NW
abbrev sk (on : List Nat) (ms : List (Option Nat)) : List Int × List (Option Int) := (nI on, oI ms)
abbrev oc (o : Option Nat) : Option Int := o.map fun (k : Nat) => (k : Int)
theorem appN_n {L : List Nat} {y : Nat} (h : L.length < 100000) : appN (nI L) (y : Int) = .ok (nI (L ++ [y])) := by
  unfold appN
  rw [if_pos (by simpa using h)]
  simp
theorem idx_last {L : List Nat} {z : Nat} (h : L.getLast? = some z) : idx (nI L) (-1) = .ok (z : Int) := by
  have hl : L ≠ [] := fun e => by rw [e] at h; cases h
  have hp : 0 < L.length := List.length_pos_iff.2 hl
  unfold idx atI ixN
  rw [if_neg (by omega), if_pos (by rw [nI_len]; omega)]
  have e : ((-1 : Int) + ((nI L).length : Int)).toNat = L.length - 1 := by rw [nI_len]; omega
  rw [e]
  rw [List.getLast?_eq_getElem?] at h
  simp [h]
theorem idx_head {L : List Nat} {z : Nat} (h : L[0]? = some z) : idx (nI L) 0 = .ok (z : Int) := idx_k (i := 0) (by simp [h])
theorem index_n {on : List Nat} {h : Nat} (hh : h ∈ on) : indexN (nI on) (h : Int) = .ok (ah on h : Int) := by
  unfold indexN ah
  have : (nI on).findIdx? (fun y => decide (y = (h : Int))) = some (on.idxOf h) := by
    rw [List.findIdx?_eq_some_iff_getElem]
    have l := List.idxOf_lt_length_iff.2 hh
    refine ⟨by simpa using l, by simp, fun j hj => ?_⟩
    have lj : j < on.length := by omega
    simp only [List.getElem_map, decide_eq_true_eq]
    intro e
    have e' : on[j] = h := by omega
    have := List.not_of_lt_findIdx (p := (· == h)) (xs := on) (i := j) hj
    simp [e'] at this
  rw [this]
  rfl
section
variable {n : Nat} {on : List Nat} {ms : List (Option Nat)} (S : SkinP n on ms)
include S
theorem look_n {h : Nat} (hh : h < n) : n_look_at_half (sk on ms) (h : Int) = .ok () := by
  unfold n_look_at_half
  have a : ¬ ((h : Int) < 0) := by omega
  have b : ¬ (((nI on).length : Int) ≤ (h : Int)) := by rw [nI_len, SkinP.lenO S]; omega
  simp only [a, b, decide_false, Bool.or_self, Bool.false_eq_true, if_false, fp_nx]
theorem at_on {h : Nat} (hh : h < n) : idx (nI on) (h : Int) = .ok (nx on h : Int) := idx_k (by simp [nx_at S hh])
theorem at_ms {h : Nat} (hh : h < n) : idx (oI ms) (h : Int) = .ok (oc (mt ms h)) := idx_k (by simp [mt_at S hh])
theorem mem_on {h : Nat} (hh : h < n) : h ∈ on := S.perm.mem_iff.2 (List.mem_range.2 hh)
theorem ahead_n {h : Nat} (hh : h < n) : n_ahead_of (sk on ms) (h : Int) = .ok (ah on h : Int) := by
  unfold n_ahead_of
  simp [look_n S hh, index_n (mem_on S hh)]
theorem left_n {h : Nat} (hh : h < n) : n_left_of (sk on ms) (h : Int) = .ok (oc (lf on ms h)) := by
  unfold n_left_of
  simp only [ahead_n S hh, at_ms S (ah_lt S hh), ct_ok, fn_rt]
  rfl
theorem right_n {h : Nat} (hh : h < n) : n_right_of (sk on ms) (h : Int) = .ok (oc (rt on ms h)) := by
  unfold n_right_of
  simp only [look_n S hh, at_ms S hh, ct_ok]
  cases q : mt ms h with
  | none => simp [rt, q]
  | some m => simp [rt, q, at_on S (mt_some S q).2.1]
theorem lleft_n {h : Nat} (hh : h < n) : n__law_left (sk on ms) (h : Int) = .ok (oc (lf on ms h)) := by
  unfold n__law_left
  simp only [index_n (mem_on S hh), at_ms S (ah_lt S hh), ct_ok, fn_rt]
  rfl
theorem lright_n {h : Nat} (hh : h < n) : n__law_right (sk on ms) (h : Int) = .ok (oc (rt on ms h)) := by
  unfold n__law_right
  simp only [at_ms S hh, ct_ok]
  cases q : mt ms h with
  | none => simp [rt, q]
  | some m => simp [rt, q, unw, at_on S (mt_some S q).2.1]
end
def tot (D : Nat → Bool) (g : Nat → Nat) : Nat → Option Nat := fun a => if D a = true then some (g a) else none
structure TotOk (n : Nat) (D : Nat → Bool) (g : Nat → Nat) : Prop where
  lt : ∀ a, D a = true → a < n
  st : ∀ a, D a = true → D (g a) = true
  inj : ∀ a b, D a = true → D b = true → g a = g b → a = b
theorem TotOk.inj' {n : Nat} {D : Nat → Bool} {g : Nat → Nat} (T : TotOk n D g) : Inj (tot D g) := fun a b c h1 h2 => by
  unfold tot at h1 h2
  by_cases p : D a = true
  · by_cases q : D b = true
    · rw [if_pos p] at h1
      rw [if_pos q] at h2
      injection h1 with h1
      injection h2 with h2
      exact T.inj a b p q (h1.trans h2.symm)
    · rw [if_neg q] at h2; cases h2
  · rw [if_neg p] at h1; cases h1
theorem TotOk.ub {n : Nat} {D : Nat → Bool} {g : Nat → Nat} (T : TotOk n D g) (a b : Nat) (h : tot D g a = some b) : b < n := by
  unfold tot at h
  split at h <;> cases h
  rename_i p
  exact T.lt _ (T.st _ p)
theorem tot_on {D : Nat → Bool} {g : Nat → Nat} {a : Nat} (h : D a = true) : tot D g a = some (g a) := by unfold tot; rw [if_pos h]
theorem loopA {ρ l : Type} {n : Nat} {D : Nat → Bool} {g : Nat → Nat} (T : TotOk n D g) (hn : n ≤ 1000) {x : Nat} (hx : D x = true) (step : Int → N Int) (hs : ∀ a, D a = true → step (a : Int) = .ok (g a : Int)) :
    ∃ lst, FwC (tot D g) x lst ∧ (∀ a, a ∈ lst → D a = true) ∧ (whileC (P2 fun (found0 : List Int) (at0 : Int) => Ct.fn (.rt (!(decide (at0 = (x : Int)))) : Ct Unit Unit Bool)) (P2 fun found0 at0 => ((appN found0 at0).ct fun found1 => (step at0).ct fun a1 => .nx (found1, a1) : Ct (List Int × Int) (List Int × Int) ρ)) FUEL ([(x : Int)], (g x : Int)) : Ct (List Int × Int) l ρ) = .nx (nI lst, (x : Int)) := by
  obtain ⟨st, e, lst, z, f, hz, rfl, hD, hxz⟩ := while_ok (l := l) (ρ := ρ) (t := P2 fun (found0 : List Int) (at0 : Int) => Ct.fn (.rt (!(decide (at0 = (x : Int)))) : Ct Unit Unit Bool)) (body := P2 fun found0 at0 => ((appN found0 at0).ct fun found1 => (step at0).ct fun a1 => .nx (found1, a1) : Ct (List Int × Int) (List Int × Int) ρ))
    (fun k st => ∃ lst z, Fw (tot D g) x lst ∧ lst.getLast? = some z ∧ st = (nI lst, (g z : Int)) ∧ (∀ a, a ∈ lst → D a = true) ∧ k = n - lst.length)
    (fun st => ∃ lst z, Fw (tot D g) x lst ∧ lst.getLast? = some z ∧ st = (nI lst, (x : Int)) ∧ (∀ a, a ∈ lst → D a = true) ∧ g z = x)
    FUEL (n - 1) ([(x : Int)], (g x : Int)) (by have := fuel_le; omega) ⟨[x], x, Fw.one _ _, rfl, rfl, fun a ha => by rw [List.mem_singleton.1 ha]; exact hx, by simp⟩ (by
      rintro k _ ⟨lst, z, f, hz, rfl, hD, rfl⟩
      have hDz : D z = true := hD z (List.mem_of_getLast? hz)
      by_cases c : g z = x
      · left
        exact ⟨by simp [c], lst, z, f, hz, by rw [c], hD, c⟩
      · right
        have c' : ¬ ((g z : Int) = (x : Int)) := by omega
        have f2 := f.snoc hz (tot_on hDz) c
        have l1 := f.len T.inj' T.ub (T.lt x hx)
        have l2 := f2.len T.inj' T.ub (T.lt x hx)
        rw [List.length_append] at l2
        simp only [List.length_singleton] at l2
        refine ⟨by simp [c'], (nI (lst ++ [g z]), (g (g z) : Int)), n - (lst ++ [g z]).length, .inl ?_, ?_, lst ++ [g z], g z, f2, by simp, rfl, ?_, rfl⟩
        · simp only [P2, appN_n (show lst.length < 100000 by omega), ct_ok, hs _ (T.st _ hDz)]
        · rw [List.length_append]; simp only [List.length_singleton]; omega
        · intro a ha
          rcases List.mem_append.1 ha with ha | ha
          · exact hD a ha
          · rw [List.mem_singleton.1 ha]; exact T.st _ hDz)
  refine ⟨lst, ⟨f, fun w hw => ?_⟩, hD, e⟩
  rw [hz] at hw
  cases hw
  exact .inr (by rw [tot_on (hD z (List.mem_of_getLast? hz)), hxz])
section
variable {n : Nat} {on : List Nat} {ms : List (Option Nat)} (S : SkinP n on ms)
include S
def inB (n : Nat) (a : Nat) : Bool := decide (a < n)
theorem patch_tot : TotOk n (inB n) (nx on) where
  lt := fun a h => by simpa [inB] using h
  st := fun a h => by simp [inB] at *; exact nx_lt S h
  inj := fun a b h1 h2 e => by simp [inB] at *; exact nx_inj S h1 h2 e
/-- what is a patch -/
def PatchW (n : Nat) (on : List Nat) (h : Nat) (l : List Nat) : Prop := FwC (tot (inB n) (nx on)) h l
theorem patch_n (hn : n ≤ 1000) {h : Nat} (hh : h < n) : ∃ l, PatchW n on h l ∧ (∀ a, a ∈ l → a < n) ∧ n_patch_of (sk on ms) (h : Int) = .ok (nI l) := by
  obtain ⟨lst, f, hD, e⟩ := loopA (l := Unit) (ρ := List Int) (patch_tot S) hn (x := h) (by simpa [inB] using hh) (fun a => idx (nI on) a) (fun a ha => at_on S (by simpa [inB] using ha))
  refine ⟨lst, f, fun a ha => by simpa [inB] using hD a ha, ?_⟩
  unfold n_patch_of
  simp only [look_n S hh, at_on S hh, ct_ok]
  rw [e]
  rfl
theorem lpatch_n (hn : n ≤ 1000) {h : Nat} (hh : h < n) : ∃ l, PatchW n on h l ∧ n__law_patch (sk on ms) (h : Int) = .ok (nI l) := by
  have T := patch_tot S
  have H : ∃ r, n__law_patch (sk on ms) (h : Int) = .ok r ∧ ∃ l, PatchW n on h l ∧ r = nI l := by
    unfold n__law_patch
    refine W_fn ?_
    refine W_cut (fun st => ∃ l, PatchW n on h l ∧ st = nI l) ?_ (fun st h => h)
    refine W_while (fun k st => ∃ lst z, Fw (tot (inB n) (nx on)) h lst ∧ lst.getLast? = some z ∧ st = nI lst ∧ (∀ a, a ∈ lst → a < n) ∧ k = n - lst.length) FUEL (n - 1) _ (by have := fuel_le; omega) ⟨[h], h, Fw.one _ _, rfl, rfl, fun a ha => by rw [List.mem_singleton.1 ha]; exact hh, by simp⟩ ?_
    rintro k _ ⟨lst, z, f, hz, rfl, hD, rfl⟩
    have hDz : z < n := hD z (List.mem_of_getLast? hz)
    have hfz : tot (inB n) (nx on) z = some (nx on z) := tot_on (by simpa [inB] using hDz)
    simp only [idx_last hz, ct_ok, at_on S hDz, fn_rt]
    by_cases c : nx on z = h
    · left
      refine ⟨by simp [c], lst, ⟨f, fun w hw => ?_⟩, rfl⟩
      rw [hz] at hw
      cases hw
      exact .inr (by rw [hfz, c])
    · right
      have c' : ¬ ((nx on z : Int) = (h : Int)) := by omega
      have f2 := f.snoc hz hfz c
      have hx : inB n h = true := by simpa [inB] using hh
      have l2 := f2.len T.inj' T.ub (T.lt h hx)
      rw [List.length_append] at l2
      simp only [List.length_singleton] at l2
      refine ⟨by simp [c'], ?_⟩
      simp only [appN_n (show lst.length < 100000 by omega), ct_ok, W_nx]
      refine ⟨n - (lst ++ [nx on z]).length, by rw [List.length_append]; simp only [List.length_singleton]; omega, lst ++ [nx on z], nx on z, f2, by simp, rfl, fun a ha => ?_, rfl⟩
      rcases List.mem_append.1 ha with ha | ha
      · exact hD a ha
      · rw [List.mem_singleton.1 ha]; exact nx_lt S hDz
  obtain ⟨r, e, l, f, rfl⟩ := H
  exact ⟨l, f, e⟩
end
end NP
set_option Elab.async false
set_option linter.all false
set_option maxRecDepth 100000
set_option maxHeartbeats 4000000
namespace NP
open PySem L2 DL LW NT NW
theorem chain_nodup {f : Nat → Option Nat} {l : List Nat} (h : Lk f l) (e : ∀ z, l.getLast? = some z → f z = none) : l.Nodup := by
  rw [List.nodup_iff_pairwise_ne, List.pairwise_iff_getElem]
  intro i j hi hj hij q
  have := ends h h e e (i := i) (j := j) (a := l[i]) (List.getElem?_eq_getElem hi) (by rw [List.getElem?_eq_getElem hj, q])
  have := congrArg List.length this
  simp at this
  omega
theorem chain_fw {f : Nat → Option Nat} {l : List Nat} {x : Nat} (h : Lk f l) (e : ∀ z, l.getLast? = some z → f z = none) (hx : l[0]? = some x) : FwC f x l where
  hd := hx
  lk := h
  ne := fun i hi => by
    have nd := chain_nodup h e
    have l0 := (List.getElem?_eq_some_iff.mp hx).1
    have l1 := (List.getElem?_eq_some_iff.mp hi).1
    rw [List.getElem?_eq_getElem l0] at hx
    rw [List.getElem?_eq_getElem l1] at hi
    injection hx with hx
    injection hi with hi
    rw [List.nodup_iff_pairwise_ne, List.pairwise_iff_getElem] at nd
    exact nd 0 (i + 1) l0 l1 (by omega) (hx.trans hi.symm)
  fin := fun z hz => .inl (e z hz)
theorem Lk.cons {f : Nat → Option Nat} {l : List Nat} (h : Lk f l) {x y : Nat} (hx : l[0]? = some x) (hy : f y = some x) : Lk f (y :: l) := fun i a b ha hb => by
  cases i with
  | zero =>
    simp at ha hb
    subst ha
    rw [hx] at hb
    cases hb
    exact hy
  | succ i => exact h i a b (by simpa using ha) (by simpa using hb)
theorem Lk.rev {f g : Nat → Option Nat} (inv : ∀ a b, f a = some b → g b = some a) {l : List Nat} (h : Lk f l) : Lk g l.reverse := fun i a b ha hb => by
  have l1 := (List.getElem?_eq_some_iff.mp hb).1
  rw [List.length_reverse] at l1
  rw [List.getElem?_reverse (by omega)] at ha hb
  refine inv b a (h (l.length - 1 - (i + 1)) b a hb ?_)
  rw [show l.length - 1 - (i + 1) + 1 = l.length - 1 - i by omega]
  exact ha
theorem rev_last {l : List Nat} {x : Nat} (h : l[0]? = some x) : l.reverse.getLast? = some x := by
  rw [List.getLast?_reverse]
  cases l with
  | nil => cases h
  | cons a l => simpa using h
theorem rev_head {l : List Nat} {x : Nat} (h : l.getLast? = some x) : l.reverse[0]? = some x := by
  rw [← List.head?_eq_getElem?, List.head?_reverse]
  exact h
/-- a chain to the right, read back -/
theorem kn_of_chain {L R : Nat → Option Nat} (inv : ∀ a b, L a = some b → R b = some a) (inv' : ∀ a b, R a = some b → L b = some a) {h e : Nat} {r l : List Nat} (hr : FwC R h r) (he : r.getLast? = some e) (hn : R e = none) (hl : FwC L e l) : Kn L R h l := by
  refine ⟨.inr ⟨e, hl, hn, ?_, ?_⟩⟩
  · have all : ∀ (k : Nat) (a : Nat), r.reverse[k]? = some a → a ∈ l := by
      intro k
      induction k with
      | zero =>
        intro a ha
        rw [rev_head he] at ha
        cases ha
        exact List.mem_of_getElem? hl.hd
      | succ k ih =>
        intro a ha
        have l1 := (List.getElem?_eq_some_iff.mp ha).1
        have e4 : r.reverse[k]? = some r.reverse[k] := List.getElem?_eq_getElem (by omega)
        have st := Lk.rev inv' hr.lk k _ _ e4 ha
        obtain ⟨j, hj, ej⟩ := List.mem_iff_getElem.1 (ih _ e4)
        by_cases c : j + 1 < l.length
        · have := hl.lk j _ _ (List.getElem?_eq_getElem hj) (List.getElem?_eq_getElem c)
          rw [ej, st] at this
          cases this
          exact List.getElem_mem c
        · have := hl.fin l[j] (by rw [List.getLast?_eq_getElem?, show l.length - 1 = j by omega]; exact List.getElem?_eq_getElem hj)
          rw [ej, st] at this
          rcases this with q | q
          · cases q
          · cases q
            exact List.mem_of_getElem? hl.hd
    have := rev_last hr.hd
    rw [List.getLast?_eq_getElem?] at this
    exact all _ _ this
  · intro z hz
    rcases hl.fin z hz with q | q
    · exact q
    · have := inv _ _ q
      rw [hn] at this
      cases this
/-- a round to the right is one to the left -/
theorem kn_of_round {L R : Nat → Option Nat} (inv' : ∀ a b, R a = some b → L b = some a) {h z : Nat} {r l : List Nat} (hr : FwC R h r) (hz : r.getLast? = some z) (hc : R z = some h) (hl : FwC L h l) : Kn L R h l := by
  refine ⟨.inl ⟨hl, ?_⟩⟩
  have step : ∀ a, a ∈ r → ∃ b, b ∈ r ∧ L a = some b := fun a ha => by
    obtain ⟨i, hi, e⟩ := List.mem_iff_getElem.1 ha
    cases i with
    | zero =>
      have := hr.hd
      rw [List.getElem?_eq_getElem hi, e] at this
      cases this
      exact ⟨z, List.mem_of_getLast? hz, inv' _ _ hc⟩
    | succ i =>
      refine ⟨r[i], List.getElem_mem _, ?_⟩
      have := hr.lk i _ _ (List.getElem?_eq_getElem (by omega)) (List.getElem?_eq_getElem hi)
      rw [e] at this
      exact inv' _ _ this
  have all : ∀ (k a : Nat), l[k]? = some a → a ∈ r := by
    intro k
    induction k with
    | zero =>
      intro a ha
      rw [hl.hd] at ha
      cases ha
      exact List.mem_of_getElem? hr.hd
    | succ k ih =>
      intro a ha
      have l1 := (List.getElem?_eq_some_iff.mp ha).1
      have e4 : l[k]? = some l[k] := List.getElem?_eq_getElem (by omega)
      have st := hl.lk k _ _ e4 ha
      obtain ⟨b, hb, hL⟩ := step _ (ih _ e4)
      rw [st] at hL
      cases hL
      exact hb
  intro w hw
  rcases hl.fin w hw with q | q
  · rw [List.getLast?_eq_getElem?] at hw
    obtain ⟨b, _, hL⟩ := step _ (all _ _ hw)
    rw [hL] at q
    cases q
  · exact q
section
variable {n : Nat} {on : List Nat} {ms : List (Option Nat)} (S : SkinP n on ms)
include S
abbrev KnW (on : List Nat) (ms : List (Option Nat)) (h : Nat) (l : List Nat) : Prop := Kn (lf on ms) (rt on ms) h l
theorem inv1 (a b : Nat) (h : lf on ms a = some b) : rt on ms b = some a := (lf_rt S (lf_lt S h) h).2
theorem inv2 (a b : Nat) (h : rt on ms a = some b) : lf on ms b = some a := (rt_lf S h).2.2
theorem knw_uniq {h : Nat} {l l' : List Nat} (k : KnW on ms h l) (k' : KnW on ms h l') : l = l' := Kn.uniq (inv1 S) k k'
/-- the loop to the right -/
theorem loopR {ρ : Type} (hn : n ≤ 1000) {h : Nat} (hh : h < n) {p : Po (Int × Option Int) Unit ρ}
    (k : ∀ r z, FwC (rt on ms) h r → r.getLast? = some z → z < n → p.nx ((z : Int), oc (rt on ms z))) :
    W (whileC (P2 fun (first0 : Int) (at0 : Option Int) => Ct.fn (.rt (optC at0 false (fun at1 => !(decide (at1 = (h : Int))))) : Ct Unit Unit Bool)) (P2 fun first0 at0 => ((unw at0).ct fun at00 => (n_right_of (sk on ms) at00).ct fun r1 => .nx (at00, r1) : Ct (Int × (Option Int)) (Int × (Option Int)) ρ)) FUEL ((h : Int), oc (rt on ms h))) p := by
  refine W_while (fun k st => ∃ r z, Fw (rt on ms) h r ∧ r.getLast? = some z ∧ st = ((z : Int), oc (rt on ms z)) ∧ z < n ∧ k = n - r.length) FUEL (n - 1) _ (by have := fuel_le; omega) ⟨[h], h, Fw.one _ _, rfl, rfl, hh, by simp⟩ ?_
  rintro m _ ⟨r, z, f, hz, rfl, hzn, rfl⟩
  cases q : rt on ms z with
  | none =>
    left
    refine ⟨rfl, ?_⟩
    have := k r z ⟨f, fun w hw => by rw [hz] at hw; cases hw; exact .inl q⟩ hz hzn
    rw [q] at this
    exact this
  | some y =>
    by_cases c : y = h
    · subst c
      left
      refine ⟨by simp [oc], ?_⟩
      have := k r z ⟨f, fun w hw => by rw [hz] at hw; cases hw; exact .inr q⟩ hz hzn
      rw [q] at this
      exact this
    · right
      have c' : ¬ ((y : Int) = (h : Int)) := by omega
      have f2 := f.snoc hz q c
      have hy : y < n := rt_ub S _ _ q
      have l2 := f2.len (rt_inj S) (rt_ub S) hh
      rw [List.length_append] at l2
      simp only [List.length_singleton] at l2
      refine ⟨by simp [oc, c'], ?_⟩
      simp only [P2, oc, Option.map_some, unw, ofO_some, ct_ok, right_n S hy, W_nx]
      exact ⟨n - (r ++ [y]).length, by rw [List.length_append]; simp only [List.length_singleton]; omega, r ++ [y], y, f2, by simp, rfl, hy, rfl⟩
/-- the loop to the left -/
theorem loopL {ρ : Type} (hn : n ≤ 1000) {h : Nat} (hh : h < n) {p : Po (Option Int × List Int) Unit ρ}
    (k : ∀ o l, FwC (lf on ms) h l → (∀ a, a ∈ l → a < n) → p.nx (o, nI l)) :
    W (whileC (P2 fun (at3 : Option Int) (found0 : List Int) => Ct.fn (.rt (optC at3 false (fun at4 => !(decide (at4 = (h : Int))))) : Ct Unit Unit Bool)) (P2 fun at3 found0 => ((unw at3).ct fun at30 => (appN found0 at30).ct fun found1 => (n_left_of (sk on ms) at30).ct fun r3 => .nx (r3, found1) : Ct ((Option Int) × (List Int)) ((Option Int) × (List Int)) ρ)) FUEL (oc (lf on ms h), [(h : Int)])) p := by
  refine W_while (fun k st => ∃ r z, Fw (lf on ms) h r ∧ r.getLast? = some z ∧ st = (oc (lf on ms z), nI r) ∧ z < n ∧ k = n - r.length) FUEL (n - 1) _ (by have := fuel_le; omega) ⟨[h], h, Fw.one _ _, rfl, rfl, hh, by simp⟩ ?_
  rintro m _ ⟨r, z, f, hz, rfl, hzn, rfl⟩
  cases q : lf on ms z with
  | none =>
    left
    exact ⟨rfl, k _ r ⟨f, fun w hw => by rw [hz] at hw; cases hw; exact .inl q⟩ (f.lt (lf_ub S) hh)⟩
  | some y =>
    by_cases c : y = h
    · subst c
      left
      exact ⟨by simp [oc], k _ r ⟨f, fun w hw => by rw [hz] at hw; cases hw; exact .inr q⟩ (f.lt (lf_ub S) hh)⟩
    · right
      have c' : ¬ ((y : Int) = (h : Int)) := by omega
      have f2 := f.snoc hz q c
      have hy : y < n := lf_ub S _ _ q
      have l2 := f2.len (lf_inj S) (lf_ub S) hh
      rw [List.length_append] at l2
      simp only [List.length_singleton] at l2
      refine ⟨by simp [oc, c'], ?_⟩
      simp only [P2, oc, Option.map_some, unw, ofO_some, ct_ok, appN_n (show r.length < 100000 by omega), left_n S hy, W_nx]
      exact ⟨n - (r ++ [y]).length, by rw [List.length_append]; simp only [List.length_singleton]; omega, r ++ [y], y, f2, by simp, rfl, hy, rfl⟩
theorem knot_n (hn : n ≤ 1000) {h : Nat} (hh : h < n) : ∃ l, KnW on ms h l ∧ (∀ a, a ∈ l → a < n) ∧ n_round_knot (sk on ms) (h : Int) = .ok (nI l) := by
  have H : ∃ r, n_round_knot (sk on ms) (h : Int) = .ok r ∧ ∃ l, KnW on ms h l ∧ (∀ a, a ∈ l → a < n) ∧ r = nI l := by
    unfold n_round_knot
    refine W_fn ?_
    simp only [right_n S hh, ct_ok]
    refine W_cut (fun st => ∃ r z, FwC (rt on ms) h r ∧ r.getLast? = some z ∧ z < n ∧ st = ((z : Int), oc (rt on ms z))) (loopR S hn hh fun r z a b c => ⟨r, z, a, b, c, rfl⟩) ?_
    rintro _ ⟨r, z, hr, hz, hzn, rfl⟩
    simp only [P2]
    rcases hr.fin z hz with q | q
    · rw [q]
      simp only [oc, Option.map_none, reduceCtorEq, decide_false, Bool.false_eq_true, if_false, sq_nx, left_n S hzn, ct_ok]
      refine W_cut (fun st => ∃ l, KnW on ms h l ∧ (∀ a, a ∈ l → a < n) ∧ st.2 = nI l) (loopL S hn hzn fun o l a b => ?_) ?_
      · exact ⟨l, kn_of_chain (inv1 S) (inv2 S) hr hz q a, b, rfl⟩
      · rintro ⟨o, w⟩ ⟨l, a, b, rfl⟩
        exact ⟨l, a, b, rfl⟩
    · rw [q]
      simp only [oc, Option.map_some, decide_true, if_true, sq_nx, left_n S hh, ct_ok]
      refine W_cut (fun st => ∃ l, KnW on ms h l ∧ (∀ a, a ∈ l → a < n) ∧ st.2 = nI l) (loopL S hn hh fun o l a b => ?_) ?_
      · exact ⟨l, kn_of_round (inv2 S) hr hz q a, b, rfl⟩
      · rintro ⟨o, w⟩ ⟨l, a, b, rfl⟩
        exact ⟨l, a, b, rfl⟩
  obtain ⟨r, e, l, a, b, rfl⟩ := H
  exact ⟨l, a, b, e⟩
theorem lknot_n (hn : n ≤ 1000) {h : Nat} (hh : h < n) : ∃ l, KnW on ms h l ∧ n__law_knot (sk on ms) (h : Int) = .ok (nI l) := by
  have H : ∃ r, n__law_knot (sk on ms) (h : Int) = .ok r ∧ ∃ l, KnW on ms h l ∧ r = nI l := by
    unfold n__law_knot
    refine W_fn ?_
    refine W_cut (fun st => ∃ l, FwC (lf on ms) h l ∧ (∀ a, a ∈ l → a < n) ∧ st = nI l) ?_ ?_
    · refine W_while (fun k st => ∃ r z, Fw (lf on ms) h r ∧ r.getLast? = some z ∧ st = nI r ∧ z < n ∧ k = n - r.length) FUEL (n - 1) _ (by have := fuel_le; omega) ⟨[h], h, Fw.one _ _, rfl, rfl, hh, by simp⟩ ?_
      rintro m _ ⟨r, z, f, hz, rfl, hzn, rfl⟩
      simp only [idx_last hz, ct_ok, lleft_n S hzn, fn_rt]
      cases q : lf on ms z with
      | none =>
        left
        exact ⟨by simp [oc], r, ⟨f, fun w hw => by rw [hz] at hw; cases hw; exact .inl q⟩, f.lt (lf_ub S) hh, rfl⟩
      | some y =>
        by_cases c : y = h
        · subst c
          left
          exact ⟨by simp [oc], r, ⟨f, fun w hw => by rw [hz] at hw; cases hw; exact .inr q⟩, f.lt (lf_ub S) hh, rfl⟩
        · right
          have c' : ¬ ((y : Int) = (h : Int)) := by omega
          have f2 := f.snoc hz q c
          have hy : y < n := lf_ub S _ _ q
          have l2 := f2.len (lf_inj S) (lf_ub S) hh
          rw [List.length_append] at l2
          simp only [List.length_singleton] at l2
          refine ⟨by simp [oc, c'], ?_⟩
          simp only [oc, Option.map_some, unw, ofO_some, ct_ok, appN_n (show r.length < 100000 by omega), W_nx]
          exact ⟨n - (r ++ [y]).length, by rw [List.length_append]; simp only [List.length_singleton]; omega, r ++ [y], y, f2, by simp, rfl, hy, rfl⟩
    rintro _ ⟨l, hl, hlt, rfl⟩
    obtain ⟨z, hz⟩ : ∃ z, l.getLast? = some z := by
      cases e : l.getLast? with
      | none => exact absurd (List.getLast?_eq_none_iff.1 e) hl.ne_nil
      | some z => exact ⟨z, rfl⟩
    have hzn : z < n := hlt z (List.mem_of_getLast? hz)
    simp only [idx_last hz, ct_ok, lleft_n S hzn]
    rcases hl.fin z hz with q | q
    · rw [q]
      simp only [oc, Option.map_none, Option.isNone_none, if_true]
      refine W_sq ?_
      simp only [W_rt]
      refine W_cut (fun st => ∃ l, KnW on ms h l ∧ st = nI l) ?_ (fun s a => a)
      refine W_while (fun k st => ∃ r x, Lk (lf on ms) r ∧ (∀ z, r.getLast? = some z → lf on ms z = none) ∧ r[0]? = some x ∧ h ∈ r ∧ (∀ a, a ∈ r → a < n) ∧ st = nI r ∧ k = n - r.length) FUEL (n - l.length) _ (by have := fuel_le; omega) ⟨l, h, hl.lk, fun w hw => by rw [hz] at hw; cases hw; exact q, hl.hd, List.mem_of_getElem? hl.hd, hlt, rfl, rfl⟩ ?_
      rintro m _ ⟨r, x, lk, el, hx, hm, hr, rfl, rfl⟩
      have hxn : x < n := hr x (List.mem_of_getElem? hx)
      simp only [idx_head hx, ct_ok, lright_n S hxn, fn_rt]
      cases q2 : rt on ms x with
      | none =>
        left
        exact ⟨by simp [oc], r, ⟨.inr ⟨x, chain_fw lk el hx, q2, hm, el⟩⟩, rfl⟩
      | some y =>
        right
        have hy : y < n := rt_ub S _ _ q2
        have lk2 := lk.cons hx (inv2 S _ _ q2)
        have el2 : ∀ z, (y :: r).getLast? = some z → lf on ms z = none := fun z hz => el z (by
          have hne : r ≠ [] := fun e => by rw [e] at hx; cases hx
          rw [List.getLast?_cons] at hz
          cases e : r.getLast? with
          | none => exact absurd (List.getLast?_eq_none_iff.1 e) hne
          | some w => rw [e] at hz; exact hz)
        have hr2 : ∀ a, a ∈ y :: r → a < n := fun a ha => by
          rcases List.mem_cons.1 ha with rfl | ha
          · exact hy
          · exact hr a ha
        have l2 := nodup_len n _ (chain_nodup lk2 el2) hr2
        simp only [List.length_cons] at l2
        refine ⟨by simp [oc], ?_⟩
        have ei : insN (nI r) 0 (y : Int) = .ok (nI (y :: r)) := by
          unfold insN
          rw [if_pos ⟨by rw [nI_len]; omega, by omega, i63_of (by omega) (by omega)⟩]
          simp
        simp only [oc, Option.map_some, unw, ofO_some, ct_ok, ei, W_nx]
        exact ⟨n - (y :: r).length, by simp only [List.length_cons]; omega, y :: r, y, lk2, el2, rfl, List.mem_cons_of_mem _ hm, hr2, rfl, rfl⟩
    · rw [q]
      simp only [oc, Option.map_some, Option.isNone_some, Bool.false_eq_true, if_false, sq_nx, W_rt]
      exact ⟨l, ⟨.inl ⟨hl, fun w hw => by rw [hz] at hw; cases hw; exact q⟩⟩, rfl⟩
  obtain ⟨r, e, l, a, rfl⟩ := H
  exact ⟨l, a, e⟩
end
end NP
set_option Elab.async false
set_option linter.all false
set_option maxRecDepth 100000
set_option maxHeartbeats 4000000
namespace NP
open PySem L2 DL LW NT NW
end NP
set_option Elab.async false
set_option linter.all false
set_option maxRecDepth 100000
set_option maxHeartbeats 4000000
namespace NP
open PySem L2 DL LW NT NW
def kv (ks : List Nat) : List (Int × Bool) := ks.map fun (k : Nat) => ((k : Int), true)
def adk (ks : List Nat) (k : Nat) : List Nat := if k ∈ ks then ks else ks ++ [k]
structure Kb (n : Nat) (ks : List Nat) : Prop where
  nd : ks.Nodup
  lt : ∀ k, k ∈ ks → k < n
theorem Kb.len {n : Nat} {ks : List Nat} (h : Kb n ks) : ks.length ≤ n := nodup_len n ks h.nd h.lt
theorem Kb.adk {n : Nat} {ks : List Nat} (h : Kb n ks) {k : Nat} (hk : k < n) : Kb n (NP.adk ks k) := by
  unfold NP.adk
  by_cases c : k ∈ ks
  · rw [if_pos c]; exact h
  · rw [if_neg c]
    refine ⟨?_, fun a ha => ?_⟩
    · rw [List.nodup_append]
      refine ⟨h.nd, by simp, fun a ha b hb => ?_⟩
      simp at hb
      subst hb
      exact fun e => c (e ▸ ha)
    · rcases List.mem_append.1 ha with ha | ha
      · exact h.lt a ha
      · rw [List.mem_singleton.1 ha]; exact hk
theorem Kb.all {n : Nat} : ∀ (row : List Nat) {ks : List Nat}, Kb n ks → (∀ a, a ∈ row → a < n) → Kb n (row.foldl NP.adk ks)
  | [], _, h, _ => h
  | a :: row, _, h, hr => Kb.all row (h.adk (hr a (List.mem_cons_self ..))) fun b hb => hr b (List.mem_cons_of_mem _ hb)
end NP
set_option Elab.async false
set_option linter.all false
set_option maxRecDepth 100000
set_option maxHeartbeats 4000000
namespace NP
open PySem L2 DL LW NT NW
theorem eqS (a b : Str) (h : SeqAt.shaped (eS a) = true ∧ SeqAt.shaped (eS b) = true) (c : Bool) (e : PyData.eqv (eS a) (eS b) = c) : eqN (eS a) (eS b) = .ok c := by
  unfold eqN
  rw [if_pos h, e]
end NP
set_option Elab.async false
set_option linter.all false
set_option maxRecDepth 100000
set_option maxHeartbeats 4000000
namespace NP
open PySem L2 DL LW NT NW
theorem kind_1 {c : Str} (h : c ∈ kNames) : kindT ⟨c, none⟩ [("SkinError", none)] = .ok (c ++ ("+" : Str)) := by
  unfold kindT
  rw [if_pos h]
  rfl
section
variable {n : Nat} {on : List Nat} {ms : List (Option Nat)} (S : SkinP n on ms)
include S
theorem on_len : on.length = n := by have := S.perm.length_eq; simpa using this
theorem sk_len : ((sk on ms).1.length : Int) = (n : Int) := by
  show (((nI on).length : Nat) : Int) = _
  rw [show (nI on).length = on.length by simp [nI], on_len S]
theorem look_no {x : Int} (h : x < 0 ∨ (n : Int) ≤ x) : n_look_at_half (sk on ms) x = .ex ⟨"NoHalf", none⟩ := by
  unfold n_look_at_half
  have e : (decide (x < 0) || decide (((sk on ms).1.length : Int) ≤ x)) = true := by
    rw [sk_len S]
    rcases h with h | h <;> simp [h]
  rw [e]
  rfl
end
end NP
set_option Elab.async false
set_option linter.all false
set_option maxRecDepth 100000
set_option maxHeartbeats 4000000
namespace K35
open PySem L2 DL LW NT NW NP
theorem q_on_on : eqN (eS ("on" : Str)) (eS ("on" : Str)) = .ok true := eqS _ _ ⟨by decide +kernel, by decide +kernel⟩ _ (by decide +kernel)
theorem q_on_ahead : eqN (eS ("on" : Str)) (eS ("ahead" : Str)) = .ok false := eqS _ _ ⟨by decide +kernel, by decide +kernel⟩ _ (by decide +kernel)
theorem q_on_left : eqN (eS ("on" : Str)) (eS ("left" : Str)) = .ok false := eqS _ _ ⟨by decide +kernel, by decide +kernel⟩ _ (by decide +kernel)
theorem q_on_right : eqN (eS ("on" : Str)) (eS ("right" : Str)) = .ok false := eqS _ _ ⟨by decide +kernel, by decide +kernel⟩ _ (by decide +kernel)
theorem q_on_over : eqN (eS ("on" : Str)) (eS ("over" : Str)) = .ok false := eqS _ _ ⟨by decide +kernel, by decide +kernel⟩ _ (by decide +kernel)
theorem q_on_back : eqN (eS ("on" : Str)) (eS ("back" : Str)) = .ok false := eqS _ _ ⟨by decide +kernel, by decide +kernel⟩ _ (by decide +kernel)
theorem t_on : memB ("on" : Str) [("on" : Str), ("ahead" : Str), ("left" : Str), ("right" : Str)] = true := by decide +kernel
theorem q_ahead_on : eqN (eS ("ahead" : Str)) (eS ("on" : Str)) = .ok false := eqS _ _ ⟨by decide +kernel, by decide +kernel⟩ _ (by decide +kernel)
theorem q_ahead_ahead : eqN (eS ("ahead" : Str)) (eS ("ahead" : Str)) = .ok true := eqS _ _ ⟨by decide +kernel, by decide +kernel⟩ _ (by decide +kernel)
theorem q_ahead_left : eqN (eS ("ahead" : Str)) (eS ("left" : Str)) = .ok false := eqS _ _ ⟨by decide +kernel, by decide +kernel⟩ _ (by decide +kernel)
theorem q_ahead_right : eqN (eS ("ahead" : Str)) (eS ("right" : Str)) = .ok false := eqS _ _ ⟨by decide +kernel, by decide +kernel⟩ _ (by decide +kernel)
theorem q_ahead_over : eqN (eS ("ahead" : Str)) (eS ("over" : Str)) = .ok false := eqS _ _ ⟨by decide +kernel, by decide +kernel⟩ _ (by decide +kernel)
theorem q_ahead_back : eqN (eS ("ahead" : Str)) (eS ("back" : Str)) = .ok false := eqS _ _ ⟨by decide +kernel, by decide +kernel⟩ _ (by decide +kernel)
theorem t_ahead : memB ("ahead" : Str) [("on" : Str), ("ahead" : Str), ("left" : Str), ("right" : Str)] = true := by decide +kernel
theorem q_left_on : eqN (eS ("left" : Str)) (eS ("on" : Str)) = .ok false := eqS _ _ ⟨by decide +kernel, by decide +kernel⟩ _ (by decide +kernel)
theorem q_left_ahead : eqN (eS ("left" : Str)) (eS ("ahead" : Str)) = .ok false := eqS _ _ ⟨by decide +kernel, by decide +kernel⟩ _ (by decide +kernel)
theorem q_left_left : eqN (eS ("left" : Str)) (eS ("left" : Str)) = .ok true := eqS _ _ ⟨by decide +kernel, by decide +kernel⟩ _ (by decide +kernel)
theorem q_left_right : eqN (eS ("left" : Str)) (eS ("right" : Str)) = .ok false := eqS _ _ ⟨by decide +kernel, by decide +kernel⟩ _ (by decide +kernel)
theorem q_left_over : eqN (eS ("left" : Str)) (eS ("over" : Str)) = .ok false := eqS _ _ ⟨by decide +kernel, by decide +kernel⟩ _ (by decide +kernel)
theorem q_left_back : eqN (eS ("left" : Str)) (eS ("back" : Str)) = .ok false := eqS _ _ ⟨by decide +kernel, by decide +kernel⟩ _ (by decide +kernel)
theorem t_left : memB ("left" : Str) [("on" : Str), ("ahead" : Str), ("left" : Str), ("right" : Str)] = true := by decide +kernel
theorem q_right_on : eqN (eS ("right" : Str)) (eS ("on" : Str)) = .ok false := eqS _ _ ⟨by decide +kernel, by decide +kernel⟩ _ (by decide +kernel)
theorem q_right_ahead : eqN (eS ("right" : Str)) (eS ("ahead" : Str)) = .ok false := eqS _ _ ⟨by decide +kernel, by decide +kernel⟩ _ (by decide +kernel)
theorem q_right_left : eqN (eS ("right" : Str)) (eS ("left" : Str)) = .ok false := eqS _ _ ⟨by decide +kernel, by decide +kernel⟩ _ (by decide +kernel)
theorem q_right_right : eqN (eS ("right" : Str)) (eS ("right" : Str)) = .ok true := eqS _ _ ⟨by decide +kernel, by decide +kernel⟩ _ (by decide +kernel)
theorem q_right_over : eqN (eS ("right" : Str)) (eS ("over" : Str)) = .ok false := eqS _ _ ⟨by decide +kernel, by decide +kernel⟩ _ (by decide +kernel)
theorem q_right_back : eqN (eS ("right" : Str)) (eS ("back" : Str)) = .ok false := eqS _ _ ⟨by decide +kernel, by decide +kernel⟩ _ (by decide +kernel)
theorem t_right : memB ("right" : Str) [("on" : Str), ("ahead" : Str), ("left" : Str), ("right" : Str)] = true := by decide +kernel
theorem q_over_on : eqN (eS ("over" : Str)) (eS ("on" : Str)) = .ok false := eqS _ _ ⟨by decide +kernel, by decide +kernel⟩ _ (by decide +kernel)
theorem q_over_ahead : eqN (eS ("over" : Str)) (eS ("ahead" : Str)) = .ok false := eqS _ _ ⟨by decide +kernel, by decide +kernel⟩ _ (by decide +kernel)
theorem q_over_left : eqN (eS ("over" : Str)) (eS ("left" : Str)) = .ok false := eqS _ _ ⟨by decide +kernel, by decide +kernel⟩ _ (by decide +kernel)
theorem q_over_right : eqN (eS ("over" : Str)) (eS ("right" : Str)) = .ok false := eqS _ _ ⟨by decide +kernel, by decide +kernel⟩ _ (by decide +kernel)
theorem q_over_over : eqN (eS ("over" : Str)) (eS ("over" : Str)) = .ok true := eqS _ _ ⟨by decide +kernel, by decide +kernel⟩ _ (by decide +kernel)
theorem q_over_back : eqN (eS ("over" : Str)) (eS ("back" : Str)) = .ok false := eqS _ _ ⟨by decide +kernel, by decide +kernel⟩ _ (by decide +kernel)
theorem t_over : memB ("over" : Str) [("on" : Str), ("ahead" : Str), ("left" : Str), ("right" : Str)] = false := by decide +kernel
theorem q_back_on : eqN (eS ("back" : Str)) (eS ("on" : Str)) = .ok false := eqS _ _ ⟨by decide +kernel, by decide +kernel⟩ _ (by decide +kernel)
theorem q_back_ahead : eqN (eS ("back" : Str)) (eS ("ahead" : Str)) = .ok false := eqS _ _ ⟨by decide +kernel, by decide +kernel⟩ _ (by decide +kernel)
theorem q_back_left : eqN (eS ("back" : Str)) (eS ("left" : Str)) = .ok false := eqS _ _ ⟨by decide +kernel, by decide +kernel⟩ _ (by decide +kernel)
theorem q_back_right : eqN (eS ("back" : Str)) (eS ("right" : Str)) = .ok false := eqS _ _ ⟨by decide +kernel, by decide +kernel⟩ _ (by decide +kernel)
theorem q_back_over : eqN (eS ("back" : Str)) (eS ("over" : Str)) = .ok false := eqS _ _ ⟨by decide +kernel, by decide +kernel⟩ _ (by decide +kernel)
theorem q_back_back : eqN (eS ("back" : Str)) (eS ("back" : Str)) = .ok true := eqS _ _ ⟨by decide +kernel, by decide +kernel⟩ _ (by decide +kernel)
theorem t_back : memB ("back" : Str) [("on" : Str), ("ahead" : Str), ("left" : Str), ("right" : Str)] = false := by decide +kernel
def T30 : Int := 1000000000000000000000000000000
theorem e30 : (10 : Int) ^ (30 : Int).toNat = T30 := by decide +kernel
theorem pow30 : powN 10 30 = .ok ((10 : Int) ^ (30 : Int).toNat) := by
  unfold powN
  rw [if_pos (by decide +kernel)]
theorem pow8 : powN 10 8 = .ok ((10 : Int) ^ (8 : Int).toNat) := by
  unfold powN
  rw [if_pos (by decide +kernel)]
theorem idx_in {α : Type} {xs : List α} {r : Int} (h0 : 0 ≤ r) (h : r < xs.length) : ∃ x, idx xs r = .ok x ∧ x ∈ xs := by
  obtain ⟨n, rfl⟩ := Int.eq_ofNat_of_zero_le h0
  have hl : n < xs.length := by omega
  exact ⟨xs[n], idx_at hl, List.getElem_mem hl⟩
theorem nI_len (l : List Nat) : (nI l).length = l.length := by simp [nI]
theorem idxmod {l : List Nat} (h : l ≠ []) (a : Int) : ∃ y, y ∈ l ∧ ∃ z, modN a ((nI l).length : Int) = .ok z ∧ idx (nI l) z = .ok (y : Int) := by
  have hl : 0 < l.length := List.length_pos_iff.2 h
  have h1 := Int.emod_nonneg a (show ((l.length : Nat) : Int) ≠ 0 by omega)
  have h2 := Int.emod_lt_of_pos a (show (0 : Int) < ((l.length : Nat) : Int) by omega)
  obtain ⟨k, hk⟩ := Int.eq_ofNat_of_zero_le h1
  have hk2 : k < l.length := by omega
  refine ⟨l[k], List.getElem_mem hk2, (k : Int), ?_, idx_nI hk2⟩
  unfold modN
  rw [nI_len, if_pos (by omega), hk]
theorem times_ok {m : Int} (h0 : 0 ≤ m) (h : m ≤ T30) : n_look_at_times m = .ok () := by
  unfold n_look_at_times
  rw [if_neg]
  · rfl
  · simp only [Bool.or_eq_true, decide_eq_true_eq, not_or]
    unfold T30 at h
    omega
theorem times_no {m : Int} (h : ¬ (0 ≤ m ∧ m ≤ T30)) : n_look_at_times m = .ex ⟨"TooMany", none⟩ := by
  unfold n_look_at_times
  rw [if_pos]
  · rfl
  · simp only [Bool.or_eq_true, decide_eq_true_eq]
    unfold T30 at h
    omega
theorem abs_p {m : Int} (h : 0 ≤ m) : iabs m = m := by unfold iabs; rw [if_neg (by omega)]
theorem abs_n {m : Int} (h : 0 ≤ m) : iabs (0 - m) = m := by
  unfold iabs
  split <;> omega
/-- what was told, and how it stands now -/
def Told (sk : List Int × List (Option Int)) (ss ss' : List Nat) (w : Str) (m : Int) (d : Option Int × Str) : Prop := n__law_tried (sk, nI ss) w m = .ok (d, (sk, nI ss'))
theorem told_ok {sk : List Int × List (Option Int)} {ss ss' : List Nat} {w : Str} {m : Int} {r : Option Int} (h : n__law_went (sk, nI ss) w m = .ok (r, (sk, nI ss'))) : Told sk ss ss' w m (r, ("" : Str)) := by
  unfold Told n__law_tried
  simp only [h, ct_ok, P2, tryC_nx, sq_nx, P3, fn_rt]
theorem told_ex {sk : List Int × List (Option Int)} {ss : List Nat} {w : Str} {m : Int} {c : Str} (hc : c ∈ kNames) (h : n__law_went (sk, nI ss) w m = .ex ⟨c, none⟩) : Told sk ss ss w m (none, c ++ ("+" : Str)) := by
  unfold Told n__law_tried
  simp only [h, ct_ex, tryC_ex, kind_1 hc, ct_ok, P2, sq_nx, P3, fn_rt]
section
variable {n : Nat} {on : List Nat} {ms : List (Option Nat)} (S : SkinP n on ms)
include S
theorem kn_mem {h : Nat} {l : List Nat} (k : KnW on ms h l) : h ∈ l := by
  rcases k.ex with ⟨a, _⟩ | ⟨x, _, _, a, _⟩
  · exact List.mem_of_getElem? a.hd
  · exact a
omit S in
theorem at_w {s : List Int × List (Option Int)} {ss : List Nat} {h : Nat} (hs : ss.getLast? = some h) : n_Walker_at (s, nI ss) = .ok (h : Int) := by
  unfold n_Walker_at
  simp only [idx_last hs, ct_ok, fn_rt]
omit S in
theorem go_w {s : List Int × List (Option Int)} {ss : List Nat} {y : Nat} {m : Int} (hs : ss.length < 1000) : n_Walker_go_to (s, nI ss) (y : Int) m = .ok (m, (s, nI (ss ++ [y]))) := by
  unfold n_Walker_go_to
  simp only [appN_n (show ss.length < 100000 by omega), ct_ok, fn_rt]
/-- a deed that goes: where to, how many times -/
def Goes (n : Nat) (sk : List Int × List (Option Int)) (ss : List Nat) (h : Nat) (w : Str) (m : Int) : Prop := ∃ (y : Nat) (k : Int), y < n ∧ n__law_goal sk (h : Int) w m = .ok ((y : Int), k) ∧ n__law_went (sk, nI ss) w m = .ok (some k, (sk, nI (ss ++ [y])))
theorem on_w (hn : n ≤ 1000) {ss : List Nat} {h : Nat} (hs : ss.getLast? = some h) (hh : h < n) (hl : ss.length < 1000) {m : Int} (h0 : 0 ≤ m) (h1 : m ≤ T30) : Goes n (sk on ms) ss h ("on" : Str) m := by
  obtain ⟨l1, p1, p2, p3⟩ := patch_n S hn hh
  obtain ⟨l2, q1, q2⟩ := lpatch_n S hn hh
  have e1 : l1 = l2 := FwC.uniq p1 q1
  subst e1
  obtain ⟨y, hy, z, z1, z2⟩ := idxmod p1.ne_nil m
  refine ⟨y, m, p2 y hy, ?_, ?_⟩
  · unfold n__law_goal
    simp only [q_on_on, q_on_ahead, q_on_left, q_on_right, q_on_over, q_on_back, q_ahead_on, q_ahead_ahead, q_ahead_left, q_ahead_right, q_ahead_over, q_ahead_back, q_left_on, q_left_ahead, q_left_left, q_left_right, q_left_over, q_left_back, q_right_on, q_right_ahead, q_right_left, q_right_right, q_right_over, q_right_back, q_over_on, q_over_ahead, q_over_left, q_over_right, q_over_over, q_over_back, q_back_on, q_back_ahead, q_back_left, q_back_right, q_back_over, q_back_back, ct_ok, if_true, if_false, Bool.false_eq_true, fn_rt, q2, b2i, idx0, z1, z2]
  · unfold n__law_went n_Walker_on
    simp only [q_on_on, q_on_ahead, q_on_left, q_on_right, q_on_over, q_on_back, q_ahead_on, q_ahead_ahead, q_ahead_left, q_ahead_right, q_ahead_over, q_ahead_back, q_left_on, q_left_ahead, q_left_left, q_left_right, q_left_over, q_left_back, q_right_on, q_right_ahead, q_right_left, q_right_right, q_right_over, q_right_back, q_over_on, q_over_ahead, q_over_left, q_over_right, q_over_over, q_over_back, q_back_on, q_back_ahead, q_back_left, q_back_right, q_back_over, q_back_back, ct_ok, if_true, if_false, Bool.false_eq_true, fn_rt, P2, times_ok h0 h1, at_w hs, p3, z1, z2, go_w hl]
theorem ahead_w (hn : n ≤ 1000) {ss : List Nat} {h : Nat} (hs : ss.getLast? = some h) (hh : h < n) (hl : ss.length < 1000) {m : Int} (h0 : 0 ≤ m) (h1 : m ≤ T30) : Goes n (sk on ms) ss h ("ahead" : Str) m := by
  obtain ⟨l1, p1, p2, p3⟩ := patch_n S hn hh
  obtain ⟨l2, q1, q2⟩ := lpatch_n S hn hh
  have e1 : l1 = l2 := FwC.uniq p1 q1
  subst e1
  obtain ⟨y, hy, z, z1, z2⟩ := idxmod p1.ne_nil (0 - m)
  refine ⟨y, m, p2 y hy, ?_, ?_⟩
  · unfold n__law_goal
    simp only [q_on_on, q_on_ahead, q_on_left, q_on_right, q_on_over, q_on_back, q_ahead_on, q_ahead_ahead, q_ahead_left, q_ahead_right, q_ahead_over, q_ahead_back, q_left_on, q_left_ahead, q_left_left, q_left_right, q_left_over, q_left_back, q_right_on, q_right_ahead, q_right_left, q_right_right, q_right_over, q_right_back, q_over_on, q_over_ahead, q_over_left, q_over_right, q_over_over, q_over_back, q_back_on, q_back_ahead, q_back_left, q_back_right, q_back_over, q_back_back, ct_ok, if_true, if_false, Bool.false_eq_true, fn_rt, q2, b2i, idx1, z1, z2]
  · unfold n__law_went n_Walker_ahead
    simp only [q_on_on, q_on_ahead, q_on_left, q_on_right, q_on_over, q_on_back, q_ahead_on, q_ahead_ahead, q_ahead_left, q_ahead_right, q_ahead_over, q_ahead_back, q_left_on, q_left_ahead, q_left_left, q_left_right, q_left_over, q_left_back, q_right_on, q_right_ahead, q_right_left, q_right_right, q_right_over, q_right_back, q_over_on, q_over_ahead, q_over_left, q_over_right, q_over_over, q_over_back, q_back_on, q_back_ahead, q_back_left, q_back_right, q_back_over, q_back_back, ct_ok, if_true, if_false, Bool.false_eq_true, fn_rt, P2, times_ok h0 h1, at_w hs, p3, z1, z2, go_w hl]
theorem over_w (hn : n ≤ 1000) {ss : List Nat} {h : Nat} (hs : ss.getLast? = some h) (hh : h < n) (hl : ss.length < 1000) (m : Int) : Goes n (sk on ms) ss h ("over" : Str) m := by
  cases q : mt ms h with
  | none =>
    refine ⟨h, 0, hh, ?_, ?_⟩
    · unfold n__law_goal
      simp only [q_on_on, q_on_ahead, q_on_left, q_on_right, q_on_over, q_on_back, q_ahead_on, q_ahead_ahead, q_ahead_left, q_ahead_right, q_ahead_over, q_ahead_back, q_left_on, q_left_ahead, q_left_left, q_left_right, q_left_over, q_left_back, q_right_on, q_right_ahead, q_right_left, q_right_right, q_right_over, q_right_back, q_over_on, q_over_ahead, q_over_left, q_over_right, q_over_over, q_over_back, q_back_on, q_back_ahead, q_back_left, q_back_right, q_back_over, q_back_back, ct_ok, if_true, if_false, Bool.false_eq_true, fn_rt, at_ms S hh, q, oc, Option.map_some, Option.map_none, optC]
    · unfold n__law_went n_Walker_over
      simp only [q_on_on, q_on_ahead, q_on_left, q_on_right, q_on_over, q_on_back, q_ahead_on, q_ahead_ahead, q_ahead_left, q_ahead_right, q_ahead_over, q_ahead_back, q_left_on, q_left_ahead, q_left_left, q_left_right, q_left_over, q_left_back, q_right_on, q_right_ahead, q_right_left, q_right_right, q_right_over, q_right_back, q_over_on, q_over_ahead, q_over_left, q_over_right, q_over_over, q_over_back, q_back_on, q_back_ahead, q_back_left, q_back_right, q_back_over, q_back_back, ct_ok, if_true, if_false, Bool.false_eq_true, fn_rt, P2, at_ms S hh, q, oc, Option.map_some, Option.map_none, optC, at_w hs, go_w hl]
  | some z =>
    refine ⟨z, 1, (mt_some S q).2.1, ?_, ?_⟩
    · unfold n__law_goal
      simp only [q_on_on, q_on_ahead, q_on_left, q_on_right, q_on_over, q_on_back, q_ahead_on, q_ahead_ahead, q_ahead_left, q_ahead_right, q_ahead_over, q_ahead_back, q_left_on, q_left_ahead, q_left_left, q_left_right, q_left_over, q_left_back, q_right_on, q_right_ahead, q_right_left, q_right_right, q_right_over, q_right_back, q_over_on, q_over_ahead, q_over_left, q_over_right, q_over_over, q_over_back, q_back_on, q_back_ahead, q_back_left, q_back_right, q_back_over, q_back_back, ct_ok, if_true, if_false, Bool.false_eq_true, fn_rt, at_ms S hh, q, oc, Option.map_some, Option.map_none, optC]
    · unfold n__law_went n_Walker_over
      simp only [q_on_on, q_on_ahead, q_on_left, q_on_right, q_on_over, q_on_back, q_ahead_on, q_ahead_ahead, q_ahead_left, q_ahead_right, q_ahead_over, q_ahead_back, q_left_on, q_left_ahead, q_left_left, q_left_right, q_left_over, q_left_back, q_right_on, q_right_ahead, q_right_left, q_right_right, q_right_over, q_right_back, q_over_on, q_over_ahead, q_over_left, q_over_right, q_over_over, q_over_back, q_back_on, q_back_ahead, q_back_left, q_back_right, q_back_over, q_back_back, ct_ok, if_true, if_false, Bool.false_eq_true, fn_rt, P2, at_ms S hh, q, oc, Option.map_some, Option.map_none, optC, at_w hs, go_w hl]
/-- what turning does -/
theorem turn_n (hn : n ≤ 1000) {ss : List Nat} {h : Nat} (hs : ss.getLast? = some h) (hh : h < n) (hl : ss.length < 1000) : ∃ (l : List Nat) (x p : Nat), n__law_knot (sk on ms) (h : Int) = .ok (nI l) ∧ indexN (nI l) (h : Int) = .ok (p : Int) ∧ p < l.length ∧ idx (nI l) 0 = .ok (x : Int) ∧ x < n ∧
    (mt ms x ≠ none → ∀ m, ∃ y, y < n ∧ ∃ z, modN ((p : Int) + m) ((nI l).length : Int) = .ok z ∧ idx (nI l) z = .ok (y : Int) ∧ n_Walker_turned_by (sk on ms, nI ss) m = .ok (iabs m, (sk on ms, nI (ss ++ [y])))) ∧
    (mt ms x = none → ∀ m, ∃ y, y < n ∧ idx (nI l) (imax 0 (imin ((p : Int) + m) ((l.length : Int) - 1))) = .ok (y : Int) ∧ n_Walker_turned_by (sk on ms, nI ss) m = .ok (iabs (imax 0 (imin ((p : Int) + m) ((l.length : Int) - 1)) - p), (sk on ms, nI (ss ++ [y])))) := by
  obtain ⟨l, u1, u2, u3⟩ := knot_n S hn hh
  obtain ⟨l4, v1, v2⟩ := lknot_n S hn hh
  have e2 : l = l4 := knw_uniq S u1 v1
  subst e2
  have hm := kn_mem S u1
  have pl : ah l h < l.length := List.idxOf_lt_length_iff.2 hm
  have ne : l ≠ [] := fun e => by rw [e] at hm; cases hm
  have l0 : 0 < l.length := List.length_pos_iff.2 ne
  have hx := u2 (l[0]) (List.getElem_mem l0)
  refine ⟨l, l[0], ah l h, v2, index_n hm, pl, idx_head (by rw [List.getElem?_eq_getElem l0]), hx, fun q m => ?_, fun q m => ?_⟩
  · obtain ⟨y, hy, z, z1, z2⟩ := idxmod ne ((ah l h : Int) + m)
    refine ⟨y, u2 y hy, z, z1, z2, ?_⟩
    obtain ⟨k, q⟩ := Option.ne_none_iff_exists'.1 q
    unfold n_Walker_turned_by
    simp only [at_w hs, u3, index_n hm, idx_head (show l[0]? = some l[0] by rw [List.getElem?_eq_getElem l0]), at_ms S hx, q, oc, Option.map_some, Option.map_none, ct_ok, P2, Option.isNone_some, Bool.not_false, if_true, z1, z2, go_w hl, fn_rt]
  · have b : 0 ≤ imax 0 (imin ((ah l h : Int) + m) ((l.length : Int) - 1)) ∧ imax 0 (imin ((ah l h : Int) + m) ((l.length : Int) - 1)) < l.length := by
      unfold imax imin
      split <;> split <;> omega
    obtain ⟨k, hk⟩ := Int.eq_ofNat_of_zero_le b.1
    have kl : k < l.length := by omega
    refine ⟨l[k], u2 _ (List.getElem_mem kl), ?_, ?_⟩
    · rw [hk]
      exact idx_nI kl
    · unfold n_Walker_turned_by
      simp only [at_w hs, u3, index_n hm, idx_head (show l[0]? = some l[0] by rw [List.getElem?_eq_getElem l0]), at_ms S hx, q, oc, Option.map_some, Option.map_none, ct_ok, P2, Option.isNone_none, Bool.not_true, Bool.false_eq_true, if_false, nI_len, hk, idx_nI kl, go_w hl, fn_rt]
theorem left_w (hn : n ≤ 1000) {ss : List Nat} {h : Nat} (hs : ss.getLast? = some h) (hh : h < n) (hl : ss.length < 1000) {m : Int} (h0 : 0 ≤ m) (h1 : m ≤ T30) : Goes n (sk on ms) ss h ("left" : Str) m := by
  obtain ⟨l, x, p, a1, a2, a3, a4, a5, a6, a7⟩ := turn_n S hn hs hh hl
  cases q : mt ms x with
  | some k =>
    obtain ⟨y, hy, z, z1, z2, z3⟩ := a6 (by rw [q]; exact fun z => by cases z) m
    refine ⟨y, m, hy, ?_, ?_⟩
    · unfold n__law_goal
      simp only [q_on_on, q_on_ahead, q_on_left, q_on_right, q_on_over, q_on_back, q_ahead_on, q_ahead_ahead, q_ahead_left, q_ahead_right, q_ahead_over, q_ahead_back, q_left_on, q_left_ahead, q_left_left, q_left_right, q_left_over, q_left_back, q_right_on, q_right_ahead, q_right_left, q_right_right, q_right_over, q_right_back, q_over_on, q_over_ahead, q_over_left, q_over_right, q_over_over, q_over_back, q_back_on, q_back_ahead, q_back_left, q_back_right, q_back_over, q_back_back, ct_ok, if_true, if_false, Bool.false_eq_true, fn_rt, a1, a2, a4, at_ms S a5, q, oc, Option.map_some, Option.map_none, Option.isNone_some, Bool.not_false, b2i, idx0, z1, z2]
    · unfold n__law_went n_Walker_left
      simp only [q_on_on, q_on_ahead, q_on_left, q_on_right, q_on_over, q_on_back, q_ahead_on, q_ahead_ahead, q_ahead_left, q_ahead_right, q_ahead_over, q_ahead_back, q_left_on, q_left_ahead, q_left_left, q_left_right, q_left_over, q_left_back, q_right_on, q_right_ahead, q_right_left, q_right_right, q_right_over, q_right_back, q_over_on, q_over_ahead, q_over_left, q_over_right, q_over_over, q_over_back, q_back_on, q_back_ahead, q_back_left, q_back_right, q_back_over, q_back_back, ct_ok, if_true, if_false, Bool.false_eq_true, fn_rt, P2, times_ok h0 h1, z3, abs_p h0]
  | none =>
    obtain ⟨y, hy, z2, z3⟩ := a7 q m
    have e : imax 0 (imin ((p : Int) + m) ((l.length : Int) - 1)) = (p : Int) + imin ((l.length : Int) - 1 - p) m := by
      unfold imax imin
      split <;> split <;> split <;> omega
    rw [e] at z2 z3
    have e2 : iabs ((p : Int) + imin ((l.length : Int) - 1 - p) m - p) = imin ((l.length : Int) - 1 - p) m := by
      unfold iabs imin
      split <;> split <;> omega
    rw [e2] at z3
    refine ⟨y, imin ((l.length : Int) - 1 - p) m, hy, ?_, ?_⟩
    · unfold n__law_goal
      simp only [q_on_on, q_on_ahead, q_on_left, q_on_right, q_on_over, q_on_back, q_ahead_on, q_ahead_ahead, q_ahead_left, q_ahead_right, q_ahead_over, q_ahead_back, q_left_on, q_left_ahead, q_left_left, q_left_right, q_left_over, q_left_back, q_right_on, q_right_ahead, q_right_left, q_right_right, q_right_over, q_right_back, q_over_on, q_over_ahead, q_over_left, q_over_right, q_over_over, q_over_back, q_back_on, q_back_ahead, q_back_left, q_back_right, q_back_over, q_back_back, ct_ok, if_true, if_false, Bool.false_eq_true, fn_rt, a1, a2, a4, at_ms S a5, q, oc, Option.map_some, Option.map_none, Option.isNone_none, Bool.not_true, b2i, idx0, nI_len, z2]
    · unfold n__law_went n_Walker_left
      simp only [q_on_on, q_on_ahead, q_on_left, q_on_right, q_on_over, q_on_back, q_ahead_on, q_ahead_ahead, q_ahead_left, q_ahead_right, q_ahead_over, q_ahead_back, q_left_on, q_left_ahead, q_left_left, q_left_right, q_left_over, q_left_back, q_right_on, q_right_ahead, q_right_left, q_right_right, q_right_over, q_right_back, q_over_on, q_over_ahead, q_over_left, q_over_right, q_over_over, q_over_back, q_back_on, q_back_ahead, q_back_left, q_back_right, q_back_over, q_back_back, ct_ok, if_true, if_false, Bool.false_eq_true, fn_rt, P2, times_ok h0 h1, z3]
theorem right_w (hn : n ≤ 1000) {ss : List Nat} {h : Nat} (hs : ss.getLast? = some h) (hh : h < n) (hl : ss.length < 1000) {m : Int} (h0 : 0 ≤ m) (h1 : m ≤ T30) : Goes n (sk on ms) ss h ("right" : Str) m := by
  obtain ⟨l, x, p, a1, a2, a3, a4, a5, a6, a7⟩ := turn_n S hn hs hh hl
  cases q : mt ms x with
  | some k =>
    obtain ⟨y, hy, z, z1, z2, z3⟩ := a6 (by rw [q]; exact fun z => by cases z) (0 - m)
    refine ⟨y, m, hy, ?_, ?_⟩
    · unfold n__law_goal
      simp only [q_on_on, q_on_ahead, q_on_left, q_on_right, q_on_over, q_on_back, q_ahead_on, q_ahead_ahead, q_ahead_left, q_ahead_right, q_ahead_over, q_ahead_back, q_left_on, q_left_ahead, q_left_left, q_left_right, q_left_over, q_left_back, q_right_on, q_right_ahead, q_right_left, q_right_right, q_right_over, q_right_back, q_over_on, q_over_ahead, q_over_left, q_over_right, q_over_over, q_over_back, q_back_on, q_back_ahead, q_back_left, q_back_right, q_back_over, q_back_back, ct_ok, if_true, if_false, Bool.false_eq_true, fn_rt, a1, a2, a4, at_ms S a5, q, oc, Option.map_some, Option.map_none, Option.isNone_some, Bool.not_false, b2i, idx1, z1, z2]
    · unfold n__law_went n_Walker_right
      simp only [q_on_on, q_on_ahead, q_on_left, q_on_right, q_on_over, q_on_back, q_ahead_on, q_ahead_ahead, q_ahead_left, q_ahead_right, q_ahead_over, q_ahead_back, q_left_on, q_left_ahead, q_left_left, q_left_right, q_left_over, q_left_back, q_right_on, q_right_ahead, q_right_left, q_right_right, q_right_over, q_right_back, q_over_on, q_over_ahead, q_over_left, q_over_right, q_over_over, q_over_back, q_back_on, q_back_ahead, q_back_left, q_back_right, q_back_over, q_back_back, ct_ok, if_true, if_false, Bool.false_eq_true, fn_rt, P2, times_ok h0 h1, z3, abs_n h0]
  | none =>
    obtain ⟨y, hy, z2, z3⟩ := a7 q (0 - m)
    have e : imax 0 (imin ((p : Int) + (0 - m)) ((l.length : Int) - 1)) = (p : Int) + (0 - imin (p : Int) m) := by
      unfold imax imin
      split <;> split <;> split <;> omega
    rw [e] at z2 z3
    have e2 : iabs ((p : Int) + (0 - imin (p : Int) m) - p) = imin (p : Int) m := by
      unfold iabs imin
      split <;> split <;> omega
    rw [e2] at z3
    refine ⟨y, imin (p : Int) m, hy, ?_, ?_⟩
    · unfold n__law_goal
      simp only [q_on_on, q_on_ahead, q_on_left, q_on_right, q_on_over, q_on_back, q_ahead_on, q_ahead_ahead, q_ahead_left, q_ahead_right, q_ahead_over, q_ahead_back, q_left_on, q_left_ahead, q_left_left, q_left_right, q_left_over, q_left_back, q_right_on, q_right_ahead, q_right_left, q_right_right, q_right_over, q_right_back, q_over_on, q_over_ahead, q_over_left, q_over_right, q_over_over, q_over_back, q_back_on, q_back_ahead, q_back_left, q_back_right, q_back_over, q_back_back, ct_ok, if_true, if_false, Bool.false_eq_true, fn_rt, a1, a2, a4, at_ms S a5, q, oc, Option.map_some, Option.map_none, Option.isNone_none, Bool.not_true, b2i, idx1, nI_len, z2]
    · unfold n__law_went n_Walker_right
      simp only [q_on_on, q_on_ahead, q_on_left, q_on_right, q_on_over, q_on_back, q_ahead_on, q_ahead_ahead, q_ahead_left, q_ahead_right, q_ahead_over, q_ahead_back, q_left_on, q_left_ahead, q_left_left, q_left_right, q_left_over, q_left_back, q_right_on, q_right_ahead, q_right_left, q_right_right, q_right_over, q_right_back, q_over_on, q_over_ahead, q_over_left, q_over_right, q_over_over, q_over_back, q_back_on, q_back_ahead, q_back_left, q_back_right, q_back_over, q_back_back, ct_ok, if_true, if_false, Bool.false_eq_true, fn_rt, P2, times_ok h0 h1, z3]
omit S in
theorem back_no {s : List Int × List (Option Int)} {ss : List Nat} (h : ss.length = 1) (m : Int) : n__law_went (s, nI ss) ("back" : Str) m = .ex ⟨"NothingLeft", none⟩ := by
  unfold n__law_went n_Walker_back
  simp only [q_on_on, q_on_ahead, q_on_left, q_on_right, q_on_over, q_on_back, q_ahead_on, q_ahead_ahead, q_ahead_left, q_ahead_right, q_ahead_over, q_ahead_back, q_left_on, q_left_ahead, q_left_left, q_left_right, q_left_over, q_left_back, q_right_on, q_right_ahead, q_right_left, q_right_right, q_right_over, q_right_back, q_over_on, q_over_ahead, q_over_left, q_over_right, q_over_over, q_over_back, q_back_on, q_back_ahead, q_back_left, q_back_right, q_back_over, q_back_back, ct_ok, if_true, if_false, Bool.false_eq_true, nI_len, h, decide_true]
  rfl
omit S in
theorem back_w {s : List Int × List (Option Int)} {ss : List Nat} (h : 2 ≤ ss.length) (m : Int) : n__law_went (s, nI ss) ("back" : Str) m = .ok (none, (s, nI ss.dropLast)) := by
  have e : popN (nI ss) = .ok ((ss[ss.length - 1] : Int), nI ss.dropLast) := by
    unfold popN
    rw [nI_len, show (nI ss)[ss.length - 1]? = some (ss[ss.length - 1] : Int) by
      unfold nI
      rw [List.getElem?_map, List.getElem?_eq_getElem (show ss.length - 1 < ss.length by omega)]
      rfl]
    simp [nI, List.map_dropLast]
  have e2 : decide ((((nI ss).length : Nat) : Int) = 1) = false := by rw [nI_len]; exact decide_eq_false (by omega)
  unfold n__law_went n_Walker_back
  simp only [q_on_on, q_on_ahead, q_on_left, q_on_right, q_on_over, q_on_back, q_ahead_on, q_ahead_ahead, q_ahead_left, q_ahead_right, q_ahead_over, q_ahead_back, q_left_on, q_left_ahead, q_left_left, q_left_right, q_left_over, q_left_back, q_right_on, q_right_ahead, q_right_left, q_right_right, q_right_over, q_right_back, q_over_on, q_over_ahead, q_over_left, q_over_right, q_over_over, q_over_back, q_back_on, q_back_ahead, q_back_left, q_back_right, q_back_over, q_back_back, ct_ok, if_true, if_false, Bool.false_eq_true, e2, e, P2, fp_nx, fn_rt]
end
section
variable {n : Nat} {on : List Nat} {ms : List (Option Nat)}
noncomputable def dueC {l ρ : Type} (r2 : List Int × List (Option Int)) (stands0 : List Int) (a2 : Str) (a4 : Int) : Ct ((List Int) × ((Option Int) × Str)) l ρ :=
 (if ((memB a2 [("on" : Str), ("ahead" : Str), ("left" : Str), ("right" : Str)]) && (!((decide ((0 : Int) ≤ a4)) && (decide (a4 ≤ ((10 : Int) ^ (30 : Int).toNat)))))) = true then
 .nx (stands0, (none, ("TooMany+" : Str))) else
 (eqN (eS a2) (eS ("back" : Str))).ct fun b1 =>
 (if b1 = true then
 (idx [("" : Str), ("NothingLeft+" : Str)] (b2i (decide ((stands0.length : Int) = (1 : Int))))).ct fun a5 =>
 .nx ((cutL stands0 none (some (imax (1 : Int) ((stands0.length : Int) - (1 : Int))))), (none, a5)) else
 (idx stands0 (-1 : Int)).ct fun a6 =>
 (n__law_goal r2 a6 a2 a4).ct fun r11 =>
 (appN stands0 r11.1).ct fun stands2 =>
 .nx (stands2, ((some r11.2), ("" : Str)))))
theorem shd (o : Option Int) {s : Str} (h : PyData.strOk s = true) : shD 4 (eP2 (eO eI) eS (o, s)) := sh_P2 (k := 3) (sh_of (f := eO eI) o (by decide)) (shD_str h 3)
structure StepP (n : Nat) (sk : List Int × List (Option Int)) (ss : List Nat) (w : Str) (m : Int) (ss' : List Nat) (d : Option Int × Str) : Prop where
  last : ∃ h, ss'.getLast? = some h
  lt : ∀ a, a ∈ ss' → a < n
  len : ss'.length ≤ ss.length + 1
  told : Told sk ss ss' w m d
  sh : shD 4 (eP2 (eO eI) eS d)
  due : ∀ l ρ : Type, (dueC sk (nI ss) w m : Ct ((List Int) × ((Option Int) × Str)) l ρ) = .nx (nI ss', d)
theorem goes_step {sk : List Int × List (Option Int)} {ss : List Nat} {h : Nat} {w : Str} {m : Int} (hs : ss.getLast? = some h) (hlt : ∀ a, a ∈ ss → a < n) (hl : ss.length < 1000) (g : Goes n sk ss h w m) (hb : eqN (eS w) (eS ("back" : Str)) = .ok false)
    (ht : (memB w [("on" : Str), ("ahead" : Str), ("left" : Str), ("right" : Str)] && (!((decide ((0 : Int) ≤ m)) && (decide (m ≤ ((10 : Int) ^ (30 : Int).toNat)))))) = false) : ∃ ss' d, StepP n sk ss w m ss' d := by
  obtain ⟨y, k, hy, g1, g2⟩ := g
  refine ⟨ss ++ [y], (some k, ("" : Str)), ⟨⟨y, by simp⟩, fun a ha => ?_, by simp, told_ok g2, shd _ (by decide +kernel), fun l ρ => ?_⟩⟩
  · rcases List.mem_append.1 ha with z | z
    · exact hlt a z
    · rw [List.mem_singleton.1 z]; exact hy
  · unfold dueC
    rw [ht]
    simp only [Bool.false_eq_true, if_false, hb, ct_ok, idx_last hs, g1, appN_n (show ss.length < 100000 by omega)]
theorem many_step {sk : List Int × List (Option Int)} {ss : List Nat} {h : Nat} {w : Str} {m : Int} (hs : ss.getLast? = some h) (hlt : ∀ a, a ∈ ss → a < n) (g : n__law_went (sk, nI ss) w m = .ex ⟨"TooMany", none⟩)
    (ht : (memB w [("on" : Str), ("ahead" : Str), ("left" : Str), ("right" : Str)] && (!((decide ((0 : Int) ≤ m)) && (decide (m ≤ ((10 : Int) ^ (30 : Int).toNat)))))) = true) : ∃ ss' d, StepP n sk ss w m ss' d := by
  refine ⟨ss, (none, ("TooMany+" : Str)), ⟨⟨h, hs⟩, hlt, by omega, told_ex (c := "TooMany") (by decide) g, shd _ (by decide +kernel), fun l ρ => ?_⟩⟩
  unfold dueC
  rw [ht, if_pos rfl]
theorem tst_f {w : Str} {m : Int} (h : 0 ≤ m ∧ m ≤ T30) : (memB w [("on" : Str), ("ahead" : Str), ("left" : Str), ("right" : Str)] && (!((decide ((0 : Int) ≤ m)) && (decide (m ≤ ((10 : Int) ^ (30 : Int).toNat)))))) = false := by
  rw [e30, decide_eq_true h.1, decide_eq_true h.2]
  simp
theorem tst_t {w : Str} {m : Int} (hw : memB w [("on" : Str), ("ahead" : Str), ("left" : Str), ("right" : Str)] = true) (h : ¬ (0 ≤ m ∧ m ≤ T30)) : (memB w [("on" : Str), ("ahead" : Str), ("left" : Str), ("right" : Str)] && (!((decide ((0 : Int) ≤ m)) && (decide (m ≤ ((10 : Int) ^ (30 : Int).toNat)))))) = true := by
  rw [e30, hw]
  simp only [Bool.true_and, Bool.not_eq_true', Bool.and_eq_false_iff, decide_eq_false_iff_not]
  omega
section
variable (S : SkinP n on ms)
include S
theorem step_n (hn : n ≤ 1000) {ss : List Nat} {h : Nat} (hs : ss.getLast? = some h) (hlt : ∀ a, a ∈ ss → a < n) (hl : ss.length < 1000) {w : Str} (hw : w = ("on" : Str) ∨ w = ("ahead" : Str) ∨ w = ("left" : Str) ∨ w = ("right" : Str) ∨ w = ("over" : Str) ∨ w = ("back" : Str)) (m : Int) : ∃ ss' d, StepP n (sk on ms) ss w m ss' d := by
  have hh : h < n := hlt h (List.mem_of_getLast? hs)
  rcases hw with rfl | rfl | rfl | rfl | rfl | rfl
  · by_cases c : 0 ≤ m ∧ m ≤ T30
    · exact goes_step hs hlt hl (on_w S hn hs hh hl c.1 c.2) q_on_back (tst_f c)
    · refine many_step hs hlt ?_ (tst_t t_on c)
      unfold n__law_went n_Walker_on
      simp only [q_on_on, q_on_ahead, q_on_left, q_on_right, q_on_over, q_on_back, q_ahead_on, q_ahead_ahead, q_ahead_left, q_ahead_right, q_ahead_over, q_ahead_back, q_left_on, q_left_ahead, q_left_left, q_left_right, q_left_over, q_left_back, q_right_on, q_right_ahead, q_right_left, q_right_right, q_right_over, q_right_back, q_over_on, q_over_ahead, q_over_left, q_over_right, q_over_over, q_over_back, q_back_on, q_back_ahead, q_back_left, q_back_right, q_back_over, q_back_back, ct_ok, if_true, if_false, Bool.false_eq_true, times_no c, ct_ex, fn_ex]
  · by_cases c : 0 ≤ m ∧ m ≤ T30
    · exact goes_step hs hlt hl (ahead_w S hn hs hh hl c.1 c.2) q_ahead_back (tst_f c)
    · refine many_step hs hlt ?_ (tst_t t_ahead c)
      unfold n__law_went n_Walker_ahead
      simp only [q_on_on, q_on_ahead, q_on_left, q_on_right, q_on_over, q_on_back, q_ahead_on, q_ahead_ahead, q_ahead_left, q_ahead_right, q_ahead_over, q_ahead_back, q_left_on, q_left_ahead, q_left_left, q_left_right, q_left_over, q_left_back, q_right_on, q_right_ahead, q_right_left, q_right_right, q_right_over, q_right_back, q_over_on, q_over_ahead, q_over_left, q_over_right, q_over_over, q_over_back, q_back_on, q_back_ahead, q_back_left, q_back_right, q_back_over, q_back_back, ct_ok, if_true, if_false, Bool.false_eq_true, times_no c, ct_ex, fn_ex]
  · by_cases c : 0 ≤ m ∧ m ≤ T30
    · exact goes_step hs hlt hl (left_w S hn hs hh hl c.1 c.2) q_left_back (tst_f c)
    · refine many_step hs hlt ?_ (tst_t t_left c)
      unfold n__law_went n_Walker_left
      simp only [q_on_on, q_on_ahead, q_on_left, q_on_right, q_on_over, q_on_back, q_ahead_on, q_ahead_ahead, q_ahead_left, q_ahead_right, q_ahead_over, q_ahead_back, q_left_on, q_left_ahead, q_left_left, q_left_right, q_left_over, q_left_back, q_right_on, q_right_ahead, q_right_left, q_right_right, q_right_over, q_right_back, q_over_on, q_over_ahead, q_over_left, q_over_right, q_over_over, q_over_back, q_back_on, q_back_ahead, q_back_left, q_back_right, q_back_over, q_back_back, ct_ok, if_true, if_false, Bool.false_eq_true, times_no c, ct_ex, fn_ex]
  · by_cases c : 0 ≤ m ∧ m ≤ T30
    · exact goes_step hs hlt hl (right_w S hn hs hh hl c.1 c.2) q_right_back (tst_f c)
    · refine many_step hs hlt ?_ (tst_t t_right c)
      unfold n__law_went n_Walker_right
      simp only [q_on_on, q_on_ahead, q_on_left, q_on_right, q_on_over, q_on_back, q_ahead_on, q_ahead_ahead, q_ahead_left, q_ahead_right, q_ahead_over, q_ahead_back, q_left_on, q_left_ahead, q_left_left, q_left_right, q_left_over, q_left_back, q_right_on, q_right_ahead, q_right_left, q_right_right, q_right_over, q_right_back, q_over_on, q_over_ahead, q_over_left, q_over_right, q_over_over, q_over_back, q_back_on, q_back_ahead, q_back_left, q_back_right, q_back_over, q_back_back, ct_ok, if_true, if_false, Bool.false_eq_true, times_no c, ct_ex, fn_ex]
  · exact goes_step hs hlt hl (over_w S hn hs hh hl m) q_over_back (by rw [t_over]; rfl)
  · by_cases c : ss.length = 1
    · refine ⟨ss, (none, ("NothingLeft+" : Str)), ⟨⟨h, hs⟩, hlt, by omega, told_ex (c := "NothingLeft") (by decide) (back_no c m), shd _ (by decide +kernel), fun l ρ => ?_⟩⟩
      unfold dueC
      rw [t_back]
      have e : imax (1 : Int) (((nI ss).length : Int) - 1) = ((1 : Nat) : Int) := by
        rw [nI_len, c]
        rfl
      have e2 : (nI ss).take 1 = nI ss := List.take_of_length_le (by rw [nI_len]; omega)
      simp only [Bool.false_and, Bool.false_eq_true, if_false, q_back_back, ct_ok, if_true, e, cutL_take, e2]
      simp only [nI_len, c]
      rfl
    · have h2 : 2 ≤ ss.length := by
        have : ss ≠ [] := fun e => by rw [e] at hs; cases hs
        have := List.length_pos_iff.2 this
        omega
      have hd : ss.dropLast ≠ [] := fun e => by
        have := congrArg List.length e
        simp at this
        omega
      refine ⟨ss.dropLast, (none, ("" : Str)), ⟨⟨_, List.getLast?_eq_some_getLast hd⟩, fun a ha => hlt a ((List.dropLast_sublist ss).subset ha), by simp; omega, told_ok (back_w h2 m), shd _ (by decide +kernel), fun l ρ => ?_⟩⟩
      unfold dueC
      rw [t_back]
      have e : imax (1 : Int) (((nI ss).length : Int) - 1) = ((ss.length - 1 : Nat) : Int) := by
        rw [nI_len]
        unfold imax
        split <;> omega
      have e2 : decide ((((nI ss).length : Nat) : Int) = 1) = false := by rw [nI_len]; exact decide_eq_false (by omega)
      have e3 : (nI ss).take (ss.length - 1) = nI ss.dropLast := by
        rw [nI_take, List.dropLast_eq_take]
      simp only [Bool.false_and, Bool.false_eq_true, if_false, q_back_back, ct_ok, if_true, e, cutL_take, e2, e3]
      rfl
theorem made_n {x : Int} (h : x < 0 ∨ (n : Int) ≤ x) : n__law_made_at (sk on ms) x = .ok ("NoHalf+" : Str) := by
  have e : n_Walker_init (sk on ms) x = .ex ⟨"NoHalf", none⟩ := by
    unfold n_Walker_init
    rw [look_no S h]
    rfl
  unfold n__law_made_at
  simp only [e, ct_ex, tryC_ex, kind_1 (c := "NoHalf") (by decide), ct_ok, sq_nx, fn_rt]
  rfl
theorem init_n {h : Nat} (hh : h < n) : n_Walker_init (sk on ms) (h : Int) = .ok (sk on ms, nI [h]) := by
  unfold n_Walker_init
  rw [look_n S hh]
  rfl
end
theorem law_n (ns : List Int) (h : ns.length ≤ 63) : n_law ns = .ok true := by
  suffices H : ∃ r, n_law ns = .ok r ∧ r = true by
    obtain ⟨r, a, b⟩ := H
    rw [a, b]
  unfold n_law
  refine W_fn ?_
  obtain ⟨s, hb⟩ := bag_n ns 0 (by omega)
  obtain ⟨r1, s1, a1, b1, t1⟩ := take_n s 6 (by decide) (by decide)
  obtain ⟨m, hm, hm1, hm2⟩ : ∃ m : Nat, idx [(40 : Int), 400] (b2i (decide (r1 = 0))) = .ok (m : Int) ∧ 1 ≤ m ∧ m ≤ 400 := by
    unfold b2i
    by_cases c : r1 = 0
    · exact ⟨400, by simp [c, idx1], by omega, by omega⟩
    · exact ⟨40, by simp [c, idx0], by omega, by omega⟩
  obtain ⟨_, hs, n, on, ms, s2, hn1, hn2, hS, rfl⟩ := skin_n s1 m hm1 (by omega)
  have hn : n ≤ 1000 := by omega
  simp only [hb, ct_ok, t1, P2, hm, hs]
  have hl : ((sk on ms).1.length : Int) = (n : Int) := by
    show (((nI on).length : Nat) : Int) = _
    rw [nI_len, NP.SkinP.lenO hS]
  obtain ⟨r3, s3, a3, b3, t3⟩ := take_n s2 (n : Int) (by omega) (by omega)
  obtain ⟨x, rfl⟩ := Int.eq_ofNat_of_zero_le a3
  have hx : x < n := by omega
  simp only [hl, t3, ct_ok, P2, idx0, init_n hS hx, pow8]
  refine W_cut (fun _ => True) ?_ ?_
  · refine W_for (fun _ _ => True) trivial ?_ (fun _ _ => trivial)
    rintro i a _ hi _
    have hax : a < 0 ∨ (n : Int) ≤ a := by
      have := List.mem_of_getElem? hi
      simp only [List.mem_cons, List.not_mem_nil, or_false] at this
      rcases this with rfl | rfl | rfl
      · exact .inl (by omega)
      · exact .inr (by omega)
      · refine .inr ?_
        have : (10 : Int) ^ (8 : Int).toNat = 100000000 := by decide +kernel
        rw [this]
        omega
    have q : eqN (eS ("NoHalf+" : Str)) (eS ("NoHalf+" : Str)) = .ok true := eqS _ _ ⟨by decide +kernel, by decide +kernel⟩ _ (by decide +kernel)
    simp only [made_n hS hax, ct_ok, q, Bool.not_true, Bool.false_eq_true, if_false, W_nx]
  rintro _ _
  obtain ⟨N, hN, hN2⟩ : ∃ N : Nat, 1 + imin (ns.length : Int) 60 = (N : Int) ∧ N ≤ 61 := by
    unfold imin
    split
    · exact ⟨61, rfl, by omega⟩
    · exact ⟨1 + ns.length, by omega, by omega⟩
  simp only [hN, rngN_k (show N ≤ 1000000 by omega), ct_ok]
  refine W_cut (fun _ => True) ?_ (fun _ _ => by simp [P2])
  refine W_for (fun i st => i ≤ N → ∃ ss : List Nat, st = (nI ss, (sk on ms, nI ss)) ∧ (∃ h, ss.getLast? = some h) ∧ (∀ a, a ∈ ss → a < n) ∧ ss.length ≤ i + 1) (fun _ => ⟨[x], rfl, ⟨x, rfl⟩, fun a ha => by rw [List.mem_singleton.1 ha]; exact hx, by simp⟩) ?_ (fun _ _ => trivial)
  rintro i a st hi hI
  obtain ⟨hi1, rfl⟩ := range_at hi
  obtain ⟨ss, rfl, ⟨h0, hs0⟩, hlt, hle⟩ := hI (by omega)
  obtain ⟨s5, hb5⟩ := bag_n ns i (by omega)
  obtain ⟨r6, s6, a6, b6, t6⟩ := take_n s5 7 (by decide) (by decide)
  obtain ⟨w, hw1, hw2⟩ := idx_in (xs := [("on" : Str), ("ahead" : Str), ("left" : Str), ("right" : Str), ("over" : Str), ("over" : Str), ("back" : Str)]) a6 b6
  obtain ⟨r7, s7, a7, b7, t7⟩ := take_n s6 4 (by decide) (by decide)
  obtain ⟨r8, s8, a8, b8, t8⟩ := take_n s7 90 (by decide) (by decide)
  obtain ⟨r9, s9, a9, b9, t9⟩ := take_n s8 999 (by decide) (by decide)
  obtain ⟨r10, s10, a10, b10, t10⟩ := take_n s9 9 (by decide) (by decide)
  obtain ⟨z, hz1, hz2⟩ := idx_in (xs := [(0 : Int), 0, 0, 1, 1, 2, 2, 3, 4]) a10 b10
  have hz : 0 ≤ z ∧ z < 5 := by
    simp only [List.mem_cons, List.not_mem_nil, or_false] at hz2
    omega
  obtain ⟨mm, hmm, _⟩ := idx_in (xs := [r7, r8, (10 : Int) ^ (30 : Int).toNat - r9, -1, (10 : Int) ^ (30 : Int).toNat + 1]) hz.1 hz.2
  have hw : w = ("on" : Str) ∨ w = ("ahead" : Str) ∨ w = ("left" : Str) ∨ w = ("right" : Str) ∨ w = ("over" : Str) ∨ w = ("back" : Str) := by
    simp only [List.mem_cons, List.not_mem_nil, or_false] at hw2
    rcases hw2 with z | z | z | z | z | z | z
    · exact .inl z
    · exact .inr (.inl z)
    · exact .inr (.inr (.inl z))
    · exact .inr (.inr (.inr (.inl z)))
    · exact .inr (.inr (.inr (.inr (.inl z))))
    · exact .inr (.inr (.inr (.inr (.inl z))))
    · exact .inr (.inr (.inr (.inr (.inr z))))
  obtain ⟨ss', d, P⟩ := step_n hS hn hs0 hlt (by omega) hw mm
  obtain ⟨h1, hs1⟩ := P.last
  have tl : n__law_tried (sk on ms, nI ss) w mm = .ok (d, (sk on ms, nI ss')) := P.told
  have de : n_Walker_deeds (sk on ms, nI ss') = .ok (((nI ss').length : Int) - 1) := rfl
  simp only [P2, hb5, ct_ok, t6, hw1, t7, t8, pow30, t9, t10, hz1, hmm]
  refine W_sq ?_
  have du := P.due ((List Int) × (((List Int) × (List (Option Int))) × (List Int))) Bool
  unfold dueC at du
  rw [du]
  simp only [W_nx, P2, tl, ct_ok, eqN_typed P.sh P.sh, decide_true, Bool.not_true, Bool.false_eq_true, if_false, at_w hs1, idx_last hs1, de, fn_rt]
  have ib : isBoolD (eI (h1 : Int)) = false := rfl
  simp only [ib, ct_ok, Bool.false_eq_true, if_false, W_nx]
  exact fun _ => ⟨ss', rfl, ⟨h1, hs1⟩, P.lt, by have := P.len; omega⟩
theorem law_true (ns : List Int) (h : ns.length ≤ 63) : ∃ outs, f_law [.v (scriptD ns)] = .ok (.bool true) outs := ⟨_, RF_ok (rf_law ns) (law_n ns h)⟩
end
end K35
set_option Elab.async false
set_option linter.all false
set_option maxRecDepth 100000
set_option maxHeartbeats 4000000
open PySem PySem.W PySem.Calls PyProof.Rows
set_option maxRecDepth 100000 in
set_option maxHeartbeats 0 in
theorem PySem.Challenge.cw_halfseams_k35_walkers_by_hand_holds : PySem.Challenge.rw_halfseams_k35_walkers_by_hand.Holds := by
  w_on; o_law
  refine HandSHeadRun.head_any (r := (OpenLaw.row PySem.Challenge.rw_halfseams_k35_walkers_by_hand)) (q := view (OpenLaw.row PySem.Challenge.rw_halfseams_k35_walkers_by_hand).prog [39]) (H := K35.hk) (ob := K35.ob) (M := 100000) (loose := K35.loose) (d := HandSHeadRun.topDef (OpenLaw.row PySem.Challenge.rw_halfseams_k35_walkers_by_hand).prog 39) (kwd := []) K35.ob_eq
    (by kernel_rfl) (fun s => by kernel_rfl) K35.run (by kernel_rfl) (by kernel_rfl) (by kernel_rfl) (by rfl) (by first | assumption | decide +kernel) (by decide +kernel) ⟨rfl, rfl, rfl, rfl, rfl, by decide +kernel⟩ ?hw ?hc
  case hw => w_witness2
  case hc =>
    refine DL.walk_ofR (l := PySem.Challenge.rw_halfseams_k35_walkers_by_hand) (n := 63) (k := 9) (F := K35.f_law) rfl (by decide) (by kernel_rfl) ⟨rfl, by decide, by decide⟩ (by kernel_rfl) K35.law_true ?C
    intro w mg h Y G
    obtain ⟨K, KX, c, e⟩ := Y
    have T := K35.txt KX G c e
    obtain ⟨fd, F⟩ := T.d_law
    exact ⟨K, fd, KX, T.g_law, fun s v => L2.FunD.bindsA (ps := ["script"]) F (fun _ _ _ _ _ _ us hl => match us, hl with | [_], _ => rfl) s [v] rfl, fun base _ _ => K35.law_fn T F⟩
