import PyProof.Rows.All
import Wide.All
import OpenK.AllK
import Wide.FinOn
import PySem.Challenge.RW_halfseams_k01_what_is_a_skin
import HandS.ForMost
import HandS.ExcCtx
import HandS.HotCalls
import HandS.ExcIs
import HandS.ExcField
import HandS.ExcInit
import HandS.ForExc
import HandS.IsInst
import HandS.Wide
import HandS.Conv
import HandS.More
import HandS.TupAny
import HandS.CallSlots
import HandS.HeadHook1
import HandS.SortInts
import HandS.Strs
import HandS.Style
import HandS.HeadHook2
import HandS.HeadHook3
import HandS.HeadHook4
import HandS.Head0
import HandS.Head1
import HandS.Head2
import KE.KExcIs
import KE.KDictCopyH
import HandS.Deep
import HandS.StrSplit
import HandS.StrMore
import HandS.NoneIn
import HandS.Zip
import HandS.TupMul
import HandS.Defaults
import HandS.HeadEnd
import HandS.CallLocal
import KE.GoesEnum
import KE.KDictSum
import HandS.SetFor
import HandS.Steps
import PyProof.DictUpdate
import PyProof.FactsAll.set_1
import PyProof.FactsAll.subtypes_5
import PyProof.SumWalkG
import HandS.ExcOwn
import HandS.ExcValue
import KE.DataMinMax
import KE.SortData
set_option Elab.async false
set_option linter.all false
set_option maxRecDepth 100000
set_option autoImplicit false
namespace DL
open PySem L2 PySem.Spec PyProof.Rows
def SqN (K : PySem.W.Frag) (H : Hp) (a : Addr) (xs : List V) : Prop :=
  (∃ o : Obj, H a = some (.frz o (.tup xs)) ∧ o.dict = none) ∨
    ∃ (o : Obj) (its : Array Value) (n : Nat), K.lookup a = some o ∧ o.cls = .type "tuple" ∧ o.dict = none ∧ o.data = .seq its n ∧ its.size ≤ sizeLine ∧ Vals xs its.toList
theorem SqN.t {K : PySem.W.Frag} {H : Hp} {a : Addr} {xs : List V} (h : SqN K H a xs) : SqT K H a xs := by
  rcases h with ⟨o, h, _⟩ | ⟨o, its, n, h1, h2, h3, h4, h5, h6⟩
  · exact .inl (.inr ⟨o, h⟩)
  · exact .inr ⟨o, its, n, h1, h2, h4, h5, h6⟩
section
variable {X : Cx}
/-- a display -/
def tTupF (t : TA) : TE := fun σ H Q => t σ H fun xs H1 => xs.length ≤ sizeLine ∧ ∀ (p : Addr) (o : Obj), H1 p = none → o.dict = none → Q (.ref p) (upd H1 p (.frz o (.tup xs)))
theorem pe_tupF {es : List Expr} {t : TA} {pos : Pos} {x1} (h : PA X es t) : PE X (.Tuple es x1 pos) (tTupF t) := by
  refine ⟨fun pins s σ H Q I hq => ?_⟩
  refine wpAny_Tuple_spliced (thn (h.run pos pins s σ H _ I hq) fun us s1 ⟨xs, H1, I1, r, z, q⟩ => ⟨by rw [← r.length]; exact z, ?_⟩)
  have hf : H1 s1.heap.objs.size = none := I1.hok.fresh (Nat.le_refl _)
  refine ⟨.ref s1.heap.objs.size, upd H1 s1.heap.objs.size (.frz { cls := .type "tuple", data := .seq us.toArray } (.tup xs)), I1.laid (t' := s1.toks) (fun b u e => Heap.get?_push_of_some _ e) (Nat.le_refl _) ?_, rfl, q _ _ hf rfl⟩
  exact ⟨Heap.get?_push_size _ rfl, z, us, r, ⟨_, Heap.get?_push_size _ rfl, rfl, _, rfl⟩⟩
/-- tuple(x) -/
theorem call_tuple_ofF : CallR X (.type "tuple") (fun xs H Q => ∃ p ys, xs = [.ref p] ∧ ((SqL X.K H p ys ∧ ∀ (l : Addr) (o : Obj), H l = none → o.dict = none → Q (.ref l) (upd H l (.frz o (.tup ys)))) ∨ (SqT X.K H p ys ∧ Q (.ref p) H))) := by
  intro pins s σ H xs us Q I r h
  obtain ⟨p, ys, rfl, h⟩ := h
  obtain ⟨u, rfl, rx⟩ := vals1 r
  cases rx
  rcases h with ⟨hq, q⟩ | ⟨hq, q⟩
  · obtain ⟨its, r', pl, hz⟩ := I.list hq
    have hlen := r'.length
    refine call_tuple_list pl.isList (fun h' kp => ?_) (by simp only [List.size_toArray] <;> omega)
    have I1 : Inv X pins σ H { s with heap := h' } := I.kept (t' := s.toks) kp
    have I2 : Inv X pins σ (upd H h'.objs.size (.frz { cls := .type "tuple", data := .seq its.toArray } (.tup ys))) { s with heap := h'.push { cls := .type "tuple", data := .seq its.toArray } } :=
      I1.laid (t' := s.toks) (fun b o e => Heap.get?_push_of_some _ e) (Nat.le_refl _) (show ObjOk X.prog X.w _ _ _ (.frz _ (.tup ys)) from ⟨Heap.get?_push_size _ rfl, hz, its, r', IsTup.new _ _⟩)
    exact ⟨.ref h'.objs.size, _, I2, rfl, q _ _ (I1.hok.fresh (Nat.le_refl _)) rfl⟩
  · obtain ⟨its, r', pl, hz⟩ := I.tuple hq
    exact call_tuple_same pl ⟨.ref p, H, I, rfl, q⟩
/-- t + u -/
def rCatF (K : PySem.W.Frag) : R2 := fun x y H Q => ∃ a b xs ys, x = .ref a ∧ y = .ref b ∧ SqT K H a xs ∧ SqT K H b ys ∧ xs.length + ys.length ≤ sizeLine ∧
  (xs = [] → Q (.ref b) H) ∧ (xs ≠ [] → ys = [] → Q (.ref a) H) ∧ (xs ≠ [] → ys ≠ [] → ∀ (p : Addr) (o : Obj), H p = none → o.dict = none → Q (.ref p) (upd H p (.frz o (.tup (xs ++ ys)))))
theorem op_catF : OpR X (binaryOp .Add) (rCatF X.K) := by
  intro pins s σ H x y v u Q I rx ry h
  obtain ⟨a, b, xs, ys, rfl, rfl, ha, hb, hz, q0, q1, q2⟩ := h
  cases rx
  cases ry
  obtain ⟨its, r1, p1, _⟩ := I.tuple ha
  obtain ⟨its2, r2, p2, _⟩ := I.tuple hb
  by_cases hx : xs = []
  · subst hx
    cases r1
    exact cat_tup0 p1 p2 ⟨.ref b, H, I, rfl, q0 rfl⟩
  · refine HT.cat_tup p1 p2 (fun z => hx (r1.nil_iff.mp z)) (fun z => ⟨.ref a, H, I, rfl, q1 hx (r2.nil_iff.mp z)⟩) (fun z => ?_) (by rw [← r1.length, ← r2.length]; exact hz)
    refine ⟨.ref s.heap.objs.size, _, I.laid (t' := s.toks) (o := .frz { cls := .type "tuple", data := .seq (its ++ its2).toArray } (.tup (xs ++ ys))) (fun b ob q => Heap.get?_push_of_some _ q) (Nat.le_refl _) ?_, rfl, q2 hx (fun w => z (r2.nil_iff.mpr w)) _ _ (I.hok.fresh (Nat.le_refl _)) rfl⟩
    exact ⟨Heap.get?_push_size _ rfl, by rw [List.length_append]; exact hz, _, r1.append r2, IsTup.new _ _⟩
/-- t[lo:hi] -/
def rSlF (K : PySem.W.Frag) : V → Option Int → Option Int → Hp → VK → Prop := fun x lo hi H Q => ∃ a xs, x = .ref a ∧ SqT K H a xs ∧
  (HT.sIx xs.length 0 lo = 0 ∧ HT.sIx xs.length xs.length hi = xs.length → Q (.ref a) H) ∧ (¬ (HT.sIx xs.length 0 lo = 0 ∧ HT.sIx xs.length xs.length hi = xs.length) → ∀ (p : Addr) (o : Obj), H p = none → o.dict = none → Q (.ref p) (upd H p (.frz o (.tup (cutV xs lo hi)))))
theorem sl_tupF : SlR X (rSlF X.K) := by
  intro pins s σ H x v vl vu lo hi sl Q I rx hs pl pu h
  obtain ⟨a, xs, rfl, hx, q1, q2⟩ := h
  cases rx
  obtain ⟨its, r, ht, hz⟩ := I.tuple hx
  have hlen : its.toArray.size = xs.length := by rw [List.size_toArray]; exact r.length.symm
  refine ⟨"tuple", _, PyProof.Rows.slot_tuple_getitem.lookup, ht.typeIs, ?_⟩
  by_cases hw : HT.sIx xs.length 0 lo = 0 ∧ HT.sIx xs.length xs.length hi = xs.length
  · exact getItem_tuple_whole ht hs pl pu (by rw [hlen]; exact hw) ⟨.ref a, H, I, rfl, q1 hw⟩
  · refine HT.getItem_tuple_cut ht hs pl pu (by rw [hlen]; exact hw) ?_ (by rw [hlen]; exact hz)
    rw [hlen]
    refine ⟨.ref s.heap.objs.size, _, I.laid (t' := s.toks) (o := .frz { cls := .type "tuple", data := .seq (List.take (HT.sIx xs.length xs.length hi - HT.sIx xs.length 0 lo) (List.drop (HT.sIx xs.length 0 lo) its.toArray.toList)).toArray } (.tup (cutV xs lo hi))) (fun b ob q => Heap.get?_push_of_some _ q) (Nat.le_refl _) ?_, rfl, q2 hw _ _ (I.hok.fresh (Nat.le_refl _)) rfl⟩
    exact ⟨Heap.get?_push_size _ rfl, Nat.le_trans (cutV_length xs lo hi) hz, _, (r.drop (HT.sIx xs.length 0 lo)).take (HT.sIx xs.length xs.length hi - HT.sIx xs.length 0 lo), IsTup.new _ _⟩
end
end DL
set_option Elab.async false
set_option linter.all false
set_option maxRecDepth 100000
set_option autoImplicit false
namespace DL
open PySem L2 PySem.Spec PyProof.Rows
def obsB (n : Nat) (fa : List He.Fa) (fn : List He.DefD) (ex : PySem.W.Frag → Bool) (g : Addr → Option Obj) : He.AlD × Bool := (fun K : PySem.W.Frag => (He.obsD fa fn K, ex K)) (He.frG g (PySem.mainGlobals :: PySem.cStatics :: List.range n))
def hookB (n : Nat) (fa : List He.Fa) (fn : List He.DefD) (ex : PySem.W.Frag → Bool) : PySem.W.Hook where
  α := He.AlD × Bool
  obs := fun s => obsB n fa fn ex s.heap.get?
  val := fun _ => (He.valD fn, true)
  says := fun _ h => ∃ K : PySem.W.Frag, K.In h ∧ He.SaysD fa fn K ∧ ex K = true
  of := fun _ _ e => ⟨_, He.frG_in, congrArg (fun z : He.AlD × Bool => z.1) e, congrArg (fun z : He.AlD × Bool => z.2) e⟩
  keeps := fun _ _ _ ⟨K, hK, c⟩ k => ⟨K, PySem.W.Frag.In.keeps hK k, c⟩
theorem obsB_eq {n : Nat} {fa : List He.Fa} {fn : List He.DefD} {ex : PySem.W.Frag → Bool} {g : Addr → Option Obj} {s : Shared} (h : ∀ a, g a = s.heap.get? a) : obsB n fa fn ex g = (hookB n fa fn ex).obs s := by
  have e : g = s.heap.get? := funext h
  rw [e] <;> rfl
def defD (x : Str) (st : Stmt) : He.DefD := ⟨(x, none), x, x, defArgs st, defBody st, defScope st, [], []⟩
def kNames : List Str := ["Harm", "NoHalf", "NoMarks", "NoPlain", "NoRim", "NoRow", "NoSkin", "NoText", "NothingLeft", "TooMany", "Unfit", "Unlike"]
def mtC (n c : Str) : Bool := n == ("SkinError" : Str) || c == n
end DL
set_option Elab.async false
set_option linter.all false
set_option maxRecDepth 100000
set_option maxHeartbeats 4000000
namespace K01
open PySem L2 DL
def topS (i : Nat) : Stmt := PySem.Challenge.pw_halfseams_k01_what_is_a_skin.main.body.getD i (.Pass ⟨0, 0, 0, 0⟩)
abbrev s_is_whole : Stmt := topS 2
abbrev N_is_whole : List Str := ["thing"]
abbrev P_is_whole : List Str := ["thing"]
abbrev s_broken : Stmt := topS 3
abbrev N_broken : List Str := ["onward", "mates", "many", "met", "half", "behind", "mate"]
abbrev P_broken : List Str := ["onward", "mates"]
abbrev s_is_skin : Stmt := topS 4
abbrev N_is_skin : List Str := ["thing", "onward", "mates", "behind", "mate"]
abbrev P_is_skin : List Str := ["thing"]
abbrev s__law_take : Stmt := topS 9
abbrev N__law_take : List Str := ["bag", "many", "found"]
abbrev P__law_take : List Str := ["bag", "many"]
abbrev s__law_odd : Stmt := topS 6
abbrev N__law_odd : List Str := ["bag", "some"]
abbrev P__law_odd : List Str := ["bag"]
abbrev s__law_replaced : Stmt := topS 7
abbrev N__law_replaced : List Str := ["bag", "thing", "deep", "at", "way"]
abbrev P__law_replaced : List Str := ["bag", "thing", "deep"]
abbrev s__law_bag : Stmt := topS 8
abbrev N__law_bag : List Str := ["script", "k", "cell"]
abbrev P__law_bag : List Str := ["script", "k"]
abbrev s__law_skin : Stmt := topS 10
abbrev N__law_skin : List Str := ["bag", "most", "many", "order", "half", "onward", "wide", "left", "size", "patch", "k", "mates", "rare", "waiting", "one", "other"]
abbrev P__law_skin : List Str := ["bag", "most"]
abbrev s__law_broken : Stmt := topS 12
abbrev N__law_broken : List Str := ["onward", "mates", "many", "half", "mate"]
abbrev P__law_broken : List Str := ["onward", "mates"]
abbrev s__law_is_skin : Stmt := topS 11
abbrev N__law_is_skin : List Str := ["thing", "many", "number", "part", "mate"]
abbrev P__law_is_skin : List Str := ["thing"]
abbrev s__law_truths : Stmt := topS 13
abbrev N__law_truths : List Str := ["row", "one"]
abbrev P__law_truths : List Str := ["row"]
abbrev s_law : Stmt := topS 14
abbrev N_law : List Str := ["script", "k", "bag", "skin", "thing", "one", "found", "shift", "many", "great", "half"]
abbrev P_law : List Str := ["script"]
def fn : List He.DefD := [defD "is_whole" s_is_whole, defD "broken" s_broken, defD "is_skin" s_is_skin, defD "_law_take" s__law_take, defD "_law_odd" s__law_odd, defD "_law_replaced" s__law_replaced, defD "_law_bag" s__law_bag, defD "_law_skin" s__law_skin, defD "_law_broken" s__law_broken, defD "_law_is_skin" s__law_is_skin, defD "_law_truths" s__law_truths, defD "law" s_law]
def fa : List He.Fa := [.glo "is_whole", .glo "broken", .glo "is_skin", .glo "_law_take", .glo "_law_odd", .glo "_law_replaced", .glo "_law_bag", .glo "_law_skin", .glo "_law_broken", .glo "_law_is_skin", .glo "_law_truths", .glo "law", .free "all", .free "bool", .free "int", .free "isinstance", .free "len", .free "list", .free "min", .free "range", .free "tuple", .int "MOST" 400]
def exB (K : PySem.W.Frag) : Bool := true
abbrev Rw : PySem.W.OpenRow := PySem.W.OpenLaw.row PySem.Challenge.rw_halfseams_k01_what_is_a_skin
abbrev hk : PySem.W.Hook := hookB 800 fa fn exB
def ob (s : PySem.W.SharedT) : He.AlD × Bool := obsB 800 fa fn exB (HandSHeadRun.getT s)
theorem ob_eq (s : PySem.W.SharedT) : ob s = hk.obs s.abs := obsB_eq (HandSHeadRun.getT_eq s)
def loose : List Str := (["MOST", "is_whole", "broken", "is_skin", "_law_odd", "_law_replaced", "_law_bag", "_law_take", "_law_skin", "_law_is_skin", "_law_broken", "_law_truths"] : List Str)
theorem run (w : World) : HandSHeadRun.RunEq Rw (PySem.W.view Rw.prog [14]) hk ob 100000 loose w := by
  intro os
  kernel_rfl
end K01
set_option Elab.async false
set_option linter.all false
set_option maxRecDepth 100000
set_option autoImplicit false
namespace DL
open PySem L2
abbrev LV (kvs : List (Leaf × V)) (vs : List (Leaf × Value)) : Prop := Paired (fun (p : Leaf × V) (q : Leaf × Value) => p.1 = q.1 ∧ RelV p.2 q.2) kvs vs
/-- such a dict as a thing that is held -/
def hoLf (a : Addr) (kvs : List (Leaf × V)) : HO := .ext fun h => kvs.length ≤ sizeLine ∧ (a == sysModules) = false ∧ ∃ vs, LV kvs vs ∧ ∀ P w, h.DictOf (leafKind P w) a vs
end DL
set_option Elab.async false
set_option linter.all false
set_option maxRecDepth 100000
set_option autoImplicit false
namespace DL
open PySem L2
abbrev D := PyData
/-- a whole number or None -/
def oiV : Option Int → V
  | none => .non
  | some i => .int i
abbrev LO := List (Leaf × Option Int)
def oV (kvs : LO) : List (Leaf × V) := kvs.map fun kv => (kv.1, oiV kv.2)
/-- a thing of the def's own that is changed in place, with what it holds: data that stands still; a dict with None among its keys; a list; a dict with texts as keys; an object of an own class; anything at all, none of it one's own -/
inductive Tr where
  | d (x : D)
  | n (kvs : LO)
  | l (xs : List Tr)
  | k (kvs : List (Str × Tr))
  | o (c : Str) (fs : List (Str × Tr))
  | w
/-- what a slot holds: nothing known, data that stands still, a list of the def's own that is changed in place, a parameter's list that is changed in place, a dict of the def's own, a dict with None among its keys that stands, a def, an exception, a thing of its own (or a parameter's) that is changed in place -/
inductive Sl where
  | no
  | v (d : D)
  | l (xs : List D)
  | p (xs : List D)
  | m (kvs : List (D × D))
  | n (kvs : List (Leaf × Option Int))
  | f (x : Str)
  | a (b : Addr) (d : Option Addr) (f : Option (Str × PyData))
  | t (x : Tr)
  | u (x : Tr)
abbrev DEnv := List Sl
def Sl.own : Sl → Bool
  | .l _ => true
  | .p _ => true
  | .m _ => true
  | .t _ => true
  | .u _ => true
  | _ => false
/-- owns one thing -/
def Sl.lst : Sl → Bool
  | .l _ => true
  | .p _ => true
  | .m _ => true
  | _ => false
/-- a parameter that is changed -/
def Sl.pk : Sl → Nat
  | .p _ => 1
  | .u _ => 2
  | _ => 0
/-- an exception: its class's name, its field with its value -/
structure Xc where
  c : Str
  f : Option (Str × D)
inductive Rs (α : Type) where
  | ok (a : α) (env : DEnv)
  | ex (x : Xc) (env : DEnv)
  | stuck
abbrev DE := DEnv → Rs D
abbrev DT := DEnv → Rs Bool
abbrev DA := DEnv → Rs (List D)
def Rs.bind {α β : Type} (r : Rs α) (f : α → DEnv → Rs β) : Rs β := match r with
  | .ok a env => f a env
  | .ex x env => .ex x env
  | .stuck => .stuck
theorem bind_ok {α β : Type} (a : α) (env : DEnv) (f : α → DEnv → Rs β) : (Rs.ok a env).bind f = f a env := rfl
/-- an answer that may lack, in place -/
def put {α : Type} (o : Option α) (env : DEnv) : Rs α := match o with
  | some a => .ok a env
  | none => .stuck
structure I62 (i : Int) : Prop where
  lo : -(2 ^ 62) ≤ i
  hi : i < 2 ^ 62
structure I63 (i : Int) : Prop where
  lo : -(2 ^ 63) ≤ i
  hi : i < 2 ^ 63
structure IRg (i : Int) : Prop where
  lo : -1000 ≤ i
  hi : i ≤ 100000
noncomputable instance (i : Int) : Decidable (I62 i) := Classical.propDecidable _
noncomputable instance (i : Int) : Decidable (I63 i) := Classical.propDecidable _
noncomputable instance (i : Int) : Decidable (IRg i) := Classical.propDecidable _
theorem i62_of {i : Int} (h : -1000000 ≤ i) (h2 : i ≤ 1000000) : I62 i := ⟨by omega, by omega⟩
theorem i63_of {i : Int} (h : -1000000 ≤ i) (h2 : i ≤ 1000000) : I63 i := ⟨by omega, by omega⟩
def Ex (G H : Hp) : Prop := ∀ a o, G a = some o → H a = some o
theorem Ex.refl (H : Hp) : Ex H H := fun _ _ h => h
theorem Ex.trans {H H1 H2 : Hp} (a : Ex H H1) (b : Ex H1 H2) : Ex H H2 := fun x o h => b x o (a x o h)
theorem Ex.new {H : Hp} {p : Addr} {o : HO} (h : H p = none) : Ex H (upd H p o) := fun a u e => by
  rw [upd_ne (ne_of_none e h)]; exact e
theorem Ex.none {G H : Hp} {a : Addr} (e : Ex G H) (h : H a = none) : G a = none := by
  cases q : G a with
  | none => rfl
  | some o => rw [e a o q] at h; cases h
theorem Ex.both {G H : Hp} {p : Addr} {o : HO} (e : Ex G H) : Ex (upd G p o) (upd H p o) := fun a u h => by
  by_cases hp : a = p
  · subst hp; rw [upd_same] at h ⊢; exact h
  · rw [upd_ne hp] at h ⊢; exact e a u h
theorem Ex.rd {H H' : Hp} {a : Addr} {u : HO} (e : Ex H H') (h : Rd H a u) : Rd H' a u := by
  rcases h with h | ⟨o, h⟩
  · exact Or.inl (e a _ h)
  · exact Or.inr ⟨o, e a _ h⟩
theorem Ex.l {K : PySem.W.Frag} {H H' : Hp} {a : Addr} {xs : List V} (e : Ex H H') (h : SqL K H a xs) : SqL K H' a xs := by
  rcases h with h | h
  · exact Or.inl (e.rd h)
  · exact Or.inr h
theorem Ex.n {K : PySem.W.Frag} {H H' : Hp} {a : Addr} {xs : List V} (e : Ex H H') (h : SqN K H a xs) : SqN K H' a xs := by
  rcases h with ⟨o, h, hd⟩ | h
  · exact .inl ⟨o, e _ _ h, hd⟩
  · exact .inr h
theorem Ex.t {K : PySem.W.Frag} {H H' : Hp} {a : Addr} {xs : List V} (e : Ex H H') (h : SqT K H a xs) : SqT K H' a xs := by
  rcases h with h | h
  · exact Or.inl (e.rd h)
  · exact Or.inr h
/-- a list to be read: tracked, known (the script), or written at the top just so -/
def RL (K : PySem.W.Frag) (G : Hp) (a : Addr) (xs : List V) : Prop := Rd G a (.lst xs) ∨ ∃ (its : Array Value) (n : Nat), K.lookup a = some { cls := .type "list", data := .seq its n } ∧ its.size ≤ sizeLine ∧ Vals xs its.toList
theorem Ex.rl {K : PySem.W.Frag} {G G' : Hp} {a : Addr} {xs : List V} (e : Ex G G') (h : RL K G a xs) : RL K G' a xs := by
  rcases h with h | h
  · exact .inl (e.rd h)
  · exact .inr h
theorem RL.sq {K : PySem.W.Frag} {G : Hp} {a : Addr} {xs : List V} (h : RL K G a xs) : SqL K G a xs := by
  rcases h with h | ⟨its, n, h1, h2, h3⟩
  · exact .inl h
  · exact .inr ⟨_, its, n, h1, rfl, rfl, rfl, h2, h3⟩
theorem RL.of {K : PySem.W.Frag} {G : Hp} {a : Addr} {xs : List V} (h : G a = some (.lst xs)) : RL K G a xs := .inl (.inl h)
/-- a key as data -/
def kD : Key → D
  | .inl i => .int i
  | .inr x => .str x
mutual
/-- data that stands still, by a value: lists are tracked ones (or the script), tuples may be written ones -/
inductive Dv (K : PySem.W.Frag) (G : Hp) : V → PyData → Prop
  | non : Dv K G .non .none
  | bl (b : Bool) : Dv K G (.bl b) (.bool b)
  | int (i : Int) : Dv K G (.int i) (.int i)
  | str (x : Str) : Dv K G (.str x) (.str x)
  | lst {a : Addr} {xs : List V} {ds : List PyData} : RL K G a xs → DvAll K G xs ds → Dv K G (.ref a) (.list ds)
  | tup {a : Addr} {xs : List V} {ds : List PyData} : SqN K G a xs → DvAll K G xs ds → Dv K G (.ref a) (.tuple ds)
  | dct {a : Addr} {xs : List (Key × V)} {ds : List (PyData × PyData)} : Rd G a (.dK xs) → DvKv K G xs ds → Dv K G (.ref a) (.dict ds)
inductive DvKv (K : PySem.W.Frag) (G : Hp) : List (Key × V) → List (PyData × PyData) → Prop
  | nil : DvKv K G [] []
  | cons {k : Key} {v : V} {d : D} {xs : List (Key × V)} {ys : List (D × D)} : Dv K G v d → DvKv K G xs ys → DvKv K G ((k, v) :: xs) ((kD k, d) :: ys)
inductive DvAll (K : PySem.W.Frag) (G : Hp) : List V → List PyData → Prop
  | nil : DvAll K G [] []
  | cons {v : V} {vs : List V} {d : PyData} {ds : List PyData} : Dv K G v d → DvAll K G vs ds → DvAll K G (v :: vs) (d :: ds)
end
mutual
theorem Dv.mono {K : PySem.W.Frag} {G G' : Hp} (e : Ex G G') : ∀ (d : D) (v : V), Dv K G v d → Dv K G' v d
  | .none, _, h => by cases h; exact .non
  | .bool b, _, h => by cases h; exact .bl b
  | .int i, _, h => by cases h; exact .int i
  | .str x, _, h => by cases h; exact .str x
  | .list ds, _, h => by
    cases h with
    | lst a b => exact .lst (e.rl a) (Dv.monoAll e ds _ b)
  | .tuple ds, _, h => by
    cases h with
    | tup a b => exact .tup (e.n a) (Dv.monoAll e ds _ b)
  | .dict ds, _, h => by
    cases h with
    | dct a b => exact .dct (e.rd a) (Dv.monoKv e ds _ b)
theorem Dv.monoKv {K : PySem.W.Frag} {G G' : Hp} (e : Ex G G') : ∀ (ds : List (D × D)) (vs : List (Key × V)), DvKv K G vs ds → DvKv K G' vs ds
  | [], _, h => by cases h; exact .nil
  | (_, d) :: ds, _, h => by
    cases h with
    | cons a b => exact .cons (Dv.mono e d _ a) (Dv.monoKv e ds _ b)
theorem Dv.monoAll {K : PySem.W.Frag} {G G' : Hp} (e : Ex G G') : ∀ (ds : List D) (vs : List V), DvAll K G vs ds → DvAll K G' vs ds
  | [], _, h => by cases h; exact .nil
  | d :: ds, _, h => by
    cases h with
    | cons a b => exact .cons (Dv.mono e d _ a) (Dv.monoAll e ds _ b)
end
theorem Dv.up {K : PySem.W.Frag} {G G' : Hp} {d : D} {v : V} (h : Dv K G v d) (e : Ex G G') : Dv K G' v d := Dv.mono e d v h
theorem DvKv.up {K : PySem.W.Frag} {G G' : Hp} {d : List (D × D)} {v : List (Key × V)} (h : DvKv K G v d) (e : Ex G G') : DvKv K G' v d := Dv.monoKv e d v h
theorem DvAll.up {K : PySem.W.Frag} {G G' : Hp} {d : List D} {v : List V} (h : DvAll K G v d) (e : Ex G G') : DvAll K G' v d := Dv.monoAll e d v h
section
variable {K : PySem.W.Frag} {G : Hp}
theorem DvAll.length : ∀ {vs : List V} {ds : List D}, DvAll K G vs ds → vs.length = ds.length
  | _, _, .nil => rfl
  | _, _, .cons _ t => by rw [List.length_cons, List.length_cons, DvAll.length t]
theorem DvAll.get : ∀ {vs : List V} {ds : List D} {i : Nat} {d : D}, DvAll K G vs ds → ds[i]? = some d → ∃ v, vs[i]? = some v ∧ Dv K G v d
  | _, _, _, _, .nil, e => by simp at e
  | _, _, 0, _, .cons r _, e => by simp at e; subst e; exact ⟨_, rfl, r⟩
  | _, _, i + 1, d, .cons _ t, e => by
    obtain ⟨u, h1, h2⟩ := DvAll.get (i := i) (d := d) t (by simpa using e)
    exact ⟨u, by simpa using h1, h2⟩
theorem DvAll.append : ∀ {xs ys : List V} {us ws : List D}, DvAll K G xs us → DvAll K G ys ws → DvAll K G (xs ++ ys) (us ++ ws)
  | _, _, _, _, .nil, s => s
  | _, _, _, _, .cons r t, s => .cons r (DvAll.append t s)
theorem DvAll.take : ∀ {xs : List V} {us : List D} (n : Nat), DvAll K G xs us → DvAll K G (xs.take n) (us.take n)
  | _, _, 0, _ => .nil
  | _, _, _ + 1, .nil => .nil
  | _, _, n + 1, .cons r t => .cons r (DvAll.take n t)
theorem DvAll.drop : ∀ {xs : List V} {us : List D} (n : Nat), DvAll K G xs us → DvAll K G (xs.drop n) (us.drop n)
  | _, _, 0, r => r
  | _, _, _ + 1, .nil => .nil
  | _, _, n + 1, .cons _ t => DvAll.drop n t
theorem DvAll.set {x : V} {u : D} (r : Dv K G x u) : ∀ {xs : List V} {us : List D} (i : Nat), DvAll K G xs us → DvAll K G (xs.set i x) (us.set i u)
  | _, _, _, .nil => .nil
  | _, _, 0, .cons _ t => .cons r t
  | _, _, i + 1, .cons q t => .cons q (DvAll.set r i t)
theorem DvAll.eraseIdx : ∀ {xs : List V} {us : List D} (i : Nat), DvAll K G xs us → DvAll K G (xs.eraseIdx i) (us.eraseIdx i)
  | _, _, _, .nil => .nil
  | _, _, 0, .cons _ t => t
  | _, _, i + 1, .cons q t => .cons q (DvAll.eraseIdx i t)
theorem DvAll.one {v : V} {d : D} (h : Dv K G v d) : DvAll K G [v] [d] := .cons h .nil
theorem DvAll.inv1 {vs : List V} {d : D} (h : DvAll K G vs [d]) : ∃ v, vs = [v] ∧ Dv K G v d := by
  cases h with
  | cons a b => cases b; exact ⟨_, rfl, a⟩
theorem DvAll.of_ints : ∀ (ns : List Int), DvAll K G (ns.map V.int) (ns.map PyData.int)
  | [] => .nil
  | n :: ns => .cons (.int n) (DvAll.of_ints ns)
end
mutual
theorem Dv.dp {K : PySem.W.Frag} {G H : Hp} (e : Ex G H) : ∀ (d : D) (v : V), d.canLay0 = true → Dv K G v d → Dp K H v d
  | .none, _, _, h => by cases h; exact .non
  | .bool b, _, _, h => by cases h; exact .bl b
  | .int i, _, _, h => by cases h; exact .int i
  | .str x, _, _, h => by cases h; exact .str x
  | .list ds, _, c, h => by
    cases h with
    | lst a b => exact .lst (e.rl a).sq (Dv.dpAll e ds _ (by simpa [PyData.canLay0] using c) b)
  | .tuple ds, _, c, h => by
    cases h with
    | tup a b => exact .tup (e.n a).t (Dv.dpAll e ds _ (by simpa [PyData.canLay0] using c) b)
  | .dict _, _, c, _ => by simp [PyData.canLay0] at c
theorem Dv.dpAll {K : PySem.W.Frag} {G H : Hp} (e : Ex G H) : ∀ (ds : List D) (vs : List V), PyData.canLayAll0 ds = true → DvAll K G vs ds → DpAll K H vs ds
  | [], _, _, h => by cases h; exact .nil
  | d :: ds, _, c, h => by
    have c' : d.canLay0 = true ∧ PyData.canLayAll0 ds = true := by simpa [PyData.canLayAll0] using c
    cases h with
    | cons a b => exact .cons (Dv.dp e d _ c'.1 a) (Dv.dpAll e ds _ c'.2 b)
end
/-- an exception's field stands -/
def XD (K : PySem.W.Frag) (G : Hp) (d : Option Addr) (f : Option (Str × D)) : Prop := match f with
  | none => d = none
  | some (n, x) => ∃ a v, d = some a ∧ G a = some (.xd [(n, v)]) ∧ Dv K G v x
theorem XD.up {K : PySem.W.Frag} {G G' : Hp} {d : Option Addr} {f : Option (Str × D)} (h : XD K G d f) (e : Ex G G') : XD K G' d f := by
  cases f with
  | none => exact h
  | some p => obtain ⟨a, v, h1, h2, h3⟩ := h; exact ⟨a, v, h1, e _ _ h2, h3.up e⟩
def adr : V → List Addr
  | .ref a => [a]
  | _ => []
def lstOf (H : Hp) : V → List V
  | .ref a => match H a with
    | some (.lst vs) => vs
    | _ => []
  | _ => []
def dkOf (H : Hp) : V → List V
  | .ref a => match H a with
    | some (.dK kvs) => kvs.map (·.2)
    | _ => []
  | _ => []
def insOf (H : Hp) : V → List V
  | .ref a => match H a with
    | some (.ins _ _ fs) => fs.map (·.2)
    | _ => []
  | _ => []
def dxOf (H : Hp) : V → List Addr
  | .ref a => match H a with
    | some (.ins _ dx _) => [dx]
    | _ => []
  | _ => []
mutual
/-- the addresses that a thing takes up -/
def reach (H : Hp) : V → Tr → List Addr
  | _, .d _ => []
  | v, .n _ => adr v
  | v, .l xs => adr v ++ reachL H (lstOf H v) xs
  | v, .k kvs => adr v ++ reachK H (dkOf H v) kvs
  | v, .o _ fs => adr v ++ (dxOf H v ++ reachK H (insOf H v) fs)
  | _, .w => []
def reachL (H : Hp) : List V → List Tr → List Addr
  | v :: vs, t :: ts => reach H v t ++ reachL H vs ts
  | _, _ => []
def reachK (H : Hp) : List V → List (Str × Tr) → List Addr
  | v :: vs, (_, t) :: ts => reach H v t ++ reachK H vs ts
  | _, _ => []
end
mutual
/-- a thing stands at v -/
def TreeAt (K : PySem.W.Frag) (G H : Hp) : V → Tr → Prop
  | v, .d x => Dv K G v x
  | v, .n kvs => ∃ a, v = .ref a ∧ H a = some (hoLf a (oV kvs))
  | v, .l xs => ∃ a vs, v = .ref a ∧ H a = some (.lst vs) ∧ TreesAt K G H vs xs
  | v, .k kvs => ∃ a ws, v = .ref a ∧ H a = some (.dK ws) ∧ ws.map (·.1) = kvs.map (fun p => Sum.inr p.1) ∧ TreesK K G H (ws.map (·.2)) kvs
  | v, .o c fs => ∃ a dx ws, v = .ref a ∧ H a = some (.ins (He.ga K c) dx ws) ∧ H dx = some (.own a) ∧ ws.map (·.1) = fs.map (·.1) ∧ TreesK K G H (ws.map (·.2)) fs
  | _, .w => True
def TreesAt (K : PySem.W.Frag) (G H : Hp) : List V → List Tr → Prop
  | [], [] => True
  | v :: vs, t :: ts => TreeAt K G H v t ∧ TreesAt K G H vs ts
  | _, _ => False
def TreesK (K : PySem.W.Frag) (G H : Hp) : List V → List (Str × Tr) → Prop
  | [], [] => True
  | v :: vs, (_, t) :: ts => TreeAt K G H v t ∧ TreesK K G H vs ts
  | _, _ => False
end
section
variable {K : PySem.W.Frag} {G H : Hp}
mutual
theorem tree_all : ∀ (t : Tr) (v : V), TreeAt K G H v t → ∀ a, a ∈ reach H v t → H a ≠ none
  | .w, v, h, a, ha => by simp [reach] at ha
  | .d x, v, h, a, ha => by simp [reach] at ha
  | .n kvs, v, h, a, ha => by
    simp only [TreeAt] at h
    obtain ⟨b, rfl, hb⟩ := h
    simp only [reach, adr, List.mem_singleton] at ha
    subst ha
    rw [hb]; exact fun z => nomatch z
  | .l xs, v, h, a, ha => by
    simp only [TreeAt] at h
    obtain ⟨b, vs, rfl, hb, ht⟩ := h
    simp only [reach, adr, lstOf, hb, List.mem_append, List.mem_singleton] at ha
    rcases ha with rfl | ha
    · rw [hb]; exact fun z => nomatch z
    · exact trees_all xs vs ht a ha
  | .k kvs, v, h, a, ha => by
    simp only [TreeAt] at h
    obtain ⟨b, ws, rfl, hb, _, ht⟩ := h
    simp only [reach, adr, dkOf, hb, List.mem_append, List.mem_singleton] at ha
    rcases ha with rfl | ha
    · rw [hb]; exact fun z => nomatch z
    · exact treesK_all kvs _ ht a ha
  | .o c fs, v, h, a, ha => by
    simp only [TreeAt] at h
    obtain ⟨b, dx, ws, rfl, hb, hd, _, ht⟩ := h
    simp only [reach, adr, insOf, dxOf, hb, List.mem_append, List.mem_singleton] at ha
    rcases ha with rfl | rfl | ha
    · rw [hb]; exact fun z => nomatch z
    · rw [hd]; exact fun z => nomatch z
    · exact treesK_all fs _ ht a ha
theorem trees_all : ∀ (ts : List Tr) (vs : List V), TreesAt K G H vs ts → ∀ a, a ∈ reachL H vs ts → H a ≠ none
  | [], [], _, a, ha => by simp [reachL] at ha
  | [], _ :: _, h, a, ha => by simp [reachL] at ha
  | _ :: _, [], h, a, ha => by simp [reachL] at ha
  | t :: ts, v :: vs, h, a, ha => by
    simp only [TreesAt] at h
    simp only [reachL, List.mem_append] at ha
    rcases ha with ha | ha
    · exact tree_all t v h.1 a ha
    · exact trees_all ts vs h.2 a ha
theorem treesK_all : ∀ (ts : List (Str × Tr)) (vs : List V), TreesK K G H vs ts → ∀ a, a ∈ reachK H vs ts → H a ≠ none
  | [], [], _, a, ha => by simp [reachK] at ha
  | [], _ :: _, h, a, ha => by simp [reachK] at ha
  | _ :: _, [], h, a, ha => by simp [reachK] at ha
  | (x, t) :: ts, v :: vs, h, a, ha => by
    simp only [TreesK] at h
    simp only [reachK, List.mem_append] at ha
    rcases ha with ha | ha
    · exact tree_all t v h.1 a ha
    · exact treesK_all ts vs h.2 a ha
end
variable {G' H' : Hp}
mutual
/-- where nothing of it is changed -/
theorem tree_keep (e : Ex G G') : ∀ (t : Tr) (v : V), TreeAt K G H v t → (∀ a, a ∈ reach H v t → H' a = H a) → TreeAt K G' H' v t ∧ reach H' v t = reach H v t
  | .w, v, h, _ => by simp only [TreeAt, reach, and_self]
  | .d x, v, h, _ => by
    simp only [TreeAt] at h ⊢
    exact ⟨h.up e, rfl⟩
  | .n kvs, v, h, k => by
    simp only [TreeAt] at h ⊢
    obtain ⟨b, rfl, hb⟩ := h
    have := k b (by simp [reach, adr])
    exact ⟨⟨b, rfl, by rw [this]; exact hb⟩, by simp only [reach, adr]⟩
  | .l xs, v, h, k => by
    simp only [TreeAt] at h ⊢
    obtain ⟨b, vs, rfl, hb, ht⟩ := h
    simp only [reach, adr, lstOf, hb, List.mem_append, List.mem_singleton] at k
    have kb := k b (.inl rfl)
    obtain ⟨h1, h2⟩ := trees_keep e xs vs ht fun a ha => k a (.inr ha)
    exact ⟨⟨b, vs, rfl, by rw [kb]; exact hb, h1⟩, by simp only [reach, adr, lstOf, kb, hb, h2]⟩
  | .k kvs, v, h, k => by
    simp only [TreeAt] at h ⊢
    obtain ⟨b, ws, rfl, hb, hk, ht⟩ := h
    simp only [reach, adr, dkOf, hb, List.mem_append, List.mem_singleton] at k
    have kb := k b (.inl rfl)
    obtain ⟨h1, h2⟩ := treesK_keep e kvs _ ht fun a ha => k a (.inr ha)
    exact ⟨⟨b, ws, rfl, by rw [kb]; exact hb, hk, h1⟩, by simp only [reach, adr, dkOf, kb, hb, h2]⟩
  | .o c fs, v, h, k => by
    simp only [TreeAt] at h ⊢
    obtain ⟨b, dx, ws, rfl, hb, hd, hk, ht⟩ := h
    simp only [reach, adr, insOf, dxOf, hb, List.mem_append, List.mem_singleton] at k
    have kb := k b (.inl rfl)
    have kd := k dx (.inr (.inl rfl))
    obtain ⟨h1, h2⟩ := treesK_keep e fs _ ht fun a ha => k a (.inr (.inr ha))
    exact ⟨⟨b, dx, ws, rfl, by rw [kb]; exact hb, by rw [kd]; exact hd, hk, h1⟩, by simp only [reach, adr, insOf, dxOf, kb, hb, h2]⟩
theorem trees_keep (e : Ex G G') : ∀ (ts : List Tr) (vs : List V), TreesAt K G H vs ts → (∀ a, a ∈ reachL H vs ts → H' a = H a) → TreesAt K G' H' vs ts ∧ reachL H' vs ts = reachL H vs ts
  | [], [], _, _ => by simp [TreesAt, reachL]
  | [], _ :: _, h, _ => by simp [TreesAt] at h
  | _ :: _, [], h, _ => by simp [TreesAt] at h
  | t :: ts, v :: vs, h, k => by
    simp only [TreesAt] at h ⊢
    simp only [reachL, List.mem_append] at k
    obtain ⟨a1, a2⟩ := tree_keep e t v h.1 fun a ha => k a (.inl ha)
    obtain ⟨b1, b2⟩ := trees_keep e ts vs h.2 fun a ha => k a (.inr ha)
    exact ⟨⟨a1, b1⟩, by simp only [reachL, a2, b2]⟩
theorem treesK_keep (e : Ex G G') : ∀ (ts : List (Str × Tr)) (vs : List V), TreesK K G H vs ts → (∀ a, a ∈ reachK H vs ts → H' a = H a) → TreesK K G' H' vs ts ∧ reachK H' vs ts = reachK H vs ts
  | [], [], _, _ => by simp [TreesK, reachK]
  | [], _ :: _, h, _ => by simp [TreesK] at h
  | _ :: _, [], h, _ => by simp [TreesK] at h
  | (x, t) :: ts, v :: vs, h, k => by
    simp only [TreesK] at h ⊢
    simp only [reachK, List.mem_append] at k
    obtain ⟨a1, a2⟩ := tree_keep e t v h.1 fun a ha => k a (.inl ha)
    obtain ⟨b1, b2⟩ := treesK_keep e ts vs h.2 fun a ha => k a (.inr ha)
    exact ⟨⟨a1, b1⟩, by simp only [reachK, a2, b2]⟩
end
end
/-- a thing of one's own stands at a slot's value -/
def TSl (K : PySem.W.Frag) (G H : Hp) (T : Tr) (o : Option V) : Prop := ∃ v, o = some v ∧ TreeAt K G H v T ∧ (reach H v T).Nodup ∧ ∀ a, a ∈ reach H v T → G a = none
/-- what a slot's word says of its value -/
def RS (K : PySem.W.Frag) (G H : Hp) (s : Sl) (o : Option V) : Prop := match s with
  | .no => True
  | .v d => ∃ v, o = some v ∧ Dv K G v d
  | .l xs => ∃ a vs, o = some (.ref a) ∧ H a = some (.lst vs) ∧ G a = none ∧ DvAll K G vs xs
  | .p xs => ∃ a vs, o = some (.ref a) ∧ H a = some (.lst vs) ∧ G a = none ∧ DvAll K G vs xs
  | .m kvs => ∃ a vs, o = some (.ref a) ∧ H a = some (.dK vs) ∧ G a = none ∧ DvKv K G vs kvs
  | .n kvs => ∃ a, o = some (.ref a) ∧ G a = some (hoLf a (kvs.map fun kv => (kv.1, oiV kv.2)))
  | .f x => o = some (.ref (He.ga K x))
  | .a b d f => o = some (.ref b) ∧ XD K G d f
  | .t T => TSl K G H T o
  | .u T => TSl K G H T o
/-- what a slot owns -/
def OwnS (H : Hp) (s : Sl) (o : Option V) (a : Addr) : Prop := match s with
  | .l _ => o = some (.ref a)
  | .p _ => o = some (.ref a)
  | .m _ => o = some (.ref a)
  | .t T => ∃ v, o = some v ∧ a ∈ reach H v T
  | .u T => ∃ v, o = some v ∧ a ∈ reach H v T
  | _ => False
/-- slot i owns the object at a -/
def OwnAt (env : DEnv) (σ : St) (H : Hp) (i : Nat) (a : Addr) : Prop := ∃ s o, env[i]? = some s ∧ σ[i]? = some o ∧ OwnS H s o a
def Own (env : DEnv) (σ : St) (H : Hp) (a : Addr) : Prop := ∃ i, OwnAt env σ H i a
theorem OwnS.lst {H : Hp} {s : Sl} {a : Addr} (h : s.lst = true) : OwnS H s (some (.ref a)) a := by cases s <;> first | rfl | cases h
theorem OwnS.own {H : Hp} {s : Sl} {o : Option V} {a : Addr} (h : OwnS H s o a) : s.own = true := by cases s <;> first | rfl | exact h.elim
theorem OwnAt.of {env : DEnv} {σ : St} {H : Hp} {i : Nat} {a : Addr} {s : Sl} (e : env[i]? = some s) (h : s.lst = true) (o : σ[i]? = some (some (.ref a))) : OwnAt env σ H i a := ⟨s, _, e, o, OwnS.lst h⟩
/-- a slot where nothing of its own is changed -/
theorem RS.move {K : PySem.W.Frag} {G H G' H' : Hp} {s : Sl} {o : Option V} (h : RS K G H s o) (e : Ex G G') (k : ∀ a, OwnS H s o a → H' a = H a) (g : ∀ a, OwnS H s o a → G' a = none) : RS K G' H' s o ∧ ∀ a, OwnS H' s o a ↔ OwnS H s o a := by
  cases s with
  | no => exact ⟨trivial, fun _ => Iff.rfl⟩
  | v d => obtain ⟨v, q, h⟩ := h; exact ⟨⟨v, q, h.up e⟩, fun _ => Iff.rfl⟩
  | l xs => obtain ⟨a, vs, q, h1, h2, h3⟩ := h; exact ⟨⟨a, vs, q, by rw [k a q]; exact h1, g a q, h3.up e⟩, fun _ => Iff.rfl⟩
  | p xs => obtain ⟨a, vs, q, h1, h2, h3⟩ := h; exact ⟨⟨a, vs, q, by rw [k a q]; exact h1, g a q, h3.up e⟩, fun _ => Iff.rfl⟩
  | m xs => obtain ⟨a, vs, q, h1, h2, h3⟩ := h; exact ⟨⟨a, vs, q, by rw [k a q]; exact h1, g a q, h3.up e⟩, fun _ => Iff.rfl⟩
  | n xs => obtain ⟨a, q, h1⟩ := h; exact ⟨⟨a, q, e _ _ h1⟩, fun _ => Iff.rfl⟩
  | f x => exact ⟨h, fun _ => Iff.rfl⟩
  | a x _ _ => exact ⟨⟨h.1, h.2.up e⟩, fun _ => Iff.rfl⟩
  | t T =>
    obtain ⟨v, rfl, h1, h2, h3⟩ := h
    obtain ⟨k1, k2⟩ := tree_keep (K := K) e T v h1 fun a ha => k a ⟨v, rfl, ha⟩
    refine ⟨⟨v, rfl, k1, by rw [k2]; exact h2, fun a ha => g a ⟨v, rfl, by rw [← k2]; exact ha⟩⟩, fun a => ?_⟩
    show (∃ w, some v = some w ∧ a ∈ reach H' w T) ↔ ∃ w, some v = some w ∧ a ∈ reach H w T
    constructor <;> (rintro ⟨w, q, hw⟩; cases q; exact ⟨v, rfl, by first | (rw [← k2]; exact hw) | (rw [k2]; exact hw)⟩)
  | u T =>
    obtain ⟨v, rfl, h1, h2, h3⟩ := h
    obtain ⟨k1, k2⟩ := tree_keep (K := K) e T v h1 fun a ha => k a ⟨v, rfl, ha⟩
    refine ⟨⟨v, rfl, k1, by rw [k2]; exact h2, fun a ha => g a ⟨v, rfl, by rw [← k2]; exact ha⟩⟩, fun a => ?_⟩
    show (∃ w, some v = some w ∧ a ∈ reach H' w T) ↔ ∃ w, some v = some w ∧ a ∈ reach H w T
    constructor <;> (rintro ⟨w, q, hw⟩; cases q; exact ⟨v, rfl, by first | (rw [← k2]; exact hw) | (rw [k2]; exact hw)⟩)
/-- what is owned is there -/
theorem RS.there {K : PySem.W.Frag} {G H : Hp} {s : Sl} {o : Option V} (h : RS K G H s o) {a : Addr} (w : OwnS H s o a) : H a ≠ none ∧ G a = none := by
  have one : ∀ {b : Addr} {u : HO}, o = some (.ref b) → H b = some u → G b = none → o = some (.ref a) → H a ≠ none ∧ G a = none := fun {b u} e1 e2 e3 e4 => by
    rw [e1] at e4
    cases e4
    exact ⟨fun z => (by rw [z] at e2; cases e2), e3⟩
  cases s with
  | no => exact w.elim
  | v d => exact w.elim
  | n d => exact w.elim
  | f d => exact w.elim
  | a _ _ _ => exact w.elim
  | l xs => obtain ⟨b, vs, e1, e2, e3, _⟩ := h; exact one e1 e2 e3 w
  | p xs => obtain ⟨b, vs, e1, e2, e3, _⟩ := h; exact one e1 e2 e3 w
  | m xs => obtain ⟨b, vs, e1, e2, e3, _⟩ := h; exact one e1 e2 e3 w
  | t T =>
    obtain ⟨v, rfl, h1, _, h3⟩ := h
    obtain ⟨v', q, w⟩ := w
    cases q
    exact ⟨tree_all T v h1 a w, h3 a w⟩
  | u T =>
    obtain ⟨v, rfl, h1, _, h3⟩ := h
    obtain ⟨v', q, w⟩ := w
    cases q
    exact ⟨tree_all T v h1 a w, h3 a w⟩
structure Rel (K : PySem.W.Frag) (env : DEnv) (σ : St) (G H : Hp) : Prop where
  ex : Ex G H
  len : env.length = σ.length
  slot : ∀ (i : Nat) (s : Sl) (o : Option V), env[i]? = some s → σ[i]? = some o → RS K G H s o
  dist : ∀ (i j : Nat) (a : Addr), OwnAt env σ H i a → OwnAt env σ H j a → i = j
structure Fr (env : DEnv) (σ : St) (G H : Hp) (env' : DEnv) (σ' : St) (G' H' : Hp) : Prop where
  gg : Ex G G'
  keep : ∀ a o, H a = some o → ¬ Own env σ H a → H' a = some o
  dom : ∀ a, H' a = none → H a = none
  fresh : ∀ a, G' a ≠ none → G a ≠ none ∨ H a = none ∨ Own env σ H a
  own : ∀ a, Own env' σ' H' a → Own env σ H a ∨ H a = none
  par : ∀ (i : Nat) (s : Sl), env'[i]? = some s → s.pk ≠ 0 → σ'[i]? = σ[i]? ∧ ∃ s0, env[i]? = some s0 ∧ s0.pk = s.pk
theorem Fr.refl (env : DEnv) (σ : St) (G H : Hp) : Fr env σ G H env σ G H :=
  ⟨Ex.refl _, fun _ _ h _ => h, fun _ h => h, fun _ h => .inl h, fun _ h => .inl h, fun _ s h _ => ⟨rfl, s, h, rfl⟩⟩
theorem Fr.trans {e0 e1 e2 : DEnv} {s0 s1 s2 : St} {G0 G1 G2 H0 H1 H2 : Hp} (x : Fr e0 s0 G0 H0 e1 s1 G1 H1) (y : Fr e1 s1 G1 H1 e2 s2 G2 H2) : Fr e0 s0 G0 H0 e2 s2 G2 H2 where
  gg := x.gg.trans y.gg
  keep := fun a o h n => y.keep a o (x.keep a o h n) fun q => by
    rcases x.own a q with q | q
    · exact n q
    · rw [q] at h; cases h
  dom := fun a h => x.dom a (y.dom a h)
  fresh := fun a h => by
    rcases y.fresh a h with q | q | q
    · exact x.fresh a q
    · exact .inr (.inl (x.dom a q))
    · rcases x.own a q with q | q
      · exact .inr (.inr q)
      · exact .inr (.inl q)
  own := fun a h => by
    rcases y.own a h with q | q
    · exact x.own a q
    · exact .inr (x.dom a q)
  par := fun i s h n => by
    obtain ⟨a, t, b, c⟩ := y.par i s h n
    obtain ⟨a2, t2, b2, c2⟩ := x.par i t b (by rw [c]; exact n)
    exact ⟨a.trans a2, t2, b2, c2.trans c⟩
theorem OwnAt.there {K : PySem.W.Frag} {env : DEnv} {σ : St} {G H : Hp} (R : Rel K env σ G H) {i : Nat} {a : Addr} (h : OwnAt env σ H i a) : H a ≠ none ∧ G a = none := by
  obtain ⟨s, o, e, q, w⟩ := h
  exact (R.slot i s o e q).there w
theorem Own.there {K : PySem.W.Frag} {env : DEnv} {σ : St} {G H : Hp} (R : Rel K env σ G H) {a : Addr} (h : Own env σ H a) : H a ≠ none ∧ G a = none := let ⟨_, q⟩ := h; q.there R
/-- what is owned stays owned where nothing of it is changed -/
theorem OwnAt.move {K : PySem.W.Frag} {env : DEnv} {σ : St} {G H G' H' : Hp} (R : Rel K env σ G H) {i : Nat} (e : Ex G G') (k : ∀ b, OwnAt env σ H i b → H' b = H b) (g : ∀ b, OwnAt env σ H i b → G' b = none) {a : Addr} : OwnAt env σ H' i a ↔ OwnAt env σ H i a := by
  constructor
  · rintro ⟨s, o, e1, e2, w⟩
    exact ⟨s, o, e1, e2, (((R.slot i s o e1 e2).move e (fun b hb => k b ⟨s, o, e1, e2, hb⟩) (fun b hb => g b ⟨s, o, e1, e2, hb⟩)).2 a).1 w⟩
  · rintro ⟨s, o, e1, e2, w⟩
    exact ⟨s, o, e1, e2, (((R.slot i s o e1 e2).move e (fun b hb => k b ⟨s, o, e1, e2, hb⟩) (fun b hb => g b ⟨s, o, e1, e2, hb⟩)).2 a).2 w⟩
/-- all slots stand where nothing of theirs is changed -/
theorem Rel.move {K : PySem.W.Frag} {env : DEnv} {σ : St} {G H G' H' : Hp} (R : Rel K env σ G H) (ex : Ex G' H') (e : Ex G G') (k : ∀ a, Own env σ H a → H' a = H a) (g : ∀ a, Own env σ H a → G' a = none) : Rel K env σ G' H' ∧ ∀ i a, OwnAt env σ H' i a ↔ OwnAt env σ H i a := by
  have m : ∀ i a, OwnAt env σ H' i a ↔ OwnAt env σ H i a := fun i a => OwnAt.move R e (fun b h => k b ⟨i, h⟩) fun b h => g b ⟨i, h⟩
  exact ⟨⟨ex, R.len, fun i s o e1 e2 => ((R.slot i s o e1 e2).move e (fun a w => k a ⟨i, s, o, e1, e2, w⟩) fun a w => g a ⟨i, s, o, e1, e2, w⟩).1, fun i j a x y => R.dist i j a ((m i a).1 x) ((m j a).1 y)⟩, m⟩
/-- only new things that stand still come -/
structure Grow (G H G' H' : Hp) : Prop where
  gg : Ex G G'
  hh : Ex H H'
  ex : Ex G' H'
  fresh : ∀ a, G' a ≠ none → G a ≠ none ∨ H a = none
theorem Grow.refl {G H : Hp} (e : Ex G H) : Grow G H G H := ⟨Ex.refl _, Ex.refl _, e, fun _ h => .inl h⟩
theorem Grow.one {G H : Hp} {p : Addr} {o : HO} (e : Ex G H) (h : H p = none) : Grow G H (upd G p o) (upd H p o) :=
  ⟨Ex.new (e.none h), Ex.new h, e.both, fun a q => by
    by_cases hp : a = p
    · subst hp; exact .inr h
    · rw [upd_ne hp] at q; exact .inl q⟩
theorem Grow.trans {G H G1 H1 G2 H2 : Hp} (a : Grow G H G1 H1) (b : Grow G1 H1 G2 H2) : Grow G H G2 H2 :=
  ⟨a.gg.trans b.gg, a.hh.trans b.hh, b.ex, fun x q => by
    rcases b.fresh x q with z | z
    · exact a.fresh x z
    · exact .inr (a.hh.none z)⟩
theorem Grow.nn {G H G' H' : Hp} (g : Grow G H G' H') {a : Addr} (h1 : H a ≠ none) (h2 : G a = none) : G' a = none := by
  cases q : G' a with
  | none => rfl
  | some z =>
    rcases g.fresh a (by rw [q]; exact fun z => by cases z) with y | y
    · exact absurd h2 y
    · exact absurd y h1
theorem Grow.hs {G H G' H' : Hp} (g : Grow G H G' H') {a : Addr} (h1 : H a ≠ none) : H' a = H a := by
  cases q : H a with
  | none => exact absurd q h1
  | some o => exact g.hh _ _ q
theorem RS.grow {K : PySem.W.Frag} {G H G' H' : Hp} (g : Grow G H G' H') {s : Sl} {o : Option V} (h : RS K G H s o) : RS K G' H' s o :=
  (h.move g.gg (fun a w => g.hs (h.there w).1) fun a w => g.nn (h.there w).1 (h.there w).2).1
theorem Rel.growO {K : PySem.W.Frag} {env : DEnv} {σ : St} {G H G' H' : Hp} (R : Rel K env σ G H) (g : Grow G H G' H') : Rel K env σ G' H' ∧ ∀ i a, OwnAt env σ H' i a ↔ OwnAt env σ H i a :=
  R.move g.ex g.gg (fun _ w => g.hs (w.there R).1) fun _ w => g.nn (w.there R).1 (w.there R).2
theorem Rel.grow {K : PySem.W.Frag} {env : DEnv} {σ : St} {G H G' H' : Hp} (R : Rel K env σ G H) (g : Grow G H G' H') : Rel K env σ G' H' := (R.growO g).1
theorem Grow.fr {K : PySem.W.Frag} {env : DEnv} {σ : St} {G H G' H' : Hp} (g : Grow G H G' H') (R : Rel K env σ G H) : Fr env σ G H env σ G' H' :=
  ⟨g.gg, fun a o h _ => g.hh a o h, fun a h => g.hh.none h, fun a h => (g.fresh a h).elim .inl fun z => .inr (.inl z), fun a h => .inl (let ⟨i, w⟩ := h; ⟨i, ((R.growO g).2 i a).1 w⟩), fun _ s h _ => ⟨rfl, s, h, rfl⟩⟩
/-- one slot is put otherwise -/
theorem Rel.put {K : PySem.W.Frag} {env : DEnv} {σ σ' : St} {G H G' H' : Hp} {i : Nat} {s1 : Sl} {o1 : Option V} (R : Rel K env σ G H) (li : i < env.length) (hl : σ'.length = σ.length) (hs : σ'[i]? = some o1) (hn : ∀ j, j ≠ i → σ'[j]? = σ[j]?) (ex : Ex G' H') (e : Ex G G')
    (k : ∀ j a, j ≠ i → OwnAt env σ H j a → H' a = H a ∧ G' a = none) (n : RS K G' H' s1 o1) (d : ∀ a, OwnS H' s1 o1 a → ∀ j, j ≠ i → ¬ OwnAt env σ H j a) :
    Rel K (env.set i s1) σ' G' H' ∧ (∀ a, OwnAt (env.set i s1) σ' H' i a ↔ OwnS H' s1 o1 a) ∧ ∀ j a, j ≠ i → (OwnAt (env.set i s1) σ' H' j a ↔ OwnAt env σ H j a) := by
  have m : ∀ a, OwnAt (env.set i s1) σ' H' i a ↔ OwnS H' s1 o1 a := fun a => by
    constructor
    · rintro ⟨s, o, e1, e2, w⟩
      rw [List.getElem?_set_self li] at e1
      rw [hs] at e2
      cases e1; cases e2
      exact w
    · exact fun w => ⟨_, _, List.getElem?_set_self li, hs, w⟩
  have m2 : ∀ j a, j ≠ i → (OwnAt (env.set i s1) σ' H' j a ↔ OwnAt env σ H j a) := fun j a ne => by
    rw [← OwnAt.move R (i := j) e (fun b h => (k j b ne h).1) (fun b h => (k j b ne h).2)]
    constructor
    · rintro ⟨s, o, e1, e2, w⟩
      rw [List.getElem?_set_ne (Ne.symm ne)] at e1
      rw [hn j ne] at e2
      exact ⟨s, o, e1, e2, w⟩
    · rintro ⟨s, o, e1, e2, w⟩
      exact ⟨s, o, by rw [List.getElem?_set_ne (Ne.symm ne)]; exact e1, by rw [hn j ne]; exact e2, w⟩
  refine ⟨⟨ex, by rw [List.length_set, hl]; exact R.len, fun j s o e1 e2 => ?_, fun j l a x y => ?_⟩, m, m2⟩
  · by_cases z : j = i
    · subst z
      rw [List.getElem?_set_self li] at e1
      rw [hs] at e2
      cases e1; cases e2
      exact n
    · rw [List.getElem?_set_ne (Ne.symm z)] at e1
      rw [hn j z] at e2
      exact ((R.slot j s o e1 e2).move e (fun a w => (k j a z ⟨s, o, e1, e2, w⟩).1) fun a w => (k j a z ⟨s, o, e1, e2, w⟩).2).1
  · by_cases z : j = i
    · subst z
      by_cases z2 : l = j
      · exact z2.symm
      · exact absurd ((m2 l a z2).1 y) (d a ((m a).1 x) l z2)
    · by_cases z2 : l = i
      · subst z2
        exact absurd ((m2 j a z).1 x) (d a ((m a).1 y) j z)
      · exact R.dist j l a ((m2 j a z).1 x) ((m2 l a z2).1 y)
theorem Fr.put {K : PySem.W.Frag} {env : DEnv} {σ σ' : St} {G H G' H' : Hp} {i : Nat} {s1 : Sl} {o1 : Option V} (R : Rel K env σ G H) (li : i < env.length) (hs : σ'[i]? = some o1) (hn : ∀ j, j ≠ i → σ'[j]? = σ[j]?) (e : Ex G G')
    (k : ∀ j a, j ≠ i → OwnAt env σ H j a → H' a = H a ∧ G' a = none) (keep : ∀ a o, H a = some o → ¬ Own env σ H a → H' a = some o) (dom : ∀ a, H' a = none → H a = none) (fresh : ∀ a, G' a ≠ none → G a ≠ none ∨ H a = none ∨ Own env σ H a)
    (own : ∀ a, OwnS H' s1 o1 a → Own env σ H a ∨ H a = none) (par : s1.pk ≠ 0 → σ'[i]? = σ[i]? ∧ ∃ s0, env[i]? = some s0 ∧ s0.pk = s1.pk) : Fr env σ G H (env.set i s1) σ' G' H' := by
  refine ⟨e, keep, dom, fresh, fun a ⟨j, w⟩ => ?_, fun j s h n => ?_⟩
  · obtain ⟨s, o, e1, e2, w⟩ := w
    by_cases z : j = i
    · subst z
      rw [List.getElem?_set_self li] at e1
      rw [hs] at e2
      cases e1; cases e2
      exact own a w
    · rw [List.getElem?_set_ne (Ne.symm z)] at e1
      rw [hn j z] at e2
      exact .inl ⟨j, (OwnAt.move R (i := j) e (fun b h => (k j b z h).1) (fun b h => (k j b z h).2)).1 ⟨s, o, e1, e2, w⟩⟩
  · by_cases z : j = i
    · subst z
      rw [List.getElem?_set_self li] at h
      cases h
      exact par n
    · rw [List.getElem?_set_ne (Ne.symm z)] at h
      exact ⟨hn j z, s, h, rfl⟩
/-- an exception by data -/
def XRel (K : PySem.W.Frag) (mg : Str → Option Value) (x : Xc) (cls : Value) (dd : Option Addr) (G H : Hp) : Prop :=
  mg x.c = some cls ∧ XD K G dd x.f
section
variable (K : PySem.W.Frag) (mg : Str → Option Value) (W : WX)
def RunX (env : DEnv) (σ : St) (G H : Hp) (x : Xc) (env' : DEnv) : Prop :=
  ∀ cls dd G' H', XRel K mg x cls dd G' H' → Rel K env' σ G' H' → Fr env σ G H env' σ G' H' → W cls dd σ H'
def RunE (env : DEnv) (σ : St) (G H : Hp) (r : Rs D) (Q : VK) : Prop := match r with
  | .ok d env' => ∀ v G' H', Rel K env' σ G' H' → Dv K G' v d → Fr env σ G H env' σ G' H' → Q v H'
  | .ex x env' => RunX K mg W env σ G H x env'
  | .stuck => False
def RunT (env : DEnv) (σ : St) (G H : Hp) (r : Rs Bool) (Q : Bool → Hp → Prop) : Prop := match r with
  | .ok b env' => ∀ G' H', Rel K env' σ G' H' → Fr env σ G H env' σ G' H' → Q b H'
  | .ex x env' => RunX K mg W env σ G H x env'
  | .stuck => False
def RunA (env : DEnv) (σ : St) (G H : Hp) (r : Rs (List D)) (Q : List V → Hp → Prop) : Prop := match r with
  | .ok ds env' => ∀ vs G' H', Rel K env' σ G' H' → DvAll K G' vs ds → Fr env σ G H env' σ G' H' → Q vs H'
  | .ex x env' => RunX K mg W env σ G H x env'
  | .stuck => False
/-- a list that nobody else holds -/
def RunL (env : DEnv) (σ : St) (G H : Hp) (r : Rs (List D)) (Q : VK) : Prop := match r with
  | .ok ds env' => ∀ a vs G' H', Rel K env' σ G' H' → H' a = some (.lst vs) → G' a = none → H a = none → ¬ Own env' σ H' a → DvAll K G' vs ds → Fr env σ G H env' σ G' H' → Q (.ref a) H'
  | .ex x env' => RunX K mg W env σ G H x env'
  | .stuck => False
def rdE (de : DE) : TE := fun σ H Q => ∃ env G, Rel K env σ G H ∧ RunE K mg W env σ G H (de env) Q
def rdT (de : DT) : TT := fun σ H Q => ∃ env G, Rel K env σ G H ∧ RunT K mg W env σ G H (de env) Q
def rdA (de : DA) : TA := fun σ H Q => ∃ env G, Rel K env σ G H ∧ RunA K mg W env σ G H (de env) Q
def rdL (de : DA) : TE := fun σ H Q => ∃ env G, Rel K env σ G H ∧ RunL K mg W env σ G H (de env) Q
end
section
variable {K : PySem.W.Frag} {mg : Str → Option Value} {W : WX} {env env1 : DEnv} {σ : St} {G H G1 H1 : Hp}
theorem RunX.shift {x : Xc} {env' : DEnv} (h : RunX K mg W env σ G H x env') (f : Fr env σ G H env1 σ G1 H1) : RunX K mg W env1 σ G1 H1 x env' :=
  fun cls dd G' H' a b c => h cls dd G' H' a b (f.trans c)
theorem RunE.shift {r : Rs D} {Q : VK} (h : RunE K mg W env σ G H r Q) (f : Fr env σ G H env1 σ G1 H1) : RunE K mg W env1 σ G1 H1 r Q := by
  cases r with
  | ok d e => exact fun v G' H' a b c => h v G' H' a b (f.trans c)
  | ex x e => exact RunX.shift h f
  | stuck => exact h
theorem RunT.shift {r : Rs Bool} {Q : Bool → Hp → Prop} (h : RunT K mg W env σ G H r Q) (f : Fr env σ G H env1 σ G1 H1) : RunT K mg W env1 σ G1 H1 r Q := by
  cases r with
  | ok d e => exact fun G' H' a c => h G' H' a (f.trans c)
  | ex x e => exact RunX.shift h f
  | stuck => exact h
theorem RunA.shift {r : Rs (List D)} {Q : List V → Hp → Prop} (h : RunA K mg W env σ G H r Q) (f : Fr env σ G H env1 σ G1 H1) : RunA K mg W env1 σ G1 H1 r Q := by
  cases r with
  | ok d e => exact fun v G' H' a b c => h v G' H' a b (f.trans c)
  | ex x e => exact RunX.shift h f
  | stuck => exact h
theorem RunL.shift {r : Rs (List D)} {Q : VK} (h : RunL K mg W env σ G H r Q) (f : Fr env σ G H env1 σ G1 H1) : RunL K mg W env1 σ G1 H1 r Q := by
  cases r with
  | ok d e => exact fun a vs G' H' R h1 h2 h3 h4 h5 h6 => h a vs G' H' R h1 h2 (f.dom a h3) h4 h5 (f.trans h6)
  | ex x e => exact RunX.shift h f
  | stuck => exact h
/-- an expression, then the rest -/
theorem E_then {de : DE} {β : Type} {f : D → DEnv → Rs β} {R : VK} (hR : Rel K env σ G H) {P : DEnv → St → Hp → Hp → Rs β → Prop}
    (h : P env σ G H ((de env).bind f)) (hx : ∀ x e, P env σ G H (.ex x e) → RunX K mg W env σ G H x e) (hst : ¬ P env σ G H .stuck)
    (hsh : ∀ e1 G1 H1 r, P env σ G H r → Fr env σ G H e1 σ G1 H1 → P e1 σ G1 H1 r)
    (k : ∀ d e1 v G1 H1, de env = .ok d e1 → Rel K e1 σ G1 H1 → Dv K G1 v d → Fr env σ G H e1 σ G1 H1 → P e1 σ G1 H1 (f d e1) → R v H1) : rdE K mg W de σ H R := by
  refine ⟨env, G, hR, ?_⟩
  cases q : de env with
  | ok d e1 =>
    rw [q] at h
    exact fun v G1 H1 a b c => k d e1 v G1 H1 q a b c (hsh _ _ _ _ h c)
  | ex x e => rw [q] at h; exact hx x e h
  | stuck => rw [q] at h; exact (hst h).elim
theorem E_thenE {de : DE} {f : D → DEnv → Rs D} {Q R : VK} (hR : Rel K env σ G H) (h : RunE K mg W env σ G H ((de env).bind f) Q)
    (k : ∀ d e1 v G1 H1, de env = .ok d e1 → Rel K e1 σ G1 H1 → Dv K G1 v d → Fr env σ G H e1 σ G1 H1 → RunE K mg W e1 σ G1 H1 (f d e1) Q → R v H1) : rdE K mg W de σ H R :=
  E_then hR (P := fun e s G H r => RunE K mg W e s G H r Q) h (fun _ _ z => z) (fun z => z) (fun _ _ _ _ a b => a.shift b) k
theorem E_thenT {de : DE} {f : D → DEnv → Rs Bool} {Q : Bool → Hp → Prop} {R : VK} (hR : Rel K env σ G H) (h : RunT K mg W env σ G H ((de env).bind f) Q)
    (k : ∀ d e1 v G1 H1, de env = .ok d e1 → Rel K e1 σ G1 H1 → Dv K G1 v d → Fr env σ G H e1 σ G1 H1 → RunT K mg W e1 σ G1 H1 (f d e1) Q → R v H1) : rdE K mg W de σ H R :=
  E_then hR (P := fun e s G H r => RunT K mg W e s G H r Q) h (fun _ _ z => z) (fun z => z) (fun _ _ _ _ a b => a.shift b) k
theorem E_thenA {de : DE} {f : D → DEnv → Rs (List D)} {Q : List V → Hp → Prop} {R : VK} (hR : Rel K env σ G H) (h : RunA K mg W env σ G H ((de env).bind f) Q)
    (k : ∀ d e1 v G1 H1, de env = .ok d e1 → Rel K e1 σ G1 H1 → Dv K G1 v d → Fr env σ G H e1 σ G1 H1 → RunA K mg W e1 σ G1 H1 (f d e1) Q → R v H1) : rdE K mg W de σ H R :=
  E_then hR (P := fun e s G H r => RunA K mg W e s G H r Q) h (fun _ _ z => z) (fun z => z) (fun _ _ _ _ a b => a.shift b) k
theorem E_thenL {de : DE} {f : D → DEnv → Rs (List D)} {Q R : VK} (hR : Rel K env σ G H) (h : RunL K mg W env σ G H ((de env).bind f) Q)
    (k : ∀ d e1 v G1 H1, de env = .ok d e1 → Rel K e1 σ G1 H1 → Dv K G1 v d → Fr env σ G H e1 σ G1 H1 → RunL K mg W e1 σ G1 H1 (f d e1) Q → R v H1) : rdE K mg W de σ H R :=
  E_then hR (P := fun e s G H r => RunL K mg W e s G H r Q) h (fun _ _ z => z) (fun z => z) (fun _ _ _ _ a b => a.shift b) k
theorem A_then {de : DA} {β : Type} {f : List D → DEnv → Rs β} {R : List V → Hp → Prop} (hR : Rel K env σ G H) {P : DEnv → St → Hp → Hp → Rs β → Prop}
    (h : P env σ G H ((de env).bind f)) (hx : ∀ x e, P env σ G H (.ex x e) → RunX K mg W env σ G H x e) (hst : ¬ P env σ G H .stuck)
    (hsh : ∀ e1 G1 H1 r, P env σ G H r → Fr env σ G H e1 σ G1 H1 → P e1 σ G1 H1 r)
    (k : ∀ d e1 v G1 H1, de env = .ok d e1 → Rel K e1 σ G1 H1 → DvAll K G1 v d → Fr env σ G H e1 σ G1 H1 → P e1 σ G1 H1 (f d e1) → R v H1) : rdA K mg W de σ H R := by
  refine ⟨env, G, hR, ?_⟩
  cases q : de env with
  | ok d e1 =>
    rw [q] at h
    exact fun v G1 H1 a b c => k d e1 v G1 H1 q a b c (hsh _ _ _ _ h c)
  | ex x e => rw [q] at h; exact hx x e h
  | stuck => rw [q] at h; exact (hst h).elim
theorem A_thenE {de : DA} {f : List D → DEnv → Rs D} {Q : VK} {R : List V → Hp → Prop} (hR : Rel K env σ G H) (h : RunE K mg W env σ G H ((de env).bind f) Q)
    (k : ∀ d e1 v G1 H1, de env = .ok d e1 → Rel K e1 σ G1 H1 → DvAll K G1 v d → Fr env σ G H e1 σ G1 H1 → RunE K mg W e1 σ G1 H1 (f d e1) Q → R v H1) : rdA K mg W de σ H R :=
  A_then hR (P := fun e s G H r => RunE K mg W e s G H r Q) h (fun _ _ z => z) (fun z => z) (fun _ _ _ _ a b => a.shift b) k
theorem A_thenA {de : DA} {f : List D → DEnv → Rs (List D)} {Q R : List V → Hp → Prop} (hR : Rel K env σ G H) (h : RunA K mg W env σ G H ((de env).bind f) Q)
    (k : ∀ d e1 v G1 H1, de env = .ok d e1 → Rel K e1 σ G1 H1 → DvAll K G1 v d → Fr env σ G H e1 σ G1 H1 → RunA K mg W e1 σ G1 H1 (f d e1) Q → R v H1) : rdA K mg W de σ H R :=
  A_then hR (P := fun e s G H r => RunA K mg W e s G H r Q) h (fun _ _ z => z) (fun z => z) (fun _ _ _ _ a b => a.shift b) k
theorem A_thenL {de : DA} {f : List D → DEnv → Rs (List D)} {Q : VK} {R : List V → Hp → Prop} (hR : Rel K env σ G H) (h : RunL K mg W env σ G H ((de env).bind f) Q)
    (k : ∀ d e1 v G1 H1, de env = .ok d e1 → Rel K e1 σ G1 H1 → DvAll K G1 v d → Fr env σ G H e1 σ G1 H1 → RunL K mg W e1 σ G1 H1 (f d e1) Q → R v H1) : rdA K mg W de σ H R :=
  A_then hR (P := fun e s G H r => RunL K mg W e s G H r Q) h (fun _ _ z => z) (fun z => z) (fun _ _ _ _ a b => a.shift b) k
theorem RunE.grow {d : D} {Q : VK} (h : RunE K mg W env σ G H (.ok d env) Q) (R : Rel K env σ G H) {v : V} (g : Grow G H G1 H1) (dp : Dv K G1 v d) : Q v H1 := h v G1 H1 (R.grow g) dp (g.fr R)
end
theorem pe_imp {X : Cx} {e : Expr} {t t' : TE} (h : PE X e t) (k : ∀ σ H Q, t' σ H Q → t σ H Q) : PE X e t' := ⟨fun pins s σ H Q I w => h.run pins s σ H Q I (k σ H Q w)⟩
theorem pt_imp {X : Cx} {e : Expr} {t t' : TT} (h : PT X e t) (k : ∀ σ H Q, t' σ H Q → t σ H Q) : PT X e t' := ⟨fun pins s σ H Q I w => h.run pins s σ H Q I (k σ H Q w)⟩
theorem pw_imp {X : Cx} {e : Expr} {t t' : TT} (h : PW X e t) (k : ∀ σ H Q, t' σ H Q → t σ H Q) : PW X e t' := ⟨fun wh pins s σ H Q I w => h.run wh pins s σ H Q I (k σ H Q w)⟩
theorem pa_imp {X : Cx} {e : List Expr} {t t' : TA} (h : PA X e t) (k : ∀ σ H Q, t' σ H Q → t σ H Q) : PA X e t' := ⟨fun pos pins s σ H Q I w => h.run pos pins s σ H Q I (k σ H Q w)⟩
theorem ps_imp {X : Cx} {e : Stmt} {t t' : TS} (h : PS X e t) (k : ∀ D σ H, t' D σ H → t D σ H) : PS X e t' := ⟨fun pins s σ H D I w => h.run pins s σ H D I (k D σ H w)⟩
theorem pss_imp {X : Cx} {e : List Stmt} {t t' : TS} (h : PSs X e t) (k : ∀ D σ H, t' D σ H → t D σ H) : PSs X e t' := ⟨fun pins s σ H D I w => h.run pins s σ H D I (k D σ H w)⟩
abbrev CE (X : Cx) (W : WX) (e : Expr) (de : DE) : Prop := PE X e (rdE X.K X.mg W de)
abbrev CT (X : Cx) (W : WX) (e : Expr) (de : DT) : Prop := PT X e (rdT X.K X.mg W de)
abbrev CW (X : Cx) (W : WX) (e : Expr) (de : DT) : Prop := PW X e (rdT X.K X.mg W de)
abbrev CA (X : Cx) (W : WX) (es : List Expr) (de : DA) : Prop := PA X es (rdA X.K X.mg W de)
abbrev CL (X : Cx) (W : WX) (e : Expr) (de : DA) : Prop := PE X e (rdL X.K X.mg W de)
end DL
set_option Elab.async false
set_option linter.all false
set_option maxRecDepth 100000
set_option autoImplicit false
namespace DL
open PySem L2
def eVar (i : Nat) : DE := fun env => match env[i]? with
  | some (.v d) => .ok d env
  | some (.l xs) => .ok (.list xs) (env.set i (.v (.list xs)))
  | some (.m xs) => .ok (.dict xs) (env.set i (.v (.dict xs)))
  | _ => .stuck
def eC (d : D) : DE := fun env => .ok d env
def eBin (f : D → D → Option D) (da db : DE) : DE := fun env => (da env).bind fun x e1 => (db e1).bind fun y e2 => put (f x y) e2
def eCB (f : List D → Option D) (da : DA) : DE := fun env => (da env).bind fun xs e1 => put (f xs) e1
def eCL (f : List D → Option (List D)) (da : DA) : DA := fun env => (da env).bind fun xs e1 => put (f xs) e1
def aNil : DA := fun env => .ok [] env
def aCons (de : DE) (da : DA) : DA := fun env => (de env).bind fun x e1 => (da e1).bind fun xs e2 => .ok (x :: xs) e2
def eTup (da : DA) : DE := fun env => (da env).bind fun xs e1 => if xs.length ≤ 100000 then .ok (.tuple xs) e1 else .stuck
def lLst (da : DA) : DA := fun env => (da env).bind fun xs e1 => if xs.length ≤ 100000 then .ok xs e1 else .stuck
/-- a new list that stands still from now on -/
def eLst (da : DA) : DE := fun env => (da env).bind fun xs e1 => .ok (.list xs) e1
def tTst (de : DE) : DT := fun env => (de env).bind fun d e1 => match d with
  | .bool b => .ok b e1
  | _ => .stuck
def tAndD (t u : DT) : DT := fun env => (t env).bind fun b e1 => if b then u e1 else .ok false e1
def tOrD (t u : DT) : DT := fun env => (t env).bind fun b e1 => if b then .ok true e1 else u e1
def tNotD (t : DT) : DT := fun env => (t env).bind fun b e1 => .ok (!b) e1
def eIf (t : DT) (da db : DE) : DE := fun env => (t env).bind fun b e1 => if b then da e1 else db e1
/-- and, or as values, all but the last True or False -/
def eAnd (da db : DE) : DE := fun env => (da env).bind fun x e1 => match x with
  | .bool true => db e1
  | .bool false => .ok (.bool false) e1
  | _ => .stuck
def eOr (da db : DE) : DE := fun env => (da env).bind fun x e1 => match x with
  | .bool true => .ok (.bool true) e1
  | .bool false => db e1
  | _ => .stuck
def eNot (da : DE) : DE := fun env => (da env).bind fun x e1 => match x with
  | .bool b => .ok (.bool (!b)) e1
  | _ => .stuck
def OpD (K : PySem.W.Frag) (r : R2) (f : D → D → Option D) : Prop := ∀ (x y : V) (d e z : D) (G H : Hp) (Q : VK), Dv K G x d → Dv K G y e → Ex G H → f d e = some z → (∀ v G' H', Dv K G' v z → Grow G H G' H' → Q v H') → r x y H Q
def CbD (K : PySem.W.Frag) (r : List V → Hp → VK → Prop) (f : List D → Option D) : Prop := ∀ (xs : List V) (ds : List D) (z : D) (G H : Hp) (Q : VK), DvAll K G xs ds → Ex G H → f ds = some z → (∀ v G' H', Dv K G' v z → Grow G H G' H' → Q v H') → r xs H Q
/-- a call that makes a new list -/
def ClD (K : PySem.W.Frag) (r : List V → Hp → VK → Prop) (f : List D → Option (List D)) : Prop := ∀ (xs : List V) (ds zs : List D) (G H : Hp) (Q : VK), DvAll K G xs ds → Ex G H → f ds = some zs →
  (∀ a vs, H a = none → DvAll K G vs zs → Q (.ref a) (upd H a (.lst vs))) → r xs H Q
def OlD (K : PySem.W.Frag) (r : R2) (f : D → D → Option (List D)) : Prop := ∀ (x y : V) (d e : D) (zs : List D) (G H : Hp) (Q : VK), Dv K G x d → Dv K G y e → Ex G H → f d e = some zs →
  (∀ a vs, H a = none → DvAll K G vs zs → Q (.ref a) (upd H a (.lst vs))) → r x y H Q
section
variable {K : PySem.W.Frag} {mg : Str → Option Value} {W : WX}
theorem OpD.or {r r' : R2} {f g : D → D → Option D} (h : OpD K r f) (h' : OpD K r' g) : OpD K (fun x y H Q => r x y H Q ∨ r' x y H Q) (fun x y => match f x y with | some z => some z | none => g x y) := by
  intro x y d e z G H Q hx hy ex hf k
  cases q : f d e with
  | some w =>
    simp only [q, Option.some.injEq] at hf
    subst hf
    exact .inl (h x y d e _ G H Q hx hy ex q k)
  | none =>
    simp only [q] at hf
    exact .inr (h' x y d e z G H Q hx hy ex hf k)
theorem CbD.or {r r' : List V → Hp → VK → Prop} {f g : List D → Option D} (h : CbD K r f) (h' : CbD K r' g) : CbD K (fun xs H Q => r xs H Q ∨ r' xs H Q) (fun xs => match f xs with | some z => some z | none => g xs) := by
  intro xs ds z G H Q hx ex hf k
  cases q : f ds with
  | some w =>
    simp only [q, Option.some.injEq] at hf
    subst hf
    exact .inl (h xs ds _ G H Q hx ex q k)
  | none =>
    simp only [q] at hf
    exact .inr (h' xs ds z G H Q hx ex hf k)
/-- the answer where it was asked -/
theorem RunE.put {env : DEnv} {σ : L2.St} {G H : Hp} {o : Option D} {Q : VK} (R : Rel K env σ G H) (h : RunE K mg W env σ G H (put o env) Q)
    : ∃ z, o = some z ∧ ∀ v G' H', Dv K G' v z → Grow G H G' H' → Q v H' := by
  cases o with
  | none => exact h.elim
  | some z => exact ⟨z, rfl, fun v G' H' dv g => h v G' H' (R.grow g) dv (g.fr R)⟩
theorem bin_ok {r : R2} {f : D → D → Option D} (o : OpD K r f) (da db : DE) (σ : L2.St) (H : Hp) (Q : VK) (h : rdE K mg W (eBin f da db) σ H Q) : tOp r (rdE K mg W da) (rdE K mg W db) σ H Q := by
  obtain ⟨env, G, R, h⟩ := h
  refine E_thenE R h fun d e1 v G1 H1 _ R1 dv F1 h1 => E_thenE R1 h1 fun d2 e2 v2 G2 H2 _ R2 dv2 F2 h2 => ?_
  obtain ⟨z, e, k⟩ := RunE.put R2 h2
  exact o v v2 d d2 z G2 H2 Q (dv.up F2.gg) dv2 R2.ex e k
theorem cb_ok {r : List V → Hp → VK → Prop} {f : List D → Option D} (o : CbD K r f) (da : DA) (σ : L2.St) (H : Hp) (Q : VK) (h : rdE K mg W (eCB f da) σ H Q) : tCB r (rdA K mg W da) σ H Q := by
  obtain ⟨env, G, R, h⟩ := h
  refine A_thenE R h fun d e1 v G1 H1 _ R1 dv F1 h1 => ?_
  obtain ⟨z, e, k⟩ := RunE.put R1 h1
  exact o v d z G1 H1 Q dv R1.ex e k
/-- a new list laid: it is nobody's -/
theorem Rel.laid1 {env : DEnv} {σ : L2.St} {G H : Hp} {a : Addr} {o : HO} (R : Rel K env σ G H) (ha : H a = none) : Rel K env σ G (upd H a o) ∧ ∀ i b, OwnAt env σ (upd H a o) i b ↔ OwnAt env σ H i b :=
  R.move (fun b u hb => (by rw [upd_ne (fun z => by subst z; rw [R.ex.none ha] at hb; cases hb)]; exact R.ex b u hb)) (Ex.refl _) (fun b w => upd_ne fun z => (by subst z; exact (w.there R).1 ha)) fun b w => (w.there R).2
theorem RunL.new {env : DEnv} {σ : L2.St} {G H : Hp} {zs : List D} {vs : List V} {Q : VK} {a : Addr} (R : Rel K env σ G H) (h : RunL K mg W env σ G H (.ok zs env) Q) (ha : H a = none) (dv : DvAll K G vs zs) : Q (.ref a) (upd H a (.lst vs)) := by
  have ga : G a = none := R.ex.none ha
  obtain ⟨R2, m⟩ := R.laid1 (o := .lst vs) ha
  refine h a vs G (upd H a (.lst vs)) R2 upd_same ga ha (fun ⟨i, w⟩ => (((m i a).1 w).there R).1 ha) dv
    ⟨Ex.refl _, fun b o hb _ => ?_, fun b hb => ?_, fun b hb => .inl hb, fun b ⟨i, w⟩ => .inl ⟨i, (m i b).1 w⟩, fun i s hi _ => ⟨rfl, s, hi, rfl⟩⟩
  · rw [upd_ne (fun z => by subst z; rw [ha] at hb; cases hb)]
    exact hb
  · by_cases z : b = a
    · subst z; exact ha
    · rw [upd_ne z] at hb; exact hb
theorem cl_ok {r : List V → Hp → VK → Prop} {f : List D → Option (List D)} (o : ClD K r f) (da : DA) (σ : L2.St) (H : Hp) (Q : VK) (h : rdL K mg W (eCL f da) σ H Q) : tCB r (rdA K mg W da) σ H Q := by
  obtain ⟨env, G, R, h⟩ := h
  refine A_thenL R h fun d e1 v G1 H1 _ R1 dv F1 h1 => ?_
  cases q : f d with
  | none => rw [q] at h1; exact h1.elim
  | some zs =>
    rw [q] at h1
    exact o v d zs G1 H1 Q dv R1.ex q fun a vs ha dz => RunL.new R1 h1 ha dz
def eBinL (f : D → D → Option (List D)) (da db : DE) : DA := fun env => (da env).bind fun x e1 => (db e1).bind fun y e2 => put (f x y) e2
theorem binL_ok {r : R2} {f : D → D → Option (List D)} (o : OlD K r f) (da db : DE) (σ : L2.St) (H : Hp) (Q : VK) (h : rdL K mg W (eBinL f da db) σ H Q) : tOp r (rdE K mg W da) (rdE K mg W db) σ H Q := by
  obtain ⟨env, G, R, h⟩ := h
  refine E_thenL R h fun d e1 v G1 H1 _ R1 dv F1 h1 => E_thenL R1 h1 fun d2 e2 v2 G2 H2 _ R2 dv2 F2 h2 => ?_
  cases q : f d d2 with
  | none => rw [q] at h2; exact h2.elim
  | some zs =>
    rw [q] at h2
    exact o v v2 d d2 zs G2 H2 Q (dv.up F2.gg) dv2 R2.ex q fun a vs ha dz => RunL.new R2 h2 ha dz
/-- a thing of nobody's stands still from now on -/
theorem Rel.still {env : DEnv} {σ : L2.St} {G H : Hp} {a : Addr} {o : HO} (R : Rel K env σ G H) (h1 : H a = some o) (h2 : G a = none) (h4 : ¬ Own env σ H a) : Rel K env σ (upd G a o) H :=
  (R.move (fun b u hb => by
    by_cases z : b = a
    · subst z; rw [upd_same] at hb; rw [h1]; exact hb
    · rw [upd_ne z] at hb; exact R.ex b u hb) (Ex.new h2) (fun _ _ => rfl) fun b w => by rw [upd_ne fun z => (by subst z; exact h4 w)]; exact (w.there R).2).1
/-- a list of nobody's becomes data that stands still -/
theorem RunL.of {env : DEnv} {σ : L2.St} {G H : Hp} {r : Rs (List D)} {Q : VK} (h' : RunE K mg W env σ G H (r.bind fun xs e1 => .ok (.list xs) e1) Q) : RunL K mg W env σ G H r Q := by
  cases r with
  | stuck => exact h'
  | ex x e => exact h'
  | ok ds e1 =>
    intro a vs G' H' R' h1 h2 h3 h4 dv F
    refine h' (.ref a) (upd G' a (.lst vs)) H' (R'.still h1 h2 h4) (.lst (.of upd_same) (dv.up (Ex.new h2)))
      ⟨F.gg.trans (Ex.new h2), F.keep, F.dom, fun b hb => ?_, F.own, F.par⟩
    · by_cases z : b = a
      · subst z; exact .inr (.inl h3)
      · rw [upd_ne z] at hb; exact F.fresh b hb
theorem L_to_E {da : DA} (σ : L2.St) (H : Hp) (Q : VK) (h : rdE K mg W (eLst da) σ H Q) : rdL K mg W da σ H Q := by
  obtain ⟨env, G, R, h⟩ := h
  exact ⟨env, G, R, RunL.of h⟩
end
theorem freezeO {K : PySem.W.Frag} {env : DEnv} {σ : L2.St} {G H : Hp} {i : Nat} {s0 : Sl} {d0 : D} {a : Addr} {o0 : HO} (R : Rel K env σ G H) (hi : env[i]? = some s0) (hs0 : s0.lst = true)
    (ho : σ[i]? = some (some (.ref a))) (h1 : H a = some o0) (h2 : G a = none) (dv : Dv K (upd G a o0) (.ref a) d0) :
    Rel K (env.set i (.v d0)) σ (upd G a o0) H ∧ Fr env σ G H (env.set i (.v d0)) σ (upd G a o0) H := by
  have li : i < env.length := (List.getElem?_eq_some_iff.mp hi).1
  have owns : OwnAt env σ H i a := .of hi hs0 ho
  have k : ∀ j b, j ≠ i → OwnAt env σ H j b → H b = H b ∧ upd G a o0 b = none := fun j b ne w => ⟨rfl, by
    rw [upd_ne fun z => by subst z; exact ne (R.dist j i b w owns)]
    exact (w.there R).2⟩
  refine ⟨(R.put (s1 := .v d0) li rfl ho (fun _ _ => rfl) (fun b o hb => ?_) (Ex.new h2) k ⟨_, rfl, dv⟩ fun _ w => w.elim).1,
    Fr.put (s1 := .v d0) (o1 := some (.ref a)) R li ho (fun _ _ => rfl) (Ex.new h2) k (fun b o hb _ => hb) (fun b hb => hb) (fun b hb => ?_) (fun _ w => w.elim) fun z => absurd rfl z⟩
  · by_cases z : b = a
    · subst z; rw [upd_same] at hb; rw [h1]; exact hb
    · rw [upd_ne z] at hb; exact R.ex b o hb
  · by_cases z : b = a
    · subst z; exact .inr (.inr ⟨i, owns⟩)
    · rw [upd_ne z] at hb; exact .inl hb
theorem freeze {K : PySem.W.Frag} {env : DEnv} {σ : L2.St} {G H : Hp} {i : Nat} {xs : List D} (R : Rel K env σ G H) (hi : env[i]? = some (.l xs)) :
    ∃ a vs, σ[i]? = some (some (.ref a)) ∧ Rel K (env.set i (.v (.list xs))) σ (upd G a (.lst vs)) H ∧ Dv K (upd G a (.lst vs)) (.ref a) (.list xs) ∧ Fr env σ G H (env.set i (.v (.list xs))) σ (upd G a (.lst vs)) H := by
  have li2 : i < σ.length := by rw [← R.len]; exact (List.getElem?_eq_some_iff.mp hi).1
  have ho : σ[i]? = some σ[i] := List.getElem?_eq_getElem li2
  obtain ⟨a, vs, e, h1, h2, h3⟩ := R.slot i _ _ hi ho
  rw [e] at ho
  have dv : Dv K (upd G a (.lst vs)) (.ref a) (.list xs) := .lst (.of upd_same) (h3.up (Ex.new h2))
  obtain ⟨r1, r2⟩ := freezeO R hi rfl ho h1 h2 dv
  exact ⟨a, vs, ho, r1, dv, r2⟩
theorem freezeM {K : PySem.W.Frag} {env : DEnv} {σ : L2.St} {G H : Hp} {i : Nat} {xs : List (D × D)} (R : Rel K env σ G H) (hi : env[i]? = some (.m xs)) :
    ∃ a vs, σ[i]? = some (some (.ref a)) ∧ Rel K (env.set i (.v (.dict xs))) σ (upd G a (.dK vs)) H ∧ Dv K (upd G a (.dK vs)) (.ref a) (.dict xs) ∧ Fr env σ G H (env.set i (.v (.dict xs))) σ (upd G a (.dK vs)) H := by
  have li2 : i < σ.length := by rw [← R.len]; exact (List.getElem?_eq_some_iff.mp hi).1
  have ho : σ[i]? = some σ[i] := List.getElem?_eq_getElem li2
  obtain ⟨a, vs, e, h1, h2, h3⟩ := R.slot i _ _ hi ho
  rw [e] at ho
  have dv : Dv K (upd G a (.dK vs)) (.ref a) (.dict xs) := .dct (.inl upd_same) (h3.up (Ex.new h2))
  obtain ⟨r1, r2⟩ := freezeO R hi rfl ho h1 h2 dv
  exact ⟨a, vs, ho, r1, dv, r2⟩
section
variable {X : Cx} {W : WX} {a b e : Expr} {da db : DE} {pos : Pos}
theorem var_ok {K : PySem.W.Frag} {mg : Str → Option Value} {i : Nat} (σ : L2.St) (H : Hp) (Q : VK) (h : rdE K mg W (eVar i) σ H Q) : tVar i σ H Q := by
  obtain ⟨env, G, R, h⟩ := h
  unfold eVar at h
  cases q : env[i]? with
  | none => rw [q] at h; exact h.elim
  | some s =>
    rw [q] at h
    have li : i < σ.length := by rw [← R.len]; exact (List.getElem?_eq_some_iff.mp q).1
    have ho : σ[i]? = some σ[i] := List.getElem?_eq_getElem li
    cases s with
    | no => exact h.elim
    | p xs => exact h.elim
    | f x => exact h.elim
    | t x => exact h.elim
    | u x => exact h.elim
    | a x _ _ => exact h.elim
    | n _ => exact h.elim
    | m xs =>
      obtain ⟨a, vs, e1, R', dv, F⟩ := freezeM R q
      exact ⟨_, e1, h _ _ _ R' dv F⟩
    | v d =>
      obtain ⟨v, e, dv⟩ := R.slot i _ _ q ho
      rw [e] at ho
      exact ⟨v, ho, h v G H R dv (Fr.refl _ _ _ _)⟩
    | l xs =>
      obtain ⟨a, vs, e1, R', dv, F⟩ := freeze R q
      exact ⟨_, e1, h _ _ _ R' dv F⟩
theorem ce_var (i : Nat) {x : Str} (hN : X.N[i]? = some x := by rfl) (hv : Vis X.env.scope x := by first | exact Or.inl rfl | exact Or.inr (Or.inl rfl) | exact Or.inr (Or.inr rfl)) (hd : (x == ("__debug__" : Str)) = false := by decide)
    (hcd : (x == ("__classdict__" : Str)) = false := by decide) : CE X W (.Name x pos) (eVar i) := pe_imp (pe_var hN hv hd hcd) var_ok
theorem c_ok {K : PySem.W.Frag} {mg : Str → Option Value} {v : V} {d : D} (dv : ∀ G, Dv K G v d) (σ : L2.St) (H : Hp) (Q : VK) (h : rdE K mg W (eC d) σ H Q) : tC v σ H Q := by
  obtain ⟨env, G, R, h⟩ := h
  exact h v G H R (dv G) (Fr.refl _ _ _ _)
theorem ce_int {i : Int} {j : Nat} : CE X W (.Constant (.int i) j pos) (eC (.int i)) := pe_imp pe_int (c_ok fun _ => .int i)
theorem ce_bool {i : Bool} {j : Nat} : CE X W (.Constant (.bool i) j pos) (eC (.bool i)) := pe_imp pe_bl (c_ok fun _ => .bl i)
theorem ce_none {j : Nat} : CE X W (.Constant .none j pos) (eC .none) := pe_imp pe_non (c_ok fun _ => .non)
theorem ce_str {x : Str} {j : Nat} : CE X W (.Constant (.str x) j pos) (eC (.str x)) := pe_imp pe_str (c_ok fun _ => .str x)
/-- -n, written -/
theorem ce_neg {i : Int} {j : Nat} {p : Pos} : CE X W (.UnaryOp .USub (.Constant (.int i) j p) pos) (eC (.int (-i))) := pe_imp (pe_un un_neg pe_int) fun σ H Q h => by
  obtain ⟨env, G, R, h⟩ := h
  exact ⟨i, rfl, h _ G H R (.int _) (Fr.refl _ _ _ _)⟩
theorem ce_bin {op : Operator} {r : R2} {f : D → D → Option D} (ho : OpR X (binaryOp op) r) (o : OpD X.K r f) (ha : CE X W a da) (hb : CE X W b db) : CE X W (.BinOp a op b pos) (eBin f da db) := pe_imp (pe_op ho ha hb) (bin_ok o da db)
theorem cl_bin {op : Operator} {r : R2} {f : D → D → Option (List D)} (ho : OpR X (binaryOp op) r) (o : OlD X.K r f) (ha : CE X W a da) (hb : CE X W b db) : CL X W (.BinOp a op b pos) (eBinL f da db) := pe_imp (pe_op ho ha hb) (binL_ok o da db)
theorem ce_cmp {op : CmpOp} {r : R2} {f : D → D → Option D} (ho : OpR X (compareOp op) r) (o : OpD X.K r f) (ha : CE X W a da) (hb : CE X W b db) (hm : behindInMarks op b = false) : CE X W (.Compare a [op] [b] pos) (eBin f da db) := pe_imp (pe_cmpR ho ha hb hm) (bin_ok o da db)
theorem ce_ix {r : R2} {f : D → D → Option D} (hr : IxR X r) (o : OpD X.K r f) (ha : CE X W a da) (hb : CE X W b db) (hs : PlainIx b) : CE X W (.Subscript a b pos) (eBin f da db) := pe_imp (pe_ix hr ha hb hs) (bin_ok o da db)
theorem tst_ok {K : PySem.W.Frag} {mg : Str → Option Value} (de : DE) (σ : L2.St) (H : Hp) (Q : Bool → Hp → Prop) (h : rdT K mg W (tTst de) σ H Q) : rdE K mg W de σ H fun x H' => ∃ k, x = .bl k ∧ Q k H' := by
  obtain ⟨env, G, R, h⟩ := h
  refine E_thenT R h fun d e1 v G1 H1 _ R1 dv F1 h1 => ?_
  cases dv with
  | bl b => exact ⟨b, rfl, h1 G1 H1 R1 (Fr.refl _ _ _ _)⟩
  | non => exact h1.elim
  | int i => exact h1.elim
  | str i => exact h1.elim
  | lst _ _ => exact h1.elim
  | tup _ _ => exact h1.elim
  | dct _ _ => exact h1.elim
theorem ct_cmp {op : CmpOp} {r : R2} {f : D → D → Option D} (ho : OpR X (compareOp op) r) (o : OpD X.K r f) (ha : CE X W a da) (hb : CE X W b db) (hm : behindInMarks op b = false) : CT X W (.Compare a [op] [b] pos) (tTst (eBin f da db)) :=
  pt_imp (pt_cmpR ho ha hb hm) fun σ H Q h => bin_ok o da db σ H _ (tst_ok _ σ H Q h)
/-- an expression that gives True or False, as a test -/
theorem ct_val {e : Expr} {de : DE} (h : CE X W e de) (he : ∀ whole, isTrue e X.env whole = (do let v ← whole; standAt e.pos; holding [v] (truthy v)) := by intro _; rfl) : CT X W e (tTst de) := pt_imp (pt_val h he) fun σ H Q h => tst_ok _ σ H Q h
theorem T_then {K : PySem.W.Frag} {mg : Str → Option Value} {env : DEnv} {σ : L2.St} {G H : Hp} {dt : DT} {β : Type} {f : Bool → DEnv → Rs β} {R : Bool → Hp → Prop} (hR : Rel K env σ G H) {P : DEnv → L2.St → Hp → Hp → Rs β → Prop}
    (h : P env σ G H ((dt env).bind f)) (hx : ∀ x e, P env σ G H (.ex x e) → RunX K mg W env σ G H x e) (hst : ¬ P env σ G H .stuck)
    (hsh : ∀ e1 G1 H1 r, P env σ G H r → Fr env σ G H e1 σ G1 H1 → P e1 σ G1 H1 r)
    (k : ∀ d e1 G1 H1, dt env = .ok d e1 → Rel K e1 σ G1 H1 → Fr env σ G H e1 σ G1 H1 → P e1 σ G1 H1 (f d e1) → R d H1) : rdT K mg W dt σ H R := by
  refine ⟨env, G, hR, ?_⟩
  cases q : dt env with
  | ok d e1 =>
    rw [q] at h
    exact fun G1 H1 a c => k d e1 G1 H1 q a c (hsh _ _ _ _ h c)
  | ex x e => rw [q] at h; exact hx x e h
  | stuck => rw [q] at h; exact (hst h).elim
theorem T_thenT {K : PySem.W.Frag} {mg : Str → Option Value} {env : DEnv} {σ : L2.St} {G H : Hp} {dt : DT} {f : Bool → DEnv → Rs Bool} {Q R : Bool → Hp → Prop} (hR : Rel K env σ G H) (h : RunT K mg W env σ G H ((dt env).bind f) Q)
    (k : ∀ d e1 G1 H1, dt env = .ok d e1 → Rel K e1 σ G1 H1 → Fr env σ G H e1 σ G1 H1 → RunT K mg W e1 σ G1 H1 (f d e1) Q → R d H1) : rdT K mg W dt σ H R :=
  T_then hR (P := fun e s G H r => RunT K mg W e s G H r Q) h (fun _ _ z => z) (fun z => z) (fun _ _ _ _ a b => a.shift b) k
theorem T_thenE {K : PySem.W.Frag} {mg : Str → Option Value} {env : DEnv} {σ : L2.St} {G H : Hp} {dt : DT} {f : Bool → DEnv → Rs D} {Q : VK} {R : Bool → Hp → Prop} (hR : Rel K env σ G H) (h : RunE K mg W env σ G H ((dt env).bind f) Q)
    (k : ∀ d e1 G1 H1, dt env = .ok d e1 → Rel K e1 σ G1 H1 → Fr env σ G H e1 σ G1 H1 → RunE K mg W e1 σ G1 H1 (f d e1) Q → R d H1) : rdT K mg W dt σ H R :=
  T_then hR (P := fun e s G H r => RunE K mg W e s G H r Q) h (fun _ _ z => z) (fun z => z) (fun _ _ _ _ a b => a.shift b) k
variable {dt du : DT} {rest : List Expr}
theorem cw_and1 (ha : CT X W a dt) : CW X W (.BoolOp .And [a] pos) dt := pw_and1 ha
theorem cw_or1 (ha : CT X W a dt) : CW X W (.BoolOp .Or [a] pos) dt := pw_or1 ha
theorem cw_and (ha : CT X W a dt) (hb : CW X W (.BoolOp .And (b :: rest) pos) du) : CW X W (.BoolOp .And (a :: b :: rest) pos) (tAndD dt du) := pw_imp (pw_and ha hb) fun σ H Q h => by
  obtain ⟨env, G, R, h⟩ := h
  refine T_thenT R h fun d e1 G1 H1 _ R1 F1 h1 => ?_
  cases d with
  | true => exact ⟨e1, G1, R1, h1⟩
  | false => exact h1 G1 H1 R1 (Fr.refl _ _ _ _)
theorem cw_or (ha : CT X W a dt) (hb : CW X W (.BoolOp .Or (b :: rest) pos) du) : CW X W (.BoolOp .Or (a :: b :: rest) pos) (tOrD dt du) := pw_imp (pw_or ha hb) fun σ H Q h => by
  obtain ⟨env, G, R, h⟩ := h
  refine T_thenT R h fun d e1 G1 H1 _ R1 F1 h1 => ?_
  cases d with
  | true => exact h1 G1 H1 R1 (Fr.refl _ _ _ _)
  | false => exact ⟨e1, G1, R1, h1⟩
theorem ct_w (h : CW X W e dt) : CT X W e dt := PW.pt h
theorem ct_not (ha : CT X W a dt) : CT X W (.UnaryOp .Not a pos) (tNotD dt) := pt_imp (pt_not ha) fun σ H Q h => by
  obtain ⟨env, G, R, h⟩ := h
  exact T_thenT R h fun d e1 G1 H1 _ R1 F1 h1 => h1 G1 H1 R1 (Fr.refl _ _ _ _)
theorem ce_if {c : Expr} (hc : CT X W c dt) (ha : CE X W a da) (hb : CE X W b db) : CE X W (.IfExp c a b pos) (eIf dt da db) := pe_imp (pe_ifExp hc ha hb) fun σ H Q h => by
  obtain ⟨env, G, R, h⟩ := h
  refine T_thenE R h fun d e1 G1 H1 _ R1 F1 h1 => ?_
  cases d with
  | true => exact ⟨e1, G1, R1, h1⟩
  | false => exact ⟨e1, G1, R1, h1⟩
theorem ce_one {op : BoolOp} (h : CE X W a da) : CE X W (.BoolOp op [a] pos) da := pe_one h
theorem ce_and (ha : CE X W a da) (hb : CE X W (.BoolOp .And (b :: rest) pos) db) : CE X W (.BoolOp .And (a :: b :: rest) pos) (eAnd da db) := pe_imp (pe_and ha hb) fun σ H Q h => by
  obtain ⟨env, G, R, h⟩ := h
  refine E_thenE R h fun d e1 v G1 H1 _ R1 dv F1 h1 => ?_
  cases dv with
  | bl b =>
    cases b with
    | true => exact ⟨true, rfl, e1, G1, R1, h1⟩
    | false => exact ⟨false, rfl, h1 _ G1 H1 R1 (.bl false) (Fr.refl _ _ _ _)⟩
  | non => exact h1.elim
  | int i => exact h1.elim
  | str i => exact h1.elim
  | lst _ _ => exact h1.elim
  | tup _ _ => exact h1.elim
  | dct _ _ => exact h1.elim
theorem ce_or (ha : CE X W a da) (hb : CE X W (.BoolOp .Or (b :: rest) pos) db) : CE X W (.BoolOp .Or (a :: b :: rest) pos) (eOr da db) := pe_imp (pe_or ha hb) fun σ H Q h => by
  obtain ⟨env, G, R, h⟩ := h
  refine E_thenE R h fun d e1 v G1 H1 _ R1 dv F1 h1 => ?_
  cases dv with
  | bl b =>
    cases b with
    | false => exact ⟨false, rfl, e1, G1, R1, h1⟩
    | true => exact ⟨true, rfl, h1 _ G1 H1 R1 (.bl true) (Fr.refl _ _ _ _)⟩
  | non => exact h1.elim
  | int i => exact h1.elim
  | str i => exact h1.elim
  | lst _ _ => exact h1.elim
  | tup _ _ => exact h1.elim
  | dct _ _ => exact h1.elim
theorem ce_not (ha : CE X W a da) : CE X W (.UnaryOp .Not a pos) (eNot da) := pe_imp (pe_not ha) fun σ H Q h => by
  obtain ⟨env, G, R, h⟩ := h
  refine E_thenE R h fun d e1 v G1 H1 _ R1 dv F1 h1 => ?_
  cases dv with
  | bl b => exact ⟨b, rfl, h1 _ G1 H1 R1 (.bl _) (Fr.refl _ _ _ _)⟩
  | non => exact h1.elim
  | int i => exact h1.elim
  | str i => exact h1.elim
  | lst _ _ => exact h1.elim
  | tup _ _ => exact h1.elim
  | dct _ _ => exact h1.elim
variable {es : List Expr} {ds : DA}
theorem ca_nil : CA X W [] aNil := pa_imp pa_nil fun σ H Q h => by
  obtain ⟨env, G, R, h⟩ := h
  exact h [] G H R .nil (Fr.refl _ _ _ _)
theorem ca_cons (ha : CE X W e da) (hr : CA X W es ds) (hs : starEach (e :: es) X.env = (false, eval e X.env) :: starEach es X.env := by rfl) : CA X W (e :: es) (aCons da ds) := pa_imp (pa_cons ha hr hs) fun σ H Q h => by
  obtain ⟨env, G, R, h⟩ := h
  exact E_thenA R h fun d e1 v G1 H1 _ R1 dv F1 h1 => A_thenA R1 h1 fun d2 e2 v2 G2 H2 _ R2 dv2 F2 h2 => h2 (v :: v2) G2 H2 R2 (.cons (dv.up F2.gg) dv2) (Fr.refl _ _ _ _)
theorem ce_tup {k : Nat} (h : CA X W es ds) : CE X W (.Tuple es k pos) (eTup ds) := pe_imp (pe_tupF h) fun σ H Q h => by
  obtain ⟨env, G, R, h⟩ := h
  refine A_thenE R h fun d e1 v G1 H1 _ R1 dv F1 h1 => ?_
  split at h1
  · rename_i hz
    refine ⟨by rw [dv.length]; exact Nat.le_trans hz (by decide), fun p o hp hd => ?_⟩
    have g : Grow G1 H1 (upd G1 p (.frz o (.tup v))) (upd H1 p (.frz o (.tup v))) := Grow.one R1.ex hp
    exact h1 _ _ _ (R1.grow g) (.tup (.inl ⟨o, upd_same, hd⟩) (dv.up g.gg)) (g.fr R1)
  · exact h1.elim
theorem cl_lst (h : CA X W es ds) : CL X W (.List es pos) (lLst ds) := pe_imp (pe_lst h) fun σ H Q h => by
  obtain ⟨env, G, R, h⟩ := h
  refine A_thenL R h fun d e1 v G1 H1 _ R1 dv F1 h1 => ?_
  split at h1
  · rename_i hz
    exact ⟨by rw [dv.length]; exact Nat.le_trans hz (by decide), fun p hp => RunL.new R1 h1 hp dv⟩
  · exact h1.elim
theorem ce_lst {dl : DA} (h : CL X W e dl) : CE X W e (eLst dl) := pe_imp h fun σ H Q h => L_to_E σ H Q h
theorem ce_cb {r : List V → Hp → VK → Prop} {f : List D → Option D} {id : String} {x : Str} {p : Pos} (o : CbD X.K r f) (hc : CallR X (.builtin id) r) (hg : Gl X x) (hm : X.mg x = none) (hv : bootBuiltins x = some (.builtin id)) (ha : CA X W (e :: es) ds) (hn : x ≠ "__name__" := by decide) (hdb : (x == ("__debug__" : Str)) = false := by decide)
    (he : starEach (e :: es) X.env = (false, eval e X.env) :: starEach es X.env := by rfl) (hpl : (backTo pos (starEach es X.env)).any (·.1) = false := by rfl) : CE X W (.Call (.Name x p) (e :: es) [] pos) (eCB f ds) := pe_imp (pe_callB hc hg hm hv ha hn hdb he hpl) (cb_ok o ds)
theorem ce_ct {r : List V → Hp → VK → Prop} {f : List D → Option D} {T : String} {x : Str} {p : Pos} (o : CbD X.K r f) (hc : CallR X (.type T) r) (hg : Gl X x) (hm : X.mg x = none) (hv : bootBuiltins x = some (.type T)) (ha : CA X W (e :: es) ds) (hn : x ≠ "__name__" := by decide) (hdb : (x == ("__debug__" : Str)) = false := by decide)
    (he : starEach (e :: es) X.env = (false, eval e X.env) :: starEach es X.env := by rfl) (hpl : (backTo pos (starEach es X.env)).any (·.1) = false := by rfl) : CE X W (.Call (.Name x p) (e :: es) [] pos) (eCB f ds) := pe_imp (pe_callTy hc hg hm hv ha hn hdb he hpl) (cb_ok o ds)
theorem cl_ct {r : List V → Hp → VK → Prop} {f : List D → Option (List D)} {T : String} {x : Str} {p : Pos} (o : ClD X.K r f) (hc : CallR X (.type T) r) (hg : Gl X x) (hm : X.mg x = none) (hv : bootBuiltins x = some (.type T)) (ha : CA X W (e :: es) ds) (hn : x ≠ "__name__" := by decide) (hdb : (x == ("__debug__" : Str)) = false := by decide)
    (he : starEach (e :: es) X.env = (false, eval e X.env) :: starEach es X.env := by rfl) (hpl : (backTo pos (starEach es X.env)).any (·.1) = false := by rfl) : CL X W (.Call (.Name x p) (e :: es) [] pos) (eCL f ds) := pe_imp (pe_callTy hc hg hm hv ha hn hdb he hpl) (cl_ok o ds)
end
end DL
set_option Elab.async false
set_option linter.all false
set_option maxRecDepth 100000
set_option autoImplicit false
namespace DL
open PySem L2
/-- how a statement ends -/
inductive Fl where
  | nx (env : DEnv)
  | rt (d : D) (env : DEnv)
  | rl (xs : List D) (env : DEnv)
  | bk (env : DEnv)
  | ct (env : DEnv)
  | ex (x : Xc) (env : DEnv)
  | stuck
abbrev DS := DEnv → Fl
/-- an answer, then a statement's end -/
def Rs.fl {α : Type} (r : Rs α) (f : α → DEnv → Fl) : Fl := match r with
  | .ok a env => f a env
  | .ex x env => .ex x env
  | .stuck => .stuck
theorem fl_ok {α : Type} (a : α) (env : DEnv) (f : α → DEnv → Fl) : (Rs.ok a env).fl f = f a env := rfl
section
variable (K : PySem.W.Frag) (mg : Str → Option Value) (W : WX)
def RunXS (env : DEnv) (σ : L2.St) (G H : Hp) (x : Xc) (env' : DEnv) : Prop :=
  ∀ cls dd σ' G' H', XRel K mg x cls dd G' H' → Rel K env' σ' G' H' → Fr env σ G H env' σ' G' H' → W cls dd σ' H'
def RunS (env : DEnv) (σ : L2.St) (G H : Hp) (r : Fl) (E : Ends) : Prop := match r with
  | .nx e => ∀ σ' G' H', Rel K e σ' G' H' → Fr env σ G H e σ' G' H' → E.nx σ' H'
  | .bk e => ∀ σ' G' H', Rel K e σ' G' H' → Fr env σ G H e σ' G' H' → E.bk σ' H'
  | .ct e => ∀ σ' G' H', Rel K e σ' G' H' → Fr env σ G H e σ' G' H' → E.ct σ' H'
  | .rt d e => ∀ v σ' G' H', Rel K e σ' G' H' → Dv K G' v d → Fr env σ G H e σ' G' H' → E.rt v H'
  | .rl xs e => ∀ a vs σ' G' H', Rel K e σ' G' H' → H' a = some (.lst vs) → G' a = none → H a = none → ¬ Own e σ' H' a → DvAll K G' vs xs → Fr env σ G H e σ' G' H' → E.rt (.ref a) H'
  | .ex x e => RunXS K mg W env σ G H x e
  | .stuck => False
def rdS (ds : DS) : TS := fun E σ H => ∃ env G, Rel K env σ G H ∧ RunS K mg W env σ G H (ds env) E
end
section
variable {K : PySem.W.Frag} {mg : Str → Option Value} {W : WX} {env env1 : DEnv} {σ σ1 : L2.St} {G H G1 H1 : Hp}
theorem RunS.shift {r : Fl} {E : Ends} (h : RunS K mg W env σ G H r E) (f : Fr env σ G H env1 σ1 G1 H1) : RunS K mg W env1 σ1 G1 H1 r E := by
  cases r with
  | nx e => exact fun σ' G' H' a c => h σ' G' H' a (f.trans c)
  | bk e => exact fun σ' G' H' a c => h σ' G' H' a (f.trans c)
  | ct e => exact fun σ' G' H' a c => h σ' G' H' a (f.trans c)
  | rt d e => exact fun v σ' G' H' a b c => h v σ' G' H' a b (f.trans c)
  | rl xs e => exact fun a vs σ' G' H' R h1 h2 h3 h4 h5 h6 => h a vs σ' G' H' R h1 h2 (f.dom a h3) h4 h5 (f.trans h6)
  | ex x e => exact fun cls dd σ' G' H' a b c => h cls dd σ' G' H' a b (f.trans c)
  | stuck => exact h
theorem RunXS.toX {x : Xc} {e : DEnv} (h : RunXS K mg W env σ G H x e) : RunX K mg W env σ G H x e := fun cls dd G' H' a b c => h cls dd σ G' H' a b c
/-- an expression, then the rest of the statement -/
theorem E_thenS {de : DE} {f : D → DEnv → Fl} {E : Ends} {R : VK} (hR : Rel K env σ G H) (h : RunS K mg W env σ G H ((de env).fl f) E)
    (k : ∀ d e1 v G1 H1, de env = .ok d e1 → Rel K e1 σ G1 H1 → Dv K G1 v d → Fr env σ G H e1 σ G1 H1 → RunS K mg W e1 σ G1 H1 (f d e1) E → R v H1) : rdE K mg W de σ H R := by
  refine ⟨env, G, hR, ?_⟩
  cases q : de env with
  | ok d e1 =>
    rw [q] at h
    exact fun v G1 H1 a b c => k d e1 v G1 H1 q a b c (h.shift c)
  | ex x e => rw [q] at h; exact RunXS.toX h
  | stuck => rw [q] at h; exact h.elim
theorem L_thenS {de : DA} {f : List D → DEnv → Fl} {E : Ends} {R : VK} (hR : Rel K env σ G H) (h : RunS K mg W env σ G H ((de env).fl f) E)
    (k : ∀ ds e1 a vs G1 H1, de env = .ok ds e1 → Rel K e1 σ G1 H1 → H1 a = some (.lst vs) → G1 a = none → H a = none → ¬ Own e1 σ H1 a → DvAll K G1 vs ds → Fr env σ G H e1 σ G1 H1 → RunS K mg W env σ G H (f ds e1) E → R (.ref a) H1) : rdL K mg W de σ H R := by
  refine ⟨env, G, hR, ?_⟩
  cases q : de env with
  | ok d e1 =>
    rw [q] at h
    exact fun a vs G1 H1 a1 a2 a3 a4 a5 a6 c => k d e1 a vs G1 H1 q a1 a2 a3 a4 a5 a6 c h
  | ex x e => rw [q] at h; exact RunXS.toX h
  | stuck => rw [q] at h; exact h.elim
theorem T_thenS {dt : DT} {f : Bool → DEnv → Fl} {E : Ends} {R : Bool → Hp → Prop} (hR : Rel K env σ G H) (h : RunS K mg W env σ G H ((dt env).fl f) E)
    (k : ∀ d e1 G1 H1, dt env = .ok d e1 → Rel K e1 σ G1 H1 → Fr env σ G H e1 σ G1 H1 → RunS K mg W e1 σ G1 H1 (f d e1) E → R d H1) : rdT K mg W dt σ H R := by
  refine ⟨env, G, hR, ?_⟩
  cases q : dt env with
  | ok d e1 =>
    rw [q] at h
    exact fun G1 H1 a c => k d e1 G1 H1 q a c (h.shift c)
  | ex x e => rw [q] at h; exact RunXS.toX h
  | stuck => rw [q] at h; exact h.elim
/-- a name gets a value -/
theorem Rel.set {i : Nat} {s s0 : Sl} {v : V} (R : Rel K env σ G H) (hi : env[i]? = some s0) (hp : ∀ xs, s0 ≠ .p xs) (hr : RS K G H s (some v)) (hn : ∀ xs, s ≠ .p xs)
    (ho : s.own = true → ∀ a, OwnS H s (some v) a → ¬ Own env σ H a) : Rel K (env.set i s) (σ.set i (some v)) G H := by
  have li : i < env.length := (List.getElem?_eq_some_iff.mp hi).1
  exact (R.put li (List.length_set ..) (List.getElem?_set_self (by rw [← R.len]; exact li)) (fun j ne => List.getElem?_set_ne (Ne.symm ne)) R.ex (Ex.refl _) (fun j a _ w => ⟨rfl, (w.there R).2⟩) hr fun a w j _ w2 => ho w.own a w ⟨j, w2⟩).1
theorem Fr.set {i : Nat} {s s0 : Sl} {v : V} (R : Rel K env σ G H) (hi : env[i]? = some s0) (hp : ∀ xs, s0 ≠ .p xs) (hn : ∀ xs, s ≠ .p xs) (ho : s.own = false) : Fr env σ G H (env.set i s) (σ.set i (some v)) G H := by
  have li : i < env.length := (List.getElem?_eq_some_iff.mp hi).1
  refine Fr.put (s1 := s) (o1 := some v) R li (List.getElem?_set_self (by rw [← R.len]; exact li)) (fun j ne => List.getElem?_set_ne (Ne.symm ne)) (Ex.refl _) (fun j a _ w => ⟨rfl, (w.there R).2⟩) (fun _ _ h _ => h) (fun _ h => h) (fun _ h => .inl h) (fun a w => ?_) fun z => ?_
  · rw [w.own] at ho; cases ho
  · cases s <;> first | exact absurd rfl z | cases ho
/-- a name gets a thing that is new -/
theorem Fr.setN {env0 : DEnv} {σ0 : L2.St} {G0 H0 : Hp} {i : Nat} {s : Sl} {v : V} (R : Rel K env σ G H) (F : Fr env0 σ0 G0 H0 env σ G H) (li : i < env.length) (hn : ∀ a, OwnS H s (some v) a → H0 a = none) (hs : s.pk = 0) : Fr env0 σ0 G0 H0 (env.set i s) (σ.set i (some v)) G H := by
  refine ⟨F.gg, F.keep, F.dom, F.fresh, fun b ⟨j, t, o, e1, e2, w⟩ => ?_, fun j t hj n => ?_⟩
  · by_cases z : j = i
    · subst z
      rw [List.getElem?_set_self li] at e1
      rw [List.getElem?_set_self (by rw [← R.len]; exact li)] at e2
      cases e1; cases e2
      exact .inr (hn b w)
    · rw [List.getElem?_set_ne (Ne.symm z)] at e1 e2
      exact F.own b ⟨j, t, o, e1, e2, w⟩
  · by_cases z : j = i
    · subst z
      rw [List.getElem?_set_self li] at hj
      cases hj
      exact absurd hs n
    · rw [List.getElem?_set_ne (Ne.symm z)] at hj ⊢
      exact F.par j t hj n
end
/-- a name's slot may be stored to -/
def setV (i : Nat) (s : Sl) (env : DEnv) : Option DEnv := match env[i]? with
  | none => none
  | some (.p _) => none
  | some _ => some (env.set i s)
abbrev DG := D → DEnv → Option DEnv
def gN (i : Nat) : DG := fun d env => setV i (.v d) env
def gsN : List DG → List D → DEnv → Option DEnv
  | [], [], env => some env
  | g :: gs, d :: ds, env => (g d env).bind fun e => gsN gs ds e
  | _, _, _ => none
def gT (gs : List DG) : DG := fun d env => match d with
  | .tuple ds => gsN gs ds env
  | .list ds => gsN gs ds env
  | _ => none
/-- only slots of ws were stored to -/
def Tch (ws : List Nat) (σ σ' : L2.St) : Prop := σ'.length = σ.length ∧ ∀ j : Nat, j ∉ ws → σ'[j]? = σ[j]?
def rdG (K : PySem.W.Frag) (g : DG) (ws : List Nat) : TG := fun v σ H Q => ∃ env G d, Rel K env σ G H ∧ Dv K G v d ∧ ∃ env', g d env = some env' ∧ ∀ σ', Rel K env' σ' G H → Fr env σ G H env' σ' G H → Tch ws σ σ' → Q σ' H
def rdGs (K : PySem.W.Frag) (gs : List DG) (ws : List Nat) : TGs := fun vs σ H Q => ∃ env G ds, Rel K env σ G H ∧ DvAll K G vs ds ∧ ∃ env', gsN gs ds env = some env' ∧ ∀ σ', Rel K env' σ' G H → Fr env σ G H env' σ' G H → Tch ws σ σ' → Q σ' H
theorem pg_imp {X : Cx} {e : Expr} {t t' : TG} (h : PG X e t) (k : ∀ v σ H Q, t' v σ H Q → t v σ H Q) : PG X e t' := ⟨fun pins s σ H v u Q I r w => h.run pins s σ H v u Q I r (k v σ H Q w)⟩
theorem pgs_imp {X : Cx} {e : List Expr} {t t' : TGs} (h : PGs X e t) (k : ∀ v σ H Q, t' v σ H Q → t v σ H Q) : PGs X e t' := ⟨fun pins s σ H v u Q I r w => h.run pins s σ H v u Q I r (k v σ H Q w)⟩
theorem setV_some {i : Nat} {s : Sl} {env env' : DEnv} (h : setV i s env = some env') : ∃ s0, env[i]? = some s0 ∧ (∀ xs, s0 ≠ .p xs) ∧ env' = env.set i s := by
  unfold setV at h
  cases q : env[i]? with
  | none => rw [q] at h; cases h
  | some s0 =>
    rw [q] at h
    cases s0 with
    | p xs => cases h
    | u d => cases h; exact ⟨_, rfl, fun _ z => (nomatch z), rfl⟩
    | t d => cases h; exact ⟨_, rfl, fun _ z => (nomatch z), rfl⟩
    | no => cases h; exact ⟨_, rfl, fun _ z => (nomatch z), rfl⟩
    | v d => cases h; exact ⟨_, rfl, fun _ z => (nomatch z), rfl⟩
    | l d => cases h; exact ⟨_, rfl, fun _ z => (nomatch z), rfl⟩
    | n _ => cases h; exact ⟨_, rfl, fun _ z => (nomatch z), rfl⟩
    | m d => cases h; exact ⟨_, rfl, fun _ z => (nomatch z), rfl⟩
    | f d => cases h; exact ⟨_, rfl, fun _ z => (nomatch z), rfl⟩
    | a d _ _ => cases h; exact ⟨_, rfl, fun _ z => (nomatch z), rfl⟩
abbrev CG (X : Cx) (e : Expr) (g : DG) (ws : List Nat) : Prop := PG X e (rdG X.K g ws)
abbrev CGs (X : Cx) (es : List Expr) (gs : List DG) (ws : List Nat) : Prop := PGs X es (rdGs X.K gs ws)
section
variable {X : Cx} {W : WX} {pos : Pos}
theorem cg_name {i : Nat} {x : Str} (hN : X.N.Nodup) (hi : X.N[i]? = some x := by rfl) (hx : Loc X.env.scope x := by first | exact Or.inl rfl | exact Or.inr rfl) (hf : X.fn x = true ∨ X.env.scope.names.lookup x = some .local := by first | exact .inl rfl | exact .inr rfl | assumption) : CG X (.Name x pos) (gN i) [i] :=
  pg_imp (pg_name hN hi hx hf) fun v σ H Q h => by
    obtain ⟨env, G, d, R, dv, env', e, k⟩ := h
    obtain ⟨s0, e1, e2, rfl⟩ := setV_some e
    exact k _ (R.set e1 e2 ⟨v, rfl, dv⟩ (fun _ z => nomatch z) fun z => nomatch z) (Fr.set R e1 e2 (fun _ z => nomatch z) rfl) ⟨List.length_set, fun j hj => List.getElem?_set_ne (fun z => hj (by simp [z]))⟩
theorem cgs_nil : CGs X [] [] [] := pgs_imp pgs_nil fun v σ H Q h => by
  obtain ⟨env, G, ds, R, dv, env', e, k⟩ := h
  cases ds with
  | nil =>
    cases e
    cases dv
    exact ⟨rfl, k σ R (Fr.refl _ _ _ _) ⟨rfl, fun _ _ => rfl⟩⟩
  | cons d ds => cases e
theorem cgs_cons {e : Expr} {es : List Expr} {g : DG} {gs : List DG} {ws ws' : List Nat} (h1 : CG X e g ws) (h2 : CGs X es gs ws')
    (hs : (assignEach (e :: es) X.env).map (·.2) = assign e X.env :: (assignEach es X.env).map (·.2) := by rfl) : CGs X (e :: es) (g :: gs) (ws ++ ws') := pgs_imp (pgs_cons h1 h2 hs) fun v σ H Q h => by
  obtain ⟨env, G, ds, R, dv, env', e, k⟩ := h
  cases dv with
  | nil => cases e
  | @cons v1 vs d ds a b =>
    have e' : ((g d env).bind fun e => gsN gs ds e) = some env' := e
    cases q : g d env with
    | none => rw [q] at e'; cases e'
    | some e1 =>
      rw [q] at e'
      exact ⟨v1, vs, rfl, env, G, d, R, a, e1, q, fun σ1 R1 F1 T1 => ⟨e1, G, ds, R1, b, env', e', fun σ2 R2 F2 T2 => k σ2 R2 (F1.trans F2) ⟨T2.1.trans T1.1, fun j hj => (T2.2 j fun z => hj (List.mem_append_right _ z)).trans (T1.2 j fun z => hj (List.mem_append_left _ z))⟩⟩⟩
theorem pg_or {e : Expr} {t u : TG} (h1 : PG X e t) (h2 : PG X e u) : PG X e (fun v σ H Q => t v σ H Q ∨ u v σ H Q) := ⟨fun pins s σ H v w Q I r z => z.elim (fun z => h1.run pins s σ H v w Q I r z) fun z => h2.run pins s σ H v w Q I r z⟩
theorem gsN_len : ∀ {gs : List DG} {ds : List D} {env env' : DEnv}, gsN gs ds env = some env' → ds.length = gs.length
  | [], [], _, _, _ => rfl
  | g :: gs, d :: ds, env, env', h => by
    have h' : ((g d env).bind fun e => gsN gs ds e) = some env' := h
    cases q : g d env with
    | none => rw [q] at h'; cases h'
    | some e1 =>
      rw [q] at h'
      have := gsN_len (gs := gs) (ds := ds) (env := e1) (env' := env') h'
      simp [this]
  | [], _ :: _, _, _, h => by cases h
  | _ :: _, [], _, _, h => by cases h
theorem cg_tup {es : List Expr} {k : Nat} {gs : List DG} {ws : List Nat} (hc : X.calm = true) (h : CGs X es gs ws) (hn : (assignEach es X.env).length = gs.length := by rfl) (hst : (assignEach es X.env).findIdx? (·.1) = none := by rfl) : CG X (.Tuple es k pos) (gT gs) ws :=
  pg_imp (pg_or (pg_tup hc h hn hst) (pg_unl hc h hn hst)) fun v σ H Q w => by
    obtain ⟨env, G, d, R, dv, env', e, k⟩ := w
    cases dv with
    | @tup a xs ds h1 h2 => exact .inl ⟨a, xs, rfl, (R.ex.n h1).t, by rw [h2.length]; exact gsN_len e, env, G, ds, R, h2, env', e, k⟩
    | @lst a xs ds h1 h2 => exact .inr ⟨a, xs, rfl, (R.ex.rl h1).sq, by rw [h2.length]; exact gsN_len e, env, G, ds, R, h2, env', e, k⟩
    | non => cases e
    | bl b => cases e
    | int b => cases e
    | str b => cases e
    | dct _ _ => cases e
def sNx : DS := fun env => .nx env
def Fl.seq (r : Fl) (t : DS) : Fl := match r with
  | .nx e => t e
  | r => r
def sSeq (s t : DS) : DS := fun env => (s env).seq t
def sAsg (de : DE) (g : DG) : DS := fun env => (de env).fl fun d e1 => match g d e1 with
  | some e2 => .nx e2
  | none => .stuck
def sAsgL (i : Nat) (dl : DA) : DS := fun env => (dl env).fl fun xs e1 => match setV i (.l xs) e1 with
  | some e2 => .nx e2
  | none => .stuck
def sDrop (de : DE) : DS := fun env => (de env).fl fun _ e1 => .nx e1
def sRet (de : DE) : DS := fun env => (de env).fl fun d e1 => .rt d e1
def sRetL (dl : DA) : DS := fun env => (dl env).fl fun d e1 => .rl d e1
def sIf (t : DT) (s u : DS) : DS := fun env => (t env).fl fun b e1 => if b then s e1 else u e1
abbrev CS (X : Cx) (W : WX) (st : Stmt) (ds : DS) : Prop := PS X st (rdS X.K X.mg W ds)
abbrev CSs (X : Cx) (W : WX) (st : List Stmt) (ds : DS) : Prop := PSs X st (rdS X.K X.mg W ds)
variable {st : Stmt} {rest : List Stmt} {ds du : DS} {e : Expr} {de : DE}
theorem css_nil : CSs X W [] sNx := pss_imp pss_nil fun E σ H h => by
  obtain ⟨env, G, R, h⟩ := h
  exact h σ G H R (Fr.refl _ _ _ _)
theorem css_cons (h1 : CS X W st ds) (h2 : CSs X W rest du) : CSs X W (st :: rest) (sSeq ds du) := pss_imp (pss_cons h1 h2) fun E σ H h => by
  obtain ⟨env, G, R, h⟩ := h
  refine ⟨env, G, R, ?_⟩
  have h' : RunS X.K X.mg W env σ G H ((ds env).seq du) E := h
  cases q : ds env with
  | nx e1 =>
    rw [q] at h'
    exact fun σ' G' H' R' F' => ⟨e1, G', R', h'.shift F'⟩
  | bk e1 => rw [q] at h'; exact h'
  | ct e1 => rw [q] at h'; exact h'
  | rt d e1 => rw [q] at h'; exact h'
  | rl d e1 => rw [q] at h'; exact h'
  | ex d e1 => rw [q] at h'; exact h'
  | stuck => rw [q] at h'; exact h'
theorem css_one (h1 : CS X W st ds) : CSs X W [st] ds := pss_one h1
theorem asg_ok {K : PySem.W.Frag} {mg : Str → Option Value} {de : DE} {g : DG} {ws : List Nat} (E : Ends) (σ : L2.St) (H : Hp) (h : rdS K mg W (sAsg de g) E σ H) : tAsg (rdE K mg W de) (rdG K g ws) E σ H := by
  obtain ⟨env, G, R, h⟩ := h
  refine E_thenS R h fun d e1 v G1 H1 _ R1 dv F1 h1 => ?_
  cases q : g d e1 with
  | none => rw [q] at h1; exact h1.elim
  | some e2 =>
    rw [q] at h1
    exact ⟨e1, G1, d, R1, dv, e2, q, fun σ' R' F' _ => h1 σ' G1 H1 R' F'⟩
theorem cs_asg {tg : Expr} {g : DG} {ws : List Nat} (he : CE X W e de) (hg : CG X tg g ws) (hs : swapsWithSole [tg] e pos.line X.env = pure false := by rfl) (hw : swappedStores [tg] e X.env = pure none := by rfl)
    (h1 : (assignEach [tg] X.env).map (·.2) = [assign tg X.env] := by rfl) : CS X W (.Assign [tg] e pos) (sAsg de g) := ps_imp (ps_asg he hg hs hw h1) asg_ok
theorem cs_set {i : Nat} {x : Str} {pos' : Pos} (hN : X.N.Nodup) (he : CE X W e de) (hi : X.N[i]? = some x := by rfl) (hx : Loc X.env.scope x := by first | exact Or.inl rfl | exact Or.inr rfl) (hs : swapsWith e (some (.Name x pos')) pos.line X.env = pure false := by rfl) (hf : X.fn x = true ∨ X.env.scope.names.lookup x = some .local := by first | exact .inl rfl | exact .inr rfl | assumption) :
    CS X W (.Assign [.Name x pos'] e pos) (sAsg de (gN i)) := ps_imp (ps_set hN hi hx he hs hf) fun E σ H h => by
  obtain ⟨env, G, R, h⟩ := h
  refine E_thenS R h fun d e1 v G1 H1 _ R1 dv F1 h1 => ?_
  cases q : gN i d e1 with
  | none => rw [q] at h1; exact h1.elim
  | some e2 =>
    rw [q] at h1
    obtain ⟨s0, a1, a2, rfl⟩ := setV_some q
    exact h1 _ G1 H1 (R1.set a1 a2 ⟨v, rfl, dv⟩ (fun _ z => nomatch z) fun z => nomatch z) (Fr.set R1 a1 a2 (fun _ z => nomatch z) rfl)
theorem setL_ok {K : PySem.W.Frag} {mg : Str → Option Value} {i : Nat} {dl : DA} (E : Ends) (σ : L2.St) (H : Hp) (h : rdS K mg W (sAsgL i dl) E σ H) : tAsg (rdL K mg W dl) (gName i) E σ H := by
  obtain ⟨env, G, R, h⟩ := h
  refine L_thenS R h fun xs e1 a vs G1 H1 _ R1 h1 h2 h3 h4 dv F1 hk => ?_
  cases q : setV i (.l xs) e1 with
  | none => rw [q] at hk; exact hk.elim
  | some e2 =>
    rw [q] at hk
    obtain ⟨s0, a1, a2, rfl⟩ := setV_some q
    have li : i < e1.length := (List.getElem?_eq_some_iff.mp a1).1
    exact hk (σ.set i (some (.ref a))) G1 H1 (R1.set a1 a2 ⟨a, vs, rfl, h1, h2, dv⟩ (fun _ z => nomatch z) fun _ b hb => by cases hb; exact h4) (F1.setN R1 li (fun b hb => by cases hb; exact h3) rfl)
theorem cs_setL {i : Nat} {x : Str} {pos' : Pos} {dl : DA} (hN : X.N.Nodup) (he : CL X W e dl) (hi : X.N[i]? = some x := by rfl) (hx : Loc X.env.scope x := by first | exact Or.inl rfl | exact Or.inr rfl) (hs : swapsWith e (some (.Name x pos')) pos.line X.env = pure false := by rfl) (hf : X.fn x = true ∨ X.env.scope.names.lookup x = some .local := by first | exact .inl rfl | exact .inr rfl | assumption) :
    CS X W (.Assign [.Name x pos'] e pos) (sAsgL i dl) := ps_imp (ps_set hN hi hx he hs hf) setL_ok
theorem cs_drop (he : CE X W e de) (hs : swapsWith e none pos.line X.env = pure false := by rfl) : CS X W (.Expr e pos) (sDrop de) := ps_imp (ps_expr he hs) fun E σ H h => by
  obtain ⟨env, G, R, h⟩ := h
  exact E_thenS R h fun d e1 v G1 H1 _ R1 dv F1 h1 => h1 σ G1 H1 R1 (Fr.refl _ _ _ _)
theorem cs_ret (he : CE X W e de) : CS X W (.Return (some e) pos) (sRet de) := ps_imp (ps_ret he) fun E σ H h => by
  obtain ⟨env, G, R, h⟩ := h
  exact E_thenS R h fun d e1 v G1 H1 _ R1 dv F1 h1 => h1 v σ G1 H1 R1 dv (Fr.refl _ _ _ _)
theorem cs_retL {dl : DA} (he : CL X W e dl) : CS X W (.Return (some e) pos) (sRetL dl) := ps_imp (ps_ret he) fun E σ H h => by
  obtain ⟨env, G, R, h⟩ := h
  exact L_thenS R h fun xs e1 a vs G1 H1 _ R1 h1 h2 h3 h4 dv F1 hk => hk a vs σ G1 H1 R1 h1 h2 h3 h4 dv F1
theorem cs_if {c : Expr} {a b : List Stmt} {dt : DT} (hc : CT X W c dt) (ha : CSs X W a ds) (hb : CSs X W b du) : CS X W (.If c a b pos) (sIf dt ds du) := ps_imp (ps_if hc ha hb) fun E σ H h => by
  obtain ⟨env, G, R, h⟩ := h
  refine T_thenS R h fun d e1 G1 H1 _ R1 F1 h1 => ?_
  cases d with
  | true => exact ⟨e1, G1, R1, h1⟩
  | false => exact ⟨e1, G1, R1, h1⟩
/-- behind a turn -/
def Fl.turn (r : Fl) (k : DS) : Fl := match r with
  | .nx e2 => k e2
  | .ct e2 => k e2
  | .bk e2 => .nx e2
  | .rt d e2 => .rt d e2
  | .rl d e2 => .rl d e2
  | .ex x e2 => .ex x e2
  | .stuck => .stuck
def whileD (t : DT) (body : DS) : Nat → DS
  | 0 => fun _ => .stuck
  | n + 1 => fun env => (t env).fl fun b e1 => if b then (body e1).turn (whileD t body n) else .nx e1
theorem cs_while {c : Expr} {body : List Stmt} {dt : DT} {db : DS} (n : Nat) (hp : PassesOwn (model X.prog X.w) X.A X.env X.xe) (hc : CT X W c dt) (hb : CSs X W body db) : CS X W (.While c body [] pos) (whileD dt db n) := ps_imp (ps_while hp hc hb) fun E σ H h => by
  refine ⟨fun m σ H => rdS X.K X.mg W (whileD dt db m) E σ H, ⟨n, h⟩, fun m σ H h => ?_⟩
  obtain ⟨env, G, R, h⟩ := h
  cases m with
  | zero => exact h.elim
  | succ m =>
    refine T_thenS R h fun d e1 G1 H1 _ R1 F1 h1 => ?_
    cases d with
    | false => exact h1 σ G1 H1 R1 (Fr.refl _ _ _ _)
    | true =>
      refine ⟨fun σ' H' => rdS X.K X.mg W (whileD dt db m) E σ' H', fun σ' H' z => ⟨m, Nat.lt_succ_self m, z⟩, e1, G1, R1, ?_⟩
      have h1' : RunS X.K X.mg W e1 σ G1 H1 ((db e1).turn (whileD dt db m)) E := h1
      cases q : db e1 with
      | nx e2 => rw [q] at h1'; exact fun σ' G' H' R' F' => ⟨e2, G', R', h1'.shift F'⟩
      | ct e2 => rw [q] at h1'; exact fun σ' G' H' R' F' => ⟨e2, G', R', h1'.shift F'⟩
      | bk e2 => rw [q] at h1'; exact h1'
      | rt d e2 => rw [q] at h1'; exact h1'
      | rl d e2 => rw [q] at h1'; exact h1'
      | ex x e2 => rw [q] at h1'; exact h1'
      | stuck => rw [q] at h1'; exact h1'
/-- J gives ds, one by one, as long as G stands -/
def WalkD (K : PySem.W.Frag) (J : It) (ds : List D) (G : Hp) : Prop := ∀ (i : Nat) (G' H' : Hp), Ex G G' → Ex G' H' →
  (∀ d, ds[i]? = some d → J.go i H' ∧ ∀ x H'', J.yld i H' x H'' → ∃ G'', Grow G' H' G'' H'' ∧ Dv K G'' x d) ∧ (ds.length ≤ i → J.stop i H')
def RunI (K : PySem.W.Frag) (mg : Str → Option Value) (W : WX) (env : DEnv) (σ : L2.St) (G H : Hp) (r : Rs (List D)) (R : It → Hp → Prop) : Prop := match r with
  | .ok ds env' => ∀ J G' H', Rel K env' σ G' H' → WalkD K J ds G' → Fr env σ G H env' σ G' H' → R J H'
  | .ex x env' => RunX K mg W env σ G H x env'
  | .stuck => False
def rdI (K : PySem.W.Frag) (mg : Str → Option Value) (W : WX) (di : DA) : TI := fun σ H R => ∃ env G, Rel K env σ G H ∧ RunI K mg W env σ G H (di env) R
abbrev CI (X : Cx) (W : WX) (tg e : Expr) (di : DA) : Prop := PI X tg e (rdI X.K X.mg W di)
theorem pi_imp {tg e : Expr} {t t' : TI} (h : PI X tg e t) (k : ∀ σ H R, t' σ H R → t σ H R) : PI X tg e t' := ⟨fun pins s σ H R I w => h.run pins s σ H R I (k σ H R w)⟩
theorem pi_or {tg e : Expr} {t u : TI} (h1 : PI X tg e t) (h2 : PI X tg e u) : PI X tg e (fun σ H R => t σ H R ∨ u σ H R) := ⟨fun pins s σ H R I w => w.elim (fun z => h1.run pins s σ H R I z) fun z => h2.run pins s σ H R I z⟩
def forD (g : DG) (body : DS) : List D → DS
  | [] => fun env => .nx env
  | d :: ds => fun env => match g d env with
    | none => .stuck
    | some e1 => (body e1).turn (forD g body ds)
def sFor (di : DA) (g : DG) (body : DS) : DS := fun env => (di env).fl fun ds e1 => forD g body ds e1
theorem cs_for {tg iter : Expr} {body : List Stmt} {di : DA} {g : DG} {ws : List Nat} {db : DS} (hp : PassesOwn (model X.prog X.w) X.A X.env X.xe) (hc : X.calm = true) (hi : CI X W tg iter di) (hg : CG X tg g ws) (hb : CSs X W body db)
    (hs : ∀ x, foldedSetIterable iter X.env x = pure x := by intro _; rfl) : CS X W (.For tg iter body [] pos) (sFor di g db) := ps_imp (ps_for hp hc hi hg hb hs) fun E σ H h => by
  obtain ⟨env, G, R, h⟩ := h
  refine ⟨env, G, R, ?_⟩
  have h' : RunS X.K X.mg W env σ G H ((di env).fl fun ds e1 => forD g db ds e1) E := h
  cases q : di env with
  | ex x e => rw [q] at h'; exact RunXS.toX h'
  | stuck => rw [q] at h'; exact h'
  | ok xs e1 =>
    rw [q] at h'
    intro J G1 H1 R1 wk F1
    refine ⟨fun i m σ' H' => ∃ env' G', Rel X.K env' σ' G' H' ∧ Ex G1 G' ∧ RunS X.K X.mg W env' σ' G' H' (forD g db (xs.drop i) env') E ∧ m + i = xs.length,
      ⟨xs.length, e1, G1, R1, Ex.refl _, h'.shift F1, rfl⟩, ?_⟩
    rintro i m σ' H' ⟨env', G', R', ex', run, em⟩
    obtain ⟨w1, w2⟩ := wk i G' H' ex' R'.ex
    by_cases hi : i < xs.length
    · have hd : xs[i]? = some xs[i] := List.getElem?_eq_getElem hi
      obtain ⟨go, yl⟩ := w1 _ hd
      refine .inr ⟨go, fun σ2 H2 => ∃ env2 G2, Rel X.K env2 σ2 G2 H2 ∧ Ex G1 G2 ∧ RunS X.K X.mg W env2 σ2 G2 H2 (forD g db (xs.drop (i + 1)) env2) E, fun σ2 H2 ⟨env2, G2, r2, x2, s2⟩ => ⟨m - 1, by omega, env2, G2, r2, x2, s2, by omega⟩, fun x H'' y => ?_⟩
      obtain ⟨G'', gr, dv⟩ := yl x H'' y
      have run2 := run.shift (gr.fr R')
      rw [List.drop_eq_getElem_cons hi] at run2
      have run3 : RunS X.K X.mg W env' σ' G'' H'' (match g xs[i] env' with
        | none => .stuck
        | some e1 => (db e1).turn (forD g db (xs.drop (i + 1)))) E := run2
      cases q2 : g xs[i] env' with
      | none => rw [q2] at run3; exact run3.elim
      | some e2 =>
        rw [q2] at run3
        refine ⟨env', G'', xs[i], R'.grow gr, dv, e2, q2, fun σ2 R2 F2 _ => ⟨e2, G'', R2, ?_⟩⟩
        have run4 : RunS X.K X.mg W e2 σ2 G'' H'' ((db e2).turn (forD g db (xs.drop (i + 1)))) E := RunS.shift run3 F2
        cases q3 : db e2 with
        | nx e3 => rw [q3] at run4; exact fun σ3 G3 H3 R3 F3 => ⟨e3, G3, R3, (ex'.trans gr.gg).trans F3.gg, run4.shift F3⟩
        | ct e3 => rw [q3] at run4; exact fun σ3 G3 H3 R3 F3 => ⟨e3, G3, R3, (ex'.trans gr.gg).trans F3.gg, run4.shift F3⟩
        | bk e3 => rw [q3] at run4; exact run4
        | rt d e3 => rw [q3] at run4; exact run4
        | rl d e3 => rw [q3] at run4; exact run4
        | ex x e3 => rw [q3] at run4; exact run4
        | stuck => rw [q3] at run4; exact run4
    · have ei : xs.drop i = [] := List.drop_eq_nil_of_le (by omega)
      rw [ei] at run
      exact .inl ⟨w2 (by omega), run σ' G' H' R' (Fr.refl _ _ _ _)⟩
end
end DL
set_option Elab.async false
set_option linter.all false
set_option maxRecDepth 100000
set_option autoImplicit false
namespace DL
open PySem L2
def iSeq (de : DE) : DA := fun env => (de env).bind fun d e1 => match d with
  | .list xs => .ok xs e1
  | .tuple xs => .ok xs e1
  | _ => .stuck
def rngD (lo hi : Int) : List D := (List.range (hi - lo).toNat).map fun k => .int (lo + (k : Nat))
def int1 : List D → Option Int
  | [.int j] => some j
  | _ => none
theorem int1_some {ds : List D} {j : Int} (h : int1 ds = some j) : ds = [.int j] := by
  unfold int1 at h
  split at h
  · cases h; rfl
  · cases h
noncomputable def iRng1 (da : DA) : DA := fun env => (da env).bind fun ds e1 => match int1 ds with
  | some j => if I62 j then .ok (rngD 0 j) e1 else .stuck
  | none => .stuck
theorem walk_list {K : PySem.W.Frag} {G : Hp} {a : Addr} {xs : List V} {ds : List D} (h : RL K G a xs) (dv : DvAll K G xs ds) : WalkD K (Itl K a) ds G := fun i G' H' e1 e2 => by
  have hq : SqL K H' a xs := ((e1.trans e2).rl h).sq
  refine ⟨fun d hd => ?_, fun hl => ⟨xs, hq, by rw [dv.length]; exact hl⟩⟩
  obtain ⟨v, hv, dvv⟩ := dv.get hd
  refine ⟨⟨xs, v, hq, hv⟩, fun x H'' ⟨e, y⟩ => ?_⟩
  subst e
  have : x = v := Option.some.inj ((y xs hq).symm.trans hv)
  subst this
  exact ⟨G', Grow.refl e2, dvv.up e1⟩
theorem walk_tup {K : PySem.W.Frag} {G : Hp} {a : Addr} {xs : List V} {ds : List D} (h : SqT K G a xs) (dv : DvAll K G xs ds) : WalkD K (Itt K a) ds G := fun i G' H' e1 e2 => by
  have hq : SqT K H' a xs := (e1.trans e2).t h
  refine ⟨fun d hd => ?_, fun hl => ⟨xs, hq, by rw [dv.length]; exact hl⟩⟩
  obtain ⟨v, hv, dvv⟩ := dv.get hd
  refine ⟨⟨xs, v, hq, hv⟩, fun x H'' ⟨e, y⟩ => ?_⟩
  subst e
  have : x = v := Option.some.inj ((y xs hq).symm.trans hv)
  subst this
  exact ⟨G', Grow.refl e2, dvv.up e1⟩
theorem walk_rng {K : PySem.W.Frag} {G : Hp} (lo hi : Int) : WalkD K (Itr lo (hi - lo).toNat) (rngD lo hi) G := fun i G' H' e1 e2 => by
  have hl : (rngD lo hi).length = (hi - lo).toNat := by simp [rngD]
  refine ⟨fun d hd => ?_, fun hl' => by rw [hl] at hl'; exact hl'⟩
  obtain ⟨h1, h2⟩ := List.getElem?_eq_some_iff.mp hd
  have h1' : i < (hi - lo).toNat := by rw [← hl]; exact h1
  refine ⟨h1', fun x H'' ⟨e, y⟩ => ?_⟩
  subst e
  have ed : d = .int (lo + (i : Nat)) := by rw [← h2]; simp [rngD]
  subst ed
  rw [y]
  exact ⟨G', Grow.refl e2, .int _⟩
section
variable {X : Cx} {W : WX} {pos : Pos} {tg e : Expr} {de : DE}
theorem ci_seq (he : CE X W e de) : CI X W tg e (iSeq de) := pi_imp (pi_or (pi_list he) (pi_tup he)) fun σ H R h => by
  obtain ⟨env, G, R0, h⟩ := h
  have h' : RunI X.K X.mg W env σ G H ((de env).bind fun d e1 => match d with
    | .list xs => .ok xs e1
    | .tuple xs => .ok xs e1
    | _ => .stuck) R := h
  cases q : de env with
  | stuck => rw [q] at h'; exact h'.elim
  | ex x e => rw [q] at h'; exact .inl ⟨env, G, R0, by rw [q]; exact h'⟩
  | ok d e1 =>
    rw [q] at h'
    cases d with
    | list xs =>
      refine .inl ⟨env, G, R0, ?_⟩
      rw [q]
      intro v G1 H1 R1 dv F1
      cases dv with
      | lst a b => exact ⟨_, rfl, ⟨_, (R1.ex.rl a).sq⟩, h' _ G1 H1 R1 (walk_list a b) F1⟩
    | tuple xs =>
      refine .inr ⟨env, G, R0, ?_⟩
      rw [q]
      intro v G1 H1 R1 dv F1
      cases dv with
      | tup a b => exact ⟨_, rfl, ⟨_, (R1.ex.n a).t⟩, h' _ G1 H1 R1 (walk_tup a.t b) F1⟩
    | none => exact h'.elim
    | bool b => exact h'.elim
    | int b => exact h'.elim
    | str b => exact h'.elim
    | dict b => exact h'.elim
theorem A_thenI {K : PySem.W.Frag} {mg : Str → Option Value} {env : DEnv} {σ : L2.St} {G H : Hp} {da : DA} {f : List D → DEnv → Rs (List D)} {R : It → Hp → Prop} {R' : List V → Hp → Prop} (hR : Rel K env σ G H) (h : RunI K mg W env σ G H ((da env).bind f) R)
    (k : ∀ d e1 v G1 H1, da env = .ok d e1 → Rel K e1 σ G1 H1 → DvAll K G1 v d → Fr env σ G H e1 σ G1 H1 → RunI K mg W e1 σ G1 H1 (f d e1) R → R' v H1) : rdA K mg W da σ H R' :=
  A_then hR (P := fun e s G H r => RunI K mg W e s G H r R) h (fun _ _ z => z) (fun z => z) (fun e1 G1 H1 r a b => by
    cases r with
    | ok ds e => exact fun J G' H' x y z => a J G' H' x y (b.trans z)
    | ex x e => exact RunX.shift a b
    | stuck => exact a) k
theorem ci_range1 {a : Expr} {da : DA} {p : Pos} (hm : X.mg "range" = none) (ha : CA X W [a] da) (hg : Gl X "range" := by rfl) (hs : starEach [a] X.env = [(false, eval a X.env)] := by rfl) : CI X W tg (.Call (.Name "range" p) [a] [] pos) (iRng1 da) :=
  pi_imp (pi_range1 hg hm ha hs) fun σ H R h => by
    obtain ⟨env, G, R0, h⟩ := h
    refine A_thenI R0 h fun ds e1 vs G1 H1 q R1 dv F1 h1 => ?_
    cases q2 : int1 ds with
    | none => rw [q2] at h1; exact h1.elim
    | some j =>
      rw [q2] at h1
      have e := int1_some q2
      subst e
      obtain ⟨v, rfl, dv1⟩ := dv.inv1
      obtain rfl : v = .int j := by cases dv1; rfl
      by_cases c : I62 j
      · have h2 : RunI X.K X.mg W e1 σ G1 H1 (if I62 j then .ok (rngD 0 j) e1 else .stuck) R := h1
        rw [if_pos c] at h2
        have w := walk_rng (K := X.K) (G := G1) 0 j
        rw [Int.sub_zero] at w
        exact ⟨j, rfl, c.1, c.2, h2 _ G1 H1 R1 w (Fr.refl _ _ _ _)⟩
      · have h2 : RunI X.K X.mg W e1 σ G1 H1 (if I62 j then .ok (rngD 0 j) e1 else .stuck) R := h1
        rw [if_neg c] at h2
        exact h2.elim
end
def wipeD (env : DEnv) : List Nat → DEnv
  | [] => env
  | v :: vs => (wipeD env vs).set v .no
def mergeD (env0 env : DEnv) : List Nat → DEnv
  | [] => env
  | v :: vs => (mergeD env0 env vs).set v (env0.getD v .no)
def noOwn (env : DEnv) (vs : List Nat) : Bool := vs.all fun i => match env[i]? with
  | some s => !s.own
  | none => false
def compD (g : DG) (t : DT) (e : DE) (vs : List Nat) : List D → DA
  | [] => fun env => .ok [] env
  | d :: ds => fun env => match g d env with
    | none => .stuck
    | some e1 => (t e1).bind fun b e2 => if b then (e e2).bind fun y e3 => (compD g t e vs ds (wipeD e3 vs)).bind fun ys e4 => .ok (y :: ys) e4 else compD g t e vs ds (wipeD e2 vs)
def tYesD : DT := fun env => .ok true env
def lComp (di : DA) (g : DG) (t : DT) (e : DE) (vs : List Nat) : DA := fun env => (di env).bind fun ds e1 =>
  if ds.length ≤ 100000 ∧ noOwn e1 vs = true then match compD g t e vs ds (wipeD e1 vs) with
    | .ok ys e2 => .ok ys (mergeD e1 e2 vs)
    | _ => .stuck
  else .stuck
theorem wipe_get (σ : L2.St) (j : Nat) : ∀ vs : List Nat, (wipe σ vs)[j]? = if j ∈ vs then (σ[j]?).map fun _ => none else σ[j]?
  | [] => by simp [wipe]
  | v :: vs => by
    unfold wipe
    by_cases h : j = v
    · subst h
      rw [if_pos (by simp)]
      by_cases hl : j < (wipe σ vs).length
      · rw [List.getElem?_set_self hl]
        rw [wipe_length] at hl
        rw [List.getElem?_eq_getElem hl]; rfl
      · rw [List.getElem?_eq_none (by simpa using hl)]
        rw [wipe_length] at hl
        rw [List.getElem?_eq_none (by omega)]; rfl
    · rw [List.getElem?_set_ne (Ne.symm h), wipe_get σ j vs]
      by_cases hv : j ∈ vs
      · rw [if_pos hv, if_pos (by simp [hv])]
      · rw [if_neg hv, if_neg (by simp [h, hv])]
theorem wipeD_length (env : DEnv) : ∀ vs : List Nat, (wipeD env vs).length = env.length
  | [] => rfl
  | v :: vs => by unfold wipeD; rw [List.length_set, wipeD_length env vs]
theorem wipeD_get (env : DEnv) (j : Nat) : ∀ vs : List Nat, (wipeD env vs)[j]? = if j ∈ vs then (env[j]?).map fun _ => Sl.no else env[j]?
  | [] => by simp [wipeD]
  | v :: vs => by
    unfold wipeD
    by_cases h : j = v
    · subst h
      rw [if_pos (by simp)]
      by_cases hl : j < (wipeD env vs).length
      · rw [List.getElem?_set_self hl]
        rw [wipeD_length] at hl
        rw [List.getElem?_eq_getElem hl]; rfl
      · rw [List.getElem?_eq_none (by simpa using hl)]
        rw [wipeD_length] at hl
        rw [List.getElem?_eq_none (by omega)]; rfl
    · rw [List.getElem?_set_ne (Ne.symm h), wipeD_get env j vs]
      by_cases hv : j ∈ vs
      · rw [if_pos hv, if_pos (by simp [hv])]
      · rw [if_neg hv, if_neg (by simp [h, hv])]
theorem mergeD_length (env0 env : DEnv) : ∀ vs : List Nat, (mergeD env0 env vs).length = env.length
  | [] => rfl
  | v :: vs => by unfold mergeD; rw [List.length_set, mergeD_length env0 env vs]
theorem mergeD_get (env0 env : DEnv) (hl0 : env0.length = env.length) (j : Nat) : ∀ vs : List Nat, (mergeD env0 env vs)[j]? = if j ∈ vs then env0[j]? else env[j]?
  | [] => by simp [mergeD]
  | v :: vs => by
    unfold mergeD
    by_cases h : j = v
    · subst h
      rw [if_pos (by simp)]
      by_cases hl : j < (mergeD env0 env vs).length
      · rw [List.getElem?_set_self hl]
        rw [mergeD_length] at hl
        rw [List.getD_eq_getElem?_getD, List.getElem?_eq_getElem (by omega)]; rfl
      · rw [List.getElem?_eq_none (by simpa using hl)]
        rw [mergeD_length] at hl
        rw [List.getElem?_eq_none (by omega)]
    · rw [List.getElem?_set_ne (Ne.symm h), mergeD_get env0 env hl0 j vs]
      by_cases hv : j ∈ vs
      · rw [if_pos hv, if_pos (by simp [hv])]
      · rw [if_neg hv, if_neg (by simp [h, hv])]
theorem wipe_ext {σ1 σ2 : L2.St} {vs : List Nat} (hl : σ1.length = σ2.length) (h : ∀ j : Nat, j ∉ vs → σ1[j]? = σ2[j]?) : wipe σ1 vs = wipe σ2 vs := by
  refine List.ext_getElem? fun j => ?_
  rw [wipe_get, wipe_get]
  by_cases hv : j ∈ vs
  · rw [if_pos hv, if_pos hv]
    by_cases c : j < σ1.length
    · rw [List.getElem?_eq_getElem c, List.getElem?_eq_getElem (by omega)]; rfl
    · rw [List.getElem?_eq_none (by omega), List.getElem?_eq_none (by omega)]
  · rw [if_neg hv, if_neg hv, h j hv]
theorem wipe_own {env : DEnv} {σ : L2.St} {H : Hp} {vs : List Nat} {i : Nat} {a : Addr} (h : OwnAt (wipeD env vs) (wipe σ vs) H i a) : OwnAt env σ H i a ∧ i ∉ vs := by
  obtain ⟨s, o, e1, e3, w⟩ := h
  rw [wipeD_get] at e1
  rw [wipe_get] at e3
  by_cases hv : i ∈ vs
  · rw [if_pos hv] at e1
    cases q : env[i]? with
    | none => rw [q] at e1; cases e1
    | some t => rw [q] at e1; cases e1; exact w.elim
  · rw [if_neg hv] at e1 e3
    exact ⟨⟨s, o, e1, e3, w⟩, hv⟩
theorem Rel.wipe {K : PySem.W.Frag} {env : DEnv} {σ : L2.St} {G H : Hp} (R : Rel K env σ G H) (vs : List Nat) : Rel K (wipeD env vs) (L2.wipe σ vs) G H := by
  refine ⟨R.ex, by rw [wipeD_length, wipe_length]; exact R.len, fun i s o e1 e2 => ?_, fun i j a x y => R.dist i j a (wipe_own x).1 (wipe_own y).1⟩
  rw [wipeD_get] at e1
  rw [wipe_get] at e2
  by_cases hv : i ∈ vs
  · rw [if_pos hv] at e1
    cases q : env[i]? with
    | none => rw [q] at e1; cases e1
    | some t => rw [q] at e1; cases e1; trivial
  · rw [if_neg hv] at e1 e2
    exact R.slot i s o e1 e2
theorem Fr.wipe (env : DEnv) (σ : L2.St) (G H : Hp) (vs : List Nat) : Fr env σ G H (wipeD env vs) (L2.wipe σ vs) G H := by
  refine ⟨Ex.refl _, fun _ _ h _ => h, fun _ h => h, fun _ h => .inl h, fun a ⟨i, h⟩ => .inl ⟨i, (wipe_own h).1⟩, fun i s h n => ?_⟩
  rw [wipeD_get] at h
  by_cases hv : i ∈ vs
  · rw [if_pos hv] at h
    cases q : env[i]? with
    | none => rw [q] at h; cases h
    | some t => rw [q] at h; cases h; exact absurd rfl n
  · rw [if_neg hv] at h
    rw [wipe_get, if_neg hv]
    exact ⟨rfl, s, h, rfl⟩
/-- an object that was not there at first is changed -/
theorem Fr.mutNew {env env' : DEnv} {σ σ' : L2.St} {G H G' H' : Hp} {p : Addr} {o : HO} (F : Fr env σ G H env' σ' G' H') (h : H p = none) (m : ∀ i a, OwnAt env' σ' (upd H' p o) i a ↔ OwnAt env' σ' H' i a) : Fr env σ G H env' σ' G' (upd H' p o) :=
  ⟨F.gg, fun a u ha hn => by rw [upd_ne (ne_of_none ha h)]; exact F.keep a u ha hn, fun a ha => by
    by_cases z : a = p
    · subst z; exact h
    · rw [upd_ne z] at ha; exact F.dom a ha, F.fresh, fun a ⟨i, w⟩ => F.own a ⟨i, (m i a).1 w⟩, F.par⟩
theorem Rel.mutFreeO {K : PySem.W.Frag} {env : DEnv} {σ : L2.St} {G H : Hp} {p : Addr} {o : HO} (R : Rel K env σ G H) (hg : G p = none) (hn : ¬ Own env σ H p) : Rel K env σ G (upd H p o) ∧ ∀ i a, OwnAt env σ (upd H p o) i a ↔ OwnAt env σ H i a :=
  R.move (fun a u ha => by
    rw [upd_ne (fun z => by subst z; rw [hg] at ha; cases ha)]
    exact R.ex a u ha) (Ex.refl _) (fun a w => upd_ne fun z => by subst z; exact hn w) fun a w => (w.there R).2
theorem Rel.mutFree {K : PySem.W.Frag} {env : DEnv} {σ : L2.St} {G H : Hp} {p : Addr} {o : HO} (R : Rel K env σ G H) (hg : G p = none) (hn : ¬ Own env σ H p) : Rel K env σ G (upd H p o) := (R.mutFreeO hg hn).1
/-- no exception leaves -/
abbrev WF : WX := fun _ _ _ _ => False
section
variable {X : Cx} {W : WX} {pos : Pos}
theorem lc_ok {K : PySem.W.Frag} {mg : Str → Option Value} {di : DA} {g : DG} {ws : List Nat} {t : DT} {e : DE} {vs : List Nat} (hws : ∀ j ∈ ws, j ∈ vs) (σ : L2.St) (H : Hp) (Q : VK) (hQ : rdL K mg W (lComp di g t e vs) σ H Q) :
    tLc (rdI K mg W di) (rdG K g ws) (rdT K mg WF t) (rdE K mg WF e) vs σ H Q := by
  obtain ⟨env, G, R, h⟩ := hQ
  refine ⟨env, G, R, ?_⟩
  have h' : RunL K mg W env σ G H ((di env).bind fun ds e1 => if ds.length ≤ 100000 ∧ noOwn e1 vs = true then match compD g t e vs ds (wipeD e1 vs) with
    | .ok ys e2 => .ok ys (mergeD e1 e2 vs)
    | _ => .stuck else .stuck) Q := h
  cases q : di env with
  | stuck => rw [q] at h'; exact h'
  | ex x e => rw [q] at h'; exact h'
  | ok ds e1 =>
    rw [q] at h'
    intro J G1 H1 R1 wk F1 A hA
    have h2 : RunL K mg W env σ G H (if ds.length ≤ 100000 ∧ noOwn e1 vs = true then match compD g t e vs ds (wipeD e1 vs) with
      | .ok ys e2 => .ok ys (mergeD e1 e2 vs)
      | _ => .stuck else .stuck) Q := h'
    by_cases c : ds.length ≤ 100000 ∧ noOwn e1 vs = true
    · rw [if_pos c] at h2
      cases qc : compD g t e vs ds (wipeD e1 vs) with
      | stuck => rw [qc] at h2; exact h2.elim
      | ex x e => rw [qc] at h2; exact h2.elim
      | ok ys e2 =>
        rw [qc] at h2
        have Rw := R1.wipe vs
        have gA : G1 A = none := R1.ex.none hA
        have nA : ¬ Own (wipeD e1 vs) (L2.wipe σ vs) H1 A := fun z => (z.there Rw).1 hA
        have mA := (Rw.mutFreeO (o := .lst []) gA nA).2
        refine ⟨fun i m H' => ∃ env' G' acc vacc zs, Rel K env' (L2.wipe σ vs) G' H' ∧ Ex G1 G' ∧ Fr (wipeD e1 vs) (L2.wipe σ vs) G1 H1 env' (L2.wipe σ vs) G' H' ∧ H' A = some (.lst vacc) ∧ G' A = none ∧ ¬ Own env' (L2.wipe σ vs) H' A ∧ DvAll K G' vacc acc ∧ acc.length ≤ i ∧
            compD g t e vs (ds.drop i) env' = .ok zs e2 ∧ ys = acc ++ zs ∧ m + i = ds.length,
          ⟨ds.length, wipeD e1 vs, G1, [], [], ys, Rw.mutFree gA nA, Ex.refl _, ⟨Ex.refl _, fun a u ha _ => by rw [upd_ne (ne_of_none ha hA)]; exact ha, fun a ha => ?_, fun _ z => .inl z, fun a ⟨i, z⟩ => .inl ⟨i, (mA i a).1 z⟩, fun _ s z _ => ⟨rfl, s, z, rfl⟩⟩, upd_same, gA, fun ⟨i, z⟩ => nA ⟨i, (mA i A).1 z⟩, .nil, Nat.le_refl _, qc, rfl, rfl⟩, ?_⟩
        · by_cases z : a = A
          · subst z; exact hA
          · rw [upd_ne z] at ha; exact ha
        · rintro i m H' ⟨env', G', acc, vacc, zs, R', ex', F', a1, a2, a3, a4, a5, a6, a7, em⟩
          obtain ⟨w1, w2⟩ := wk i G' H' ex' R'.ex
          by_cases hi : i < ds.length
          · have hd : ds[i]? = some ds[i] := List.getElem?_eq_getElem hi
            obtain ⟨go, yl⟩ := w1 _ hd
            refine .inr ⟨go, fun H2 => ∃ env' G' acc vacc zs, Rel K env' (L2.wipe σ vs) G' H2 ∧ Ex G1 G' ∧ Fr (wipeD e1 vs) (L2.wipe σ vs) G1 H1 env' (L2.wipe σ vs) G' H2 ∧ H2 A = some (.lst vacc) ∧ G' A = none ∧ ¬ Own env' (L2.wipe σ vs) H2 A ∧ DvAll K G' vacc acc ∧ acc.length ≤ i + 1 ∧
              compD g t e vs (ds.drop (i + 1)) env' = .ok zs e2 ∧ ys = acc ++ zs, fun H2 ⟨env', G', acc, vacc, zs, b1, b2, b3, b4, b5, b6, b7, b8, b9, b10⟩ => ⟨m - 1, by omega, env', G', acc, vacc, zs, b1, b2, b3, b4, b5, b6, b7, b8, b9, b10, by omega⟩, fun x H'' y => ?_⟩
            obtain ⟨G'', gr, dv⟩ := yl x H'' y
            rw [List.drop_eq_getElem_cons hi] at a6
            have R'' := R'.grow gr
            have F'' := F'.trans (gr.fr R')
            have gA'' : G'' A = none := by
              cases z : G'' A with
              | none => rfl
              | some u =>
                rcases gr.fresh A (by rw [z]; exact fun w => by cases w) with w | w
                · exact absurd a2 w
                · rw [w] at a1; cases a1
            have hA'' : H'' A = some (.lst vacc) := gr.hh _ _ a1
            have a6' : (match g ds[i] env' with
              | none => Rs.stuck
              | some e1 => (t e1).bind fun b e2 => if b then (e e2).bind fun y e3 => (compD g t e vs (ds.drop (i + 1)) (wipeD e3 vs)).bind fun ys e4 => .ok (y :: ys) e4 else compD g t e vs (ds.drop (i + 1)) (wipeD e2 vs)) = .ok zs e2 := a6
            cases qg : g ds[i] env' with
            | none => rw [qg] at a6'; cases a6'
            | some f1 =>
              rw [qg] at a6'
              refine ⟨env', G'', ds[i], R'', dv, f1, qg, fun σ2 R2 F2 T2 => ?_⟩
              have hwipe : L2.wipe σ2 vs = L2.wipe σ vs := by
                have e1 : L2.wipe σ2 vs = L2.wipe (L2.wipe σ vs) vs := wipe_ext T2.1 fun j hj => T2.2 j fun z => hj (hws j z)
                rw [e1]
                refine wipe_ext (wipe_length _ _) fun j hj => ?_
                rw [wipe_get, if_neg hj]
              refine ⟨hwipe, ?_⟩
              have own2 : ¬ Own f1 σ2 H'' A := fun z => by
                rcases F2.own A z with ⟨k, w⟩ | w
                · exact a3 ⟨k, ((R'.growO gr).2 k A).1 w⟩
                · rw [w] at hA''; cases hA''
              have stay : ∀ {f2 : DEnv} {G3 H3 : Hp}, Rel K f2 σ2 G3 H3 → Fr f1 σ2 G'' H'' f2 σ2 G3 H3 → H3 A = some (.lst vacc) ∧ G3 A = none ∧ ¬ Own f2 σ2 H3 A := fun {f2 G3 H3} R3 F3 => by
                have h3 : H3 A = some (.lst vacc) := F3.keep A _ hA'' own2
                refine ⟨h3, ?_, fun z => ?_⟩
                · cases z : G3 A with
                  | none => rfl
                  | some u =>
                    rcases F3.fresh A (by rw [z]; exact fun w => by cases w) with w | w | w
                    · exact absurd gA'' w
                    · rw [w] at hA''; cases hA''
                    · exact absurd w own2
                · rcases F3.own A z with w | w
                  · exact own2 w
                  · rw [w] at hA''; cases hA''
              refine ⟨f1, G'', R2, ?_⟩
              have a6' : ((t f1).bind fun b e2 => if b then (e e2).bind fun y e3 => (compD g t e vs (ds.drop (i + 1)) (wipeD e3 vs)).bind fun ys e4 => .ok (y :: ys) e4 else compD g t e vs (ds.drop (i + 1)) (wipeD e2 vs)) = .ok zs e2 := a6'
              cases qt : t f1 with
              | stuck => rw [qt] at a6'; cases a6'
              | ex x e => rw [qt] at a6'; cases a6'
              | ok b f2 =>
                rw [qt] at a6'
                intro G3 H3 R3 F3
                obtain ⟨s1, s2, s3⟩ := stay R3 F3
                have a7' : (if b then (e f2).bind fun y e3 => (compD g t e vs (ds.drop (i + 1)) (wipeD e3 vs)).bind fun ys e4 => .ok (y :: ys) e4 else compD g t e vs (ds.drop (i + 1)) (wipeD f2 vs)) = .ok zs e2 := a6'
                cases b with
                | false =>
                  have a8 : compD g t e vs (ds.drop (i + 1)) (wipeD f2 vs) = .ok zs e2 := a7'
                  have Rn := R3.wipe vs
                  rw [hwipe] at Rn
                  have Fn := ((F''.trans F2).trans F3).trans (Fr.wipe f2 σ2 G3 H3 vs)
                  rw [hwipe] at Fn
                  refine ⟨wipeD f2 vs, G3, acc, vacc, zs, Rn, (ex'.trans gr.gg).trans F3.gg, Fn, s1, s2, fun z => ?_, a4.up (gr.gg.trans F3.gg), by omega, a8, a7⟩
                  rw [← hwipe] at z
                  obtain ⟨k, hk⟩ := z
                  exact s3 ⟨k, (wipe_own hk).1⟩
                | true =>
                  have a8 : (e f2).bind (fun y e3 => (compD g t e vs (ds.drop (i + 1)) (wipeD e3 vs)).bind fun ys e4 => .ok (y :: ys) e4) = .ok zs e2 := a7'
                  refine ⟨f2, G3, R3, ?_⟩
                  cases qe : e f2 with
                  | stuck => rw [qe] at a8; cases a8
                  | ex x e => rw [qe] at a8; cases a8
                  | ok y0 f3 =>
                    rw [qe] at a8
                    intro v G4 H4 R4 dv4 F4
                    obtain ⟨u1, u2, u3⟩ := stay R4 (F3.trans F4)
                    have a9 : (compD g t e vs (ds.drop (i + 1)) (wipeD f3 vs)).bind (fun ys e4 => .ok (y0 :: ys) e4) = .ok zs e2 := a8
                    cases qn : compD g t e vs (ds.drop (i + 1)) (wipeD f3 vs) with
                    | stuck => rw [qn] at a9; cases a9
                    | ex x e => rw [qn] at a9; cases a9
                    | ok zs' e5 =>
                      rw [qn] at a9
                      cases a9
                      have Rn := R4.wipe vs
                      rw [hwipe] at Rn
                      have Fn := (((F''.trans F2).trans F3).trans F4).trans (Fr.wipe f3 σ2 G4 H4 vs)
                      rw [hwipe] at Fn
                      have nown : ¬ Own (wipeD f3 vs) (L2.wipe σ vs) H4 A := fun z => by
                        rw [← hwipe] at z
                        obtain ⟨k, hk⟩ := z
                        exact u3 ⟨k, (wipe_own hk).1⟩
                      have up4 : Ex G' G4 := (gr.gg.trans F3.gg).trans F4.gg
                      have mN := (Rn.mutFreeO (o := .lst (vacc ++ [v])) u2 nown).2
                      refine ⟨vacc, u1, ?_, wipeD f3 vs, G4, acc ++ [y0], vacc ++ [v], zs', Rn.mutFree u2 nown, ((ex'.trans gr.gg).trans F3.gg).trans F4.gg, Fn.mutNew hA mN, upd_same, u2, fun ⟨i, z⟩ => nown ⟨i, (mN i A).1 z⟩, (a4.up up4).append (.one dv4), ?_, qn, by rw [a7]; simp⟩
                      · rw [a4.length]
                        exact Nat.lt_of_lt_of_le (show acc.length < 100000 by omega) (by decide)
                      · simp; omega
          · have ei : ds.drop i = [] := List.drop_eq_nil_of_le (by omega)
            rw [ei] at a6
            have a6' : Rs.ok ([] : List D) env' = Rs.ok zs e2 := a6
            injection a6' with z1 z2
            refine .inl ⟨w2 (by omega), ?_⟩
            rw [← z1, List.append_nil] at a7
            subst a7
            rw [← z2] at h2
            have hl0 : e1.length = env'.length := by rw [R1.len, R'.len, wipe_length]
            have ownM : ∀ i b, OwnAt (mergeD e1 env' vs) σ H' i b → OwnAt env' (L2.wipe σ vs) H' i b ∧ i ∉ vs := fun i b ⟨s, o, x1, x3, x2⟩ => by
              rw [mergeD_get e1 env' hl0] at x1
              by_cases hv : i ∈ vs
              · rw [if_pos hv] at x1
                have := List.all_eq_true.mp c.2 i hv
                rw [x1] at this
                simp [x2.own] at this
              · rw [if_neg hv] at x1
                exact ⟨⟨s, o, x1, by rw [wipe_get, if_neg hv]; exact x3, x2⟩, hv⟩
            refine h2 A vacc G' H' ⟨R'.ex, by rw [mergeD_length, ← hl0]; exact R1.len, fun i s o x1 x2 => ?_, fun i j b x y => R'.dist i j b (ownM i b x).1 (ownM j b y).1⟩ a1 a2 (F1.dom A hA) (fun ⟨i, z⟩ => a3 ⟨i, (ownM i A z).1⟩) a4
              (F1.trans ⟨F'.gg, fun a u ha hn => F'.keep a u ha fun ⟨i, z⟩ => hn ⟨i, (wipe_own z).1⟩, F'.dom, fun a ha => ?_, fun a ⟨i, z⟩ => ?_, fun i s hx n => ?_⟩)
            · rw [mergeD_get e1 env' hl0] at x1
              by_cases hv : i ∈ vs
              · rw [if_pos hv] at x1
                have hno := List.all_eq_true.mp c.2 i hv
                rw [x1] at hno
                have qs := R1.slot i s o x1 x2
                cases s with
                | no => trivial
                | v d => obtain ⟨v, e, qs⟩ := qs; exact ⟨v, e, qs.up F'.gg⟩
                | l xs => simp [Sl.own] at hno
                | p xs => simp [Sl.own] at hno
                | n _ => obtain ⟨b, e, q1⟩ := qs; exact ⟨b, e, F'.gg _ _ q1⟩
                | m xs => simp [Sl.own] at hno
                | t xs => simp [Sl.own] at hno
                | u xs => simp [Sl.own] at hno
                | f x => exact qs
                | a x _ _ => exact ⟨qs.1, qs.2.up F'.gg⟩
              · rw [if_neg hv] at x1
                exact R'.slot i s o x1 (by rw [wipe_get, if_neg hv]; exact x2)
            · rcases F'.fresh a ha with w | w | ⟨i, w⟩
              · exact .inl w
              · exact .inr (.inl w)
              · exact .inr (.inr ⟨i, (wipe_own w).1⟩)
            · rcases F'.own a ⟨i, (ownM i a z).1⟩ with ⟨k, w⟩ | w
              · exact .inl ⟨k, (wipe_own w).1⟩
              · exact .inr w
            · rw [mergeD_get e1 env' hl0] at hx
              by_cases hv : i ∈ vs
              · rw [if_pos hv] at hx
                have hno := List.all_eq_true.mp c.2 i hv
                rw [hx] at hno
                cases s <;> first | exact absurd rfl n | simp [Sl.own] at hno
              · rw [if_neg hv] at hx
                obtain ⟨p1, s0, p2, p3⟩ := F'.par i s hx n
                rw [wipeD_get, if_neg hv] at p2
                exact ⟨rfl, s0, p2, p3⟩
    · rw [if_neg c] at h2
      exact h2.elim
end
end DL
set_option Elab.async false
set_option linter.all false
set_option maxRecDepth 100000
set_option autoImplicit false
namespace DL
open PySem L2
theorem pts_imp {X : Cx} {e : List Expr} {t t' : TT} (h : PTs X e t) (k : ∀ σ H Q, t' σ H Q → t σ H Q) : PTs X e t' := ⟨fun pins s σ H Q I w => h.run pins s σ H Q I (k σ H Q w)⟩
section
variable {X : Cx} {W : WX} {pos : Pos} {K : PySem.W.Frag} {mg : Str → Option Value}
theorem cts_nil : PTs X [] (rdT X.K X.mg W tYesD) := pts_imp pts_nil fun σ H Q h => by
  obtain ⟨env, G, R, h⟩ := h
  exact h G H R (Fr.refl _ _ _ _)
theorem cts_one {c : Expr} {dt : DT} (h : CT X W c dt) : PTs X [c] (rdT X.K X.mg W dt) := pts_one h
theorem cl_comp {elt tg iter : Expr} {ifs : List Expr} {scope : Scope} {own : List (Str × Nat)} {di : DA} {g : DG} {ws : List Nat} {t : DT} {de : DE} (hc : X.calm = true) (hN : X.N.Nodup) (hi : CI X W tg iter di) (ok : BlkOk X.N X.env.scope scope own)
    (hg : ∀ (s : Shared) (H : Hp) (C : Addr) (cl : List (Str × Addr)) (fp : List Addr), CG (X.blk s H scope (compEnvC scope cl C X.env) fp) tg g ws)
    (ht : ∀ (s : Shared) (H : Hp) (C : Addr) (cl : List (Str × Addr)) (fp : List Addr), PTs (X.blk s H scope (compEnvC scope cl C X.env) fp) ifs (rdT X.K X.mg WF t))
    (he : ∀ (s : Shared) (H : Hp) (C : Addr) (cl : List (Str × Addr)) (fp : List Addr), CE (X.blk s H scope (compEnvC scope cl C X.env) fp) WF elt de)
    (hws : ∀ j ∈ ws, j ∈ own.map (·.2) := by decide) (hs : ∀ x, foldedSetIterable iter X.env x = pure x := by intro _; rfl) : CL X W (.ListComp elt [⟨tg, iter, ifs, 0⟩] scope pos) (lComp di g t de (own.map (·.2))) :=
  pe_imp (pe_lc hc hN hi ok hg ht he hs) fun σ H Q h => lc_ok hws σ H Q h
end
inductive Fo where
  | ok (d : D) (outs : DEnv)
  | okl (xs : List D) (outs : DEnv)
  | ex (x : Xc) (outs : DEnv)
  | stuck
abbrev Df := DEnv → Fo
section
variable (K : PySem.W.Frag) (mg : Str → Option Value)
def RunF (args : DEnv) (σ : L2.St) (G H : Hp) (r : Fo) (Q : VK) (E : XK) : Prop := match r with
  | .ok d outs => ∀ v G' H', Rel K outs σ G' H' → Dv K G' v d → Fr args σ G H outs σ G' H' → Q v H'
  | .okl xs outs => ∀ a vs G' H', Rel K outs σ G' H' → H' a = some (.lst vs) → G' a = none → H a = none → ¬ Own outs σ H' a → DvAll K G' vs xs → Fr args σ G H outs σ G' H' → Q (.ref a) H'
  | .ex x outs => ∀ cls dd G' H', XRel K mg x cls dd G' H' → Rel K outs σ G' H' → Fr args σ G H outs σ G' H' → E cls dd H'
  | .stuck => False
/-- the promise of a def by a function on data -/
def spD (np : Nat) (F : Df) : Sp := fun vs H Q E => vs.length = np ∧ ∃ args G, Rel K args (vs.map some) G H ∧ RunF K mg args (vs.map some) G H (F args) Q E
end
/-- what comes back of the arguments -/
def outOf : Sl → Sl → Sl
  | .p _, .p ys => .p ys
  | .u _, .u y => .u y
  | _, _ => .no
def outsOf (args env : DEnv) : DEnv := args.mapIdx fun i a => outOf a (env.getD i Sl.no)
/-- a def by its body: n slots -/
def bodyF (n : Nat) (ds : DS) : Df := fun args => match ds (args ++ List.replicate (n - args.length) Sl.no) with
  | .nx e => .ok .none (outsOf args e)
  | .rt d e => .ok d (outsOf args e)
  | .rl xs e => .okl xs (outsOf args e)
  | .ex x e => .ex x (outsOf args e)
  | _ => .stuck
section
variable {K : PySem.W.Frag} {mg : Str → Option Value}
theorem outs_get {args env : DEnv} {i : Nat} {s : Sl} (h : (outsOf args env)[i]? = some s) : s = Sl.no ∨ ∃ s0, args[i]? = some s0 ∧ env[i]? = some s ∧ s.pk ≠ 0 ∧ s0.pk = s.pk := by
  unfold outsOf at h
  rw [List.getElem?_mapIdx] at h
  cases q1 : args[i]? with
  | none => simp [q1] at h
  | some a =>
    simp only [q1, Option.map_some, Option.some.injEq] at h
    cases q2 : env[i]? with
    | none =>
      have e : env.getD i Sl.no = Sl.no := by rw [List.getD_eq_getElem?_getD, q2]; rfl
      rw [e] at h
      cases a <;> exact .inl h.symm
    | some b =>
      have e : env.getD i Sl.no = b := by rw [List.getD_eq_getElem?_getD, q2]; rfl
      rw [e] at h
      cases a <;> cases b <;> first | exact .inl h.symm | (subst h; exact .inr ⟨_, rfl, rfl, (by intro z; cases z), rfl⟩)
theorem rel_start {args : DEnv} {vs : List V} {G H : Hp} {N : List Str} (R : Rel K args (vs.map some) G H) (hn : vs.length ≤ N.length) : Rel K (args ++ List.replicate (N.length - args.length) Sl.no) (start N vs) G H := by
  have hl : args.length = vs.length := by simpa using R.len
  have own : ∀ i a, OwnAt (args ++ List.replicate (N.length - args.length) Sl.no) (start N vs) H i a → OwnAt args (vs.map some) H i a := fun i a ⟨s, o, e1, e3, e2⟩ => by
    by_cases c : i < args.length
    · rw [List.getElem?_append_left c] at e1
      unfold L2.start at e3
      rw [List.getElem?_append_left (by simpa [← hl] using c)] at e3
      exact ⟨s, o, e1, e3, e2⟩
    · rw [List.getElem?_append_right (by omega)] at e1
      obtain ⟨_, e⟩ := List.getElem?_eq_some_iff.mp e1
      simp at e
      rw [← e] at e2
      exact e2.elim
  refine ⟨R.ex, ?_, fun i s o e1 e2 => ?_, fun i j a x y => R.dist i j a (own i a x) (own j a y)⟩
  · unfold L2.start
    simp
    omega
  · by_cases c : i < args.length
    · rw [List.getElem?_append_left c] at e1
      unfold L2.start at e2
      rw [List.getElem?_append_left (by simpa [← hl] using c)] at e2
      exact R.slot i s o e1 e2
    · rw [List.getElem?_append_right (by omega)] at e1
      obtain ⟨_, e⟩ := List.getElem?_eq_some_iff.mp e1
      simp at e
      rw [← e]
      trivial
theorem start_get {N : List Str} {vs : List V} {i : Nat} (h : i < vs.length) : (start N vs)[i]? = (vs.map some)[i]? := by
  unfold L2.start
  rw [List.getElem?_append_left (by simpa using h)]
/-- the frame at the def's end, as the caller sees it -/
theorem ends_fr {args env : DEnv} {vs : List V} {σ' : L2.St} {G H G' H' : Hp} {N : List Str} (R : Rel K args (vs.map some) G H) (hn : vs.length ≤ N.length) (R' : Rel K env σ' G' H')
    (F : Fr (args ++ List.replicate (N.length - args.length) Sl.no) (start N vs) G H env σ' G' H') :
    Rel K (outsOf args env) (vs.map some) G' H' ∧ Fr args (vs.map some) G H (outsOf args env) (vs.map some) G' H' ∧ (∀ a, Own (outsOf args env) (vs.map some) H' a → Own env σ' H' a) := by
  have hl : args.length = vs.length := by simpa using R.len
  have up : ∀ i a, OwnAt args (vs.map some) H i a ↔ OwnAt (args ++ List.replicate (N.length - args.length) Sl.no) (start N vs) H i a := fun i a => by
    constructor
    · rintro ⟨s, o, e1, e3, e2⟩
      have c : i < args.length := (List.getElem?_eq_some_iff.mp e1).1
      exact ⟨s, o, by rw [List.getElem?_append_left c]; exact e1, by rw [start_get (by omega)]; exact e3, e2⟩
    · rintro ⟨s, o, e1, e3, e2⟩
      by_cases c : i < args.length
      · rw [List.getElem?_append_left c] at e1
        rw [start_get (by omega)] at e3
        exact ⟨s, o, e1, e3, e2⟩
      · rw [List.getElem?_append_right (by omega)] at e1
        obtain ⟨_, e⟩ := List.getElem?_eq_some_iff.mp e1
        simp at e
        rw [← e] at e2
        exact e2.elim
  -- a slot of outs that is a parameter's: it stands where it stood
  have back : ∀ (i : Nat) (s : Sl), (outsOf args env)[i]? = some s → s = Sl.no ∨ (env[i]? = some s ∧ σ'[i]? = (vs.map some)[i]?) := fun i s h => by
    rcases outs_get h with h | ⟨s0, h1, h2, h3, _⟩
    · exact .inl h
    · obtain ⟨e, _⟩ := F.par i s h2 h3
      have c : i < args.length := (List.getElem?_eq_some_iff.mp h1).1
      rw [start_get (by omega)] at e
      exact .inr ⟨h2, e⟩
  have ownO : ∀ i a, OwnAt (outsOf args env) (vs.map some) H' i a → OwnAt env σ' H' i a := fun i a ⟨s, o, e1, e3, e2⟩ => by
    rcases back i s e1 with h | ⟨h2, h3⟩
    · subst h; exact e2.elim
    · exact ⟨_, o, h2, by rw [h3]; exact e3, e2⟩
  have hlo : (outsOf args env).length = (vs.map some).length := by
    unfold outsOf
    rw [List.length_mapIdx, List.length_map]
    exact hl
  refine ⟨⟨R'.ex, hlo, fun i s o e1 e2 => ?_, fun i j a x y => R'.dist i j a (ownO i a x) (ownO j a y)⟩, ⟨F.gg, fun a o ha hn => F.keep a o ha fun ⟨i, z⟩ => hn ⟨i, (up i a).mpr z⟩, F.dom, fun a ha => ?_, fun a ⟨i, z⟩ => ?_, fun i s hi n => ?_⟩, fun a ⟨i, z⟩ => ⟨i, ownO i a z⟩⟩
  · rcases back i s e1 with h | ⟨h2, h3⟩
    · subst h; trivial
    · exact R'.slot i _ o h2 (by rw [h3]; exact e2)
  · rcases F.fresh a ha with w | w | ⟨i, w⟩
    · exact .inl w
    · exact .inr (.inl w)
    · exact .inr (.inr ⟨i, (up i a).mpr w⟩)
  · rcases F.own a ⟨i, ownO i a z⟩ with ⟨k, w⟩ | w
    · exact .inl ⟨k, (up k a).mpr w⟩
    · exact .inr w
  · rcases outs_get hi with h | ⟨s0, h1, h2, h3, h4⟩
    · subst h; exact absurd rfl n
    · exact ⟨rfl, s0, h1, h4⟩
end
end DL
set_option Elab.async false
set_option linter.all false
set_option maxRecDepth 100000
set_option autoImplicit false
namespace DL
open PySem L2
/-- an argument: data, or a slot's own list lent out -/
inductive Ar where
  | d (x : D)
  | g (x : Str)
  | s (i : Nat)
abbrev DAr := DEnv → Rs (List Ar)
def rNil : DAr := fun env => .ok [] env
def rCons (de : DE) (da : DAr) : DAr := fun env => (de env).bind fun x e1 => (da e1).bind fun xs e2 => .ok (.d x :: xs) e2
/-- what a def gets of a slot that is lent to it -/
def lendS : Sl → Sl
  | .l xs => .p xs
  | .p xs => .p xs
  | .n kvs => .n kvs
  | .t T => .u T
  | .u T => .u T
  | _ => .no
def lentS : Sl → Bool
  | .l _ => true
  | .p _ => true
  | .n _ => true
  | .t _ => true
  | .u _ => true
  | _ => false
def lent (i : Nat) (env : DEnv) : Bool := match env[i]? with
  | some s => lentS s
  | none => false
def ArRel (K : PySem.W.Frag) (G : Hp) (σ : L2.St) : List V → List Ar → Prop
  | [], [] => True
  | v :: vs, .d x :: as => Dv K G v x ∧ ArRel K G σ vs as
  | v :: vs, .g x :: as => v = .ref (He.ga K x) ∧ ArRel K G σ vs as
  | v :: vs, .s i :: as => σ[i]? = some (some v) ∧ ArRel K G σ vs as
  | _, _ => False
theorem ArRel.up {K : PySem.W.Frag} {G G' : Hp} {σ : L2.St} (e : Ex G G') : ∀ {vs : List V} {as : List Ar}, ArRel K G σ vs as → ArRel K G' σ vs as
  | [], [], _ => trivial
  | v :: vs, .d x :: as, h => ⟨h.1.up e, ArRel.up e h.2⟩
  | v :: vs, .g x :: as, h => ⟨h.1, ArRel.up e h.2⟩
  | v :: vs, .s i :: as, h => ⟨h.1, ArRel.up e h.2⟩
theorem ArRel.length {K : PySem.W.Frag} {G : Hp} {σ : L2.St} : ∀ {vs : List V} {as : List Ar}, ArRel K G σ vs as → vs.length = as.length
  | [], [], _ => rfl
  | v :: vs, .d x :: as, h => by simp [ArRel.length h.2]
  | v :: vs, .g x :: as, h => by simp [ArRel.length h.2]
  | v :: vs, .s i :: as, h => by simp [ArRel.length h.2]
theorem ArRel.getD {K : PySem.W.Frag} {G : Hp} {σ : L2.St} : ∀ {vs : List V} {as : List Ar} {j : Nat} {x : D}, ArRel K G σ vs as → as[j]? = some (.d x) → ∃ v, vs[j]? = some v ∧ Dv K G v x
  | [], [], _, _, _, e => by simp at e
  | v :: vs, .d y :: as, 0, x, h, e => by simp at e; subst e; exact ⟨v, rfl, h.1⟩
  | v :: vs, .s i :: as, 0, x, h, e => by simp at e
  | v :: vs, .g i :: as, 0, x, h, e => by simp at e
  | v :: vs, .g y :: as, j + 1, x, h, e => by simpa using ArRel.getD (j := j) (x := x) h.2 (by simpa using e)
  | v :: vs, .d y :: as, j + 1, x, h, e => by simpa using ArRel.getD (j := j) (x := x) h.2 (by simpa using e)
  | v :: vs, .s i :: as, j + 1, x, h, e => by simpa using ArRel.getD (j := j) (x := x) h.2 (by simpa using e)
theorem ArRel.getS {K : PySem.W.Frag} {G : Hp} {σ : L2.St} : ∀ {vs : List V} {as : List Ar} {j i : Nat}, ArRel K G σ vs as → as[j]? = some (.s i) → ∃ v, vs[j]? = some v ∧ σ[i]? = some (some v)
  | [], [], _, _, _, e => by simp at e
  | v :: vs, .s i :: as, 0, x, h, e => by simp at e; subst e; exact ⟨v, rfl, h.1⟩
  | v :: vs, .d i :: as, 0, x, h, e => by simp at e
  | v :: vs, .g i :: as, 0, x, h, e => by simp at e
  | v :: vs, .g y :: as, j + 1, x, h, e => by simpa using ArRel.getS (j := j) (i := x) h.2 (by simpa using e)
  | v :: vs, .d y :: as, j + 1, x, h, e => by simpa using ArRel.getS (j := j) (i := x) h.2 (by simpa using e)
  | v :: vs, .s i :: as, j + 1, x, h, e => by simpa using ArRel.getS (j := j) (i := x) h.2 (by simpa using e)
theorem ArRel.getG {K : PySem.W.Frag} {G : Hp} {σ : L2.St} : ∀ {vs : List V} {as : List Ar} {j : Nat} {x : Str}, ArRel K G σ vs as → as[j]? = some (.g x) → vs[j]? = some (.ref (He.ga K x))
  | [], [], _, _, _, e => by simp at e
  | v :: vs, .g y :: as, 0, x, h, e => by simp at e; subst e; have := h.1; subst this; rfl
  | v :: vs, .s i :: as, 0, x, h, e => by simp at e
  | v :: vs, .d i :: as, 0, x, h, e => by simp at e
  | v :: vs, .d y :: as, j + 1, x, h, e => by simpa using ArRel.getG (j := j) (x := x) h.2 (by simpa using e)
  | v :: vs, .g y :: as, j + 1, x, h, e => by simpa using ArRel.getG (j := j) (x := x) h.2 (by simpa using e)
  | v :: vs, .s i :: as, j + 1, x, h, e => by simpa using ArRel.getG (j := j) (x := x) h.2 (by simpa using e)
section
variable (K : PySem.W.Frag) (mg : Str → Option Value) (W : WX)
def RunR (env : DEnv) (σ : L2.St) (G H : Hp) (r : Rs (List Ar)) (Q : List V → Hp → Prop) : Prop := match r with
  | .ok as env' => ∀ vs G' H', Rel K env' σ G' H' → ArRel K G' σ vs as → (∀ i, Ar.s i ∈ as → lent i env' = true) → Fr env σ G H env' σ G' H' → Q vs H'
  | .ex x env' => RunX K mg W env σ G H x env'
  | .stuck => False
def rdR (de : DAr) : TA := fun σ H Q => ∃ env G, Rel K env σ G H ∧ RunR K mg W env σ G H (de env) Q
end
abbrev CR (X : Cx) (W : WX) (es : List Expr) (da : DAr) : Prop := PA X es (rdR X.K X.mg W da)
theorem RunR.shift {K : PySem.W.Frag} {mg : Str → Option Value} {W : WX} {env env1 : DEnv} {σ : L2.St} {G H G1 H1 : Hp} {r : Rs (List Ar)} {Q : List V → Hp → Prop} (h : RunR K mg W env σ G H r Q) (f : Fr env σ G H env1 σ G1 H1) : RunR K mg W env1 σ G1 H1 r Q := by
  cases r with
  | ok d e => exact fun v G' H' a b l c => h v G' H' a b l (f.trans c)
  | ex x e => exact RunX.shift h f
  | stuck => exact h
theorem lent_some {i : Nat} {env : DEnv} (h : lent i env = true) : ∃ s, env[i]? = some s ∧ lentS s = true := by
  unfold lent at h
  cases q : env[i]? with
  | none => rw [q] at h; cases h
  | some s => rw [q] at h; exact ⟨s, rfl, h⟩
theorem lent_val {K : PySem.W.Frag} {G H : Hp} {s : Sl} {o : Option V} (h : lentS s = true) (r : RS K G H s o) : ∃ v, o = some v := by
  cases s with
  | l xs => obtain ⟨a, vs, e, _⟩ := r; exact ⟨_, e⟩
  | p xs => obtain ⟨a, vs, e, _⟩ := r; exact ⟨_, e⟩
  | n xs => obtain ⟨a, e, _⟩ := r; exact ⟨_, e⟩
  | t T => obtain ⟨v, e, _⟩ := r; exact ⟨_, e⟩
  | u T => obtain ⟨v, e, _⟩ := r; exact ⟨_, e⟩
  | _ => cases h
section
variable {X : Cx} {W : WX} {pos : Pos} {e : Expr} {es : List Expr} {de : DE} {da : DAr}
theorem R_then {K : PySem.W.Frag} {mg : Str → Option Value} {env : DEnv} {σ : L2.St} {G H : Hp} {da : DAr} {β : Type} {f : List Ar → DEnv → Rs β} {R : List V → Hp → Prop} (hR : Rel K env σ G H) {P : DEnv → L2.St → Hp → Hp → Rs β → Prop}
    (h : P env σ G H ((da env).bind f)) (hx : ∀ x e, P env σ G H (.ex x e) → RunX K mg W env σ G H x e) (hst : ¬ P env σ G H .stuck)
    (hsh : ∀ e1 G1 H1 r, P env σ G H r → Fr env σ G H e1 σ G1 H1 → P e1 σ G1 H1 r)
    (k : ∀ as e1 vs G1 H1, da env = .ok as e1 → Rel K e1 σ G1 H1 → ArRel K G1 σ vs as → (∀ i, Ar.s i ∈ as → lent i e1 = true) → Fr env σ G H e1 σ G1 H1 → P e1 σ G1 H1 (f as e1) → R vs H1) : rdR K mg W da σ H R := by
  refine ⟨env, G, hR, ?_⟩
  cases q : da env with
  | ok d e1 =>
    rw [q] at h
    exact fun v G1 H1 a b l c => k d e1 v G1 H1 q a b l c (hsh _ _ _ _ h c)
  | ex x e => rw [q] at h; exact hx x e h
  | stuck => rw [q] at h; exact (hst h).elim
theorem cr_nil : CR X W [] rNil := pa_imp pa_nil fun σ H Q h => by
  obtain ⟨env, G, R, h⟩ := h
  exact h [] G H R trivial (fun i z => nomatch z) (Fr.refl _ _ _ _)
theorem E_thenR {K : PySem.W.Frag} {mg : Str → Option Value} {env : DEnv} {σ : L2.St} {G H : Hp} {de : DE} {f : D → DEnv → Rs (List Ar)} {Q : List V → Hp → Prop} {R : VK} (hR : Rel K env σ G H) (h : RunR K mg W env σ G H ((de env).bind f) Q)
    (k : ∀ d e1 v G1 H1, de env = .ok d e1 → Rel K e1 σ G1 H1 → Dv K G1 v d → Fr env σ G H e1 σ G1 H1 → RunR K mg W e1 σ G1 H1 (f d e1) Q → R v H1) : rdE K mg W de σ H R :=
  E_then hR (P := fun e s G H r => RunR K mg W e s G H r Q) h (fun _ _ z => z) (fun z => z) (fun _ _ _ _ a b => a.shift b) k
theorem cr_cons (ha : CE X W e de) (hr : CR X W es da) (hs : starEach (e :: es) X.env = (false, eval e X.env) :: starEach es X.env := by rfl) : CR X W (e :: es) (rCons de da) := pa_imp (pa_cons ha hr hs) fun σ H Q h => by
  obtain ⟨env, G, R, h⟩ := h
  refine E_thenR R h fun d e1 v G1 H1 _ R1 dv F1 h1 => R_then R1 (P := fun e s G H r => RunR X.K X.mg W e s G H r Q) h1 (fun _ _ z => z) (fun z => z) (fun _ _ _ _ a b => a.shift b) fun as e2 vs G2 H2 _ R2 ar le F2 h2 => ?_
  exact h2 (v :: vs) G2 H2 R2 ⟨dv.up F2.gg, ar⟩ (fun i z => by
    rcases List.mem_cons.mp z with z | z
    · cases z
    · exact le i z) (Fr.refl _ _ _ _)
/-- a name whose list is lent out: what comes behind does not take it away -/
theorem cr_lend (i : Nat) {x : Str} {p : Pos} (hr : CR X W es da) (hN : X.N[i]? = some x := by rfl) (hv : Vis X.env.scope x := by first | exact Or.inl rfl | exact Or.inr (Or.inl rfl) | exact Or.inr (Or.inr rfl)) (hd : (x == ("__debug__" : Str)) = false := by decide)
    (hcd : (x == ("__classdict__" : Str)) = false := by decide) (hs : starEach (.Name x p :: es) X.env = (false, eval (.Name x p) X.env) :: starEach es X.env := by rfl) : CR X W (.Name x p :: es) (fun env => if lent i env then (da env).bind fun xs e2 => if lent i e2 then .ok (.s i :: xs) e2 else .stuck else .stuck) := pa_imp (pa_cons (pe_var hN hv hd hcd) hr hs) fun σ H Q h => by
  obtain ⟨env, G, R, h⟩ := h
  by_cases c : lent i env = true
  · have h' : RunR X.K X.mg W env σ G H ((da env).bind fun xs e2 => if lent i e2 then .ok (.s i :: xs) e2 else .stuck) Q := by
      have h2 : RunR X.K X.mg W env σ G H (if lent i env = true then (da env).bind fun xs e2 => if lent i e2 then .ok (.s i :: xs) e2 else .stuck else .stuck) Q := h
      rw [if_pos c] at h2
      exact h2
    obtain ⟨s, hx, hs⟩ := lent_some c
    have li : i < σ.length := by
      rw [← R.len]
      exact (List.getElem?_eq_some_iff.mp hx).1
    have ho : σ[i]? = some σ[i] := List.getElem?_eq_getElem li
    obtain ⟨v, hv⟩ : ∃ v, σ[i]? = some (some v) := by
      obtain ⟨v, e⟩ := lent_val hs (R.slot i _ _ hx ho)
      exact ⟨v, by rw [ho, e]⟩
    refine ⟨v, hv, R_then R (P := fun e s G H r => RunR X.K X.mg W e s G H r Q) h' (fun _ _ z => z) (fun z => z) (fun _ _ _ _ a b => a.shift b) fun as e2 vs G2 H2 _ R2 ar le F2 h2 => ?_⟩
    by_cases c2 : lent i e2 = true
    · have h3 : RunR X.K X.mg W e2 σ G2 H2 (if lent i e2 = true then .ok (.s i :: as) e2 else .stuck) Q := h2
      rw [if_pos c2] at h3
      exact h3 (v :: vs) G2 H2 R2 ⟨hv, ar⟩ (fun j z => by
        rcases List.mem_cons.mp z with z | z
        · cases z; exact c2
        · exact le j z) (Fr.refl _ _ _ _)
    · have h3 : RunR X.K X.mg W e2 σ G2 H2 (if lent i e2 = true then .ok (.s i :: as) e2 else .stuck) Q := h2
      rw [if_neg c2] at h3
      exact h3.elim
  · have h2 : RunR X.K X.mg W env σ G H (if lent i env = true then (da env).bind fun xs e2 => if lent i e2 then .ok (.s i :: xs) e2 else .stuck else .stuck) Q := h
    rw [if_neg c] at h2
    exact h2.elim
end
def toSl (env : DEnv) : Ar → Sl
  | .d x => .v x
  | .g x => .f x
  | .s i => match env[i]? with
    | some s => lendS s
    | none => .no
def lookS (j : Nat) : List Ar → DEnv → Option Sl
  | .s i :: as, o :: os => if i = j then some o else lookS j as os
  | .d _ :: as, _ :: os => lookS j as os
  | .g _ :: as, _ :: os => lookS j as os
  | _, _ => none
def conv : Sl → Sl → Sl
  | .l _, .p ys => .l ys
  | .p _, .p ys => .p ys
  | .t _, .u y => .t y
  | .u _, .u y => .u y
  | _, _ => .no
def backD (as : List Ar) (outs env : DEnv) : DEnv := env.mapIdx fun j s => match lookS j as outs with
  | some o => conv s o
  | none => s
def slotsOf : List Ar → List Nat
  | [] => []
  | .s i :: as => i :: slotsOf as
  | .d _ :: as => slotsOf as
  | .g _ :: as => slotsOf as
def callD (F : Df) (as : List Ar) (env : DEnv) : Fo := if (slotsOf as).Nodup then match F (as.map (toSl env)) with
    | .ok d outs => .ok d (backD as outs env)
    | .okl xs outs => .okl xs (backD as outs env)
    | .ex x outs => .ex x (backD as outs env)
    | .stuck => .stuck
  else .stuck
def Fo.rs : Fo → Rs D
  | .ok d env => .ok d env
  | .okl xs env => .ok (.list xs) env
  | .ex x env => .ex x env
  | .stuck => .stuck
def Fo.rl : Fo → Rs (List D)
  | .okl xs env => .ok xs env
  | .ex x env => .ex x env
  | _ => .stuck
theorem slots_mem : ∀ {as : List Ar} {i : Nat}, i ∈ slotsOf as ↔ Ar.s i ∈ as
  | [], i => by simp [slotsOf]
  | .s j :: as, i => by simp [slotsOf, slots_mem (as := as)]
  | .d x :: as, i => by simp [slotsOf, slots_mem (as := as)]
  | .g x :: as, i => by simp [slotsOf, slots_mem (as := as)]
theorem slots_inj : ∀ {as : List Ar}, (slotsOf as).Nodup → ∀ {j k i : Nat}, as[j]? = some (.s i) → as[k]? = some (.s i) → j = k
  | [], _, _, _, _, e, _ => by simp at e
  | .d x :: as, h, 0, _, _, e, _ => by simp at e
  | .d x :: as, h, _, 0, _, _, e => by simp at e
  | .d x :: as, h, j + 1, k + 1, i, e1, e2 => by
    have := slots_inj (as := as) (by simpa [slotsOf] using h) (j := j) (k := k) (i := i) (by simpa using e1) (by simpa using e2)
    omega
  | .g x :: as, h, 0, _, _, e, _ => by simp at e
  | .g x :: as, h, _, 0, _, _, e => by simp at e
  | .g x :: as, h, j + 1, k + 1, i, e1, e2 => by
    have := slots_inj (as := as) (by simpa [slotsOf] using h) (j := j) (k := k) (i := i) (by simpa using e1) (by simpa using e2)
    omega
  | .s x :: as, h, 0, 0, _, _, _ => rfl
  | .s x :: as, h, 0, k + 1, i, e1, e2 => by
    simp at e1 e2
    subst e1
    have h' : x ∉ slotsOf as ∧ (slotsOf as).Nodup := by simpa [slotsOf] using h
    exact absurd (slots_mem.mpr (List.mem_of_getElem? e2)) h'.1
  | .s x :: as, h, j + 1, 0, i, e1, e2 => by
    simp at e1 e2
    subst e2
    have h' : x ∉ slotsOf as ∧ (slotsOf as).Nodup := by simpa [slotsOf] using h
    exact absurd (slots_mem.mpr (List.mem_of_getElem? e1)) h'.1
  | .s x :: as, h, j + 1, k + 1, i, e1, e2 => by
    have h' : x ∉ slotsOf as ∧ (slotsOf as).Nodup := by simpa [slotsOf] using h
    have := slots_inj (as := as) h'.2 (j := j) (k := k) (i := i) (by simpa using e1) (by simpa using e2)
    omega
theorem lookS_some : ∀ {as : List Ar} {os : DEnv} {j : Nat} {o : Sl}, lookS j as os = some o → ∃ k : Nat, as[k]? = some (Ar.s j) ∧ os[k]? = some o
  | [], _, _, _, h => by simp [lookS] at h
  | .s i :: as, [], _, _, h => by simp [lookS] at h
  | .d i :: as, [], _, _, h => by simp [lookS] at h
  | .g i :: as, [], _, _, h => by simp [lookS] at h
  | .s i :: as, o' :: os, j, o, h => by
    unfold lookS at h
    by_cases c : i = j
    · rw [if_pos c] at h
      cases h
      subst c
      exact ⟨0, rfl, rfl⟩
    · rw [if_neg c] at h
      obtain ⟨k, a, b⟩ := lookS_some h
      exact ⟨k + 1, by simpa using a, by simpa using b⟩
  | .d i :: as, o' :: os, j, o, h => by
    unfold lookS at h
    obtain ⟨k, a, b⟩ := lookS_some h
    exact ⟨k + 1, by simpa using a, by simpa using b⟩
  | .g i :: as, o' :: os, j, o, h => by
    unfold lookS at h
    obtain ⟨k, a, b⟩ := lookS_some h
    exact ⟨k + 1, by simpa using a, by simpa using b⟩
theorem lookS_none : ∀ {as : List Ar} {os : DEnv} {j : Nat}, as.length = os.length → lookS j as os = none → Ar.s j ∉ as
  | [], _, _, _, _ => by simp
  | .s i :: as, [], _, h, _ => by simp at h
  | .d i :: as, [], _, h, _ => by simp at h
  | .g i :: as, [], _, h, _ => by simp at h
  | .s i :: as, o' :: os, j, hl, h => by
    unfold lookS at h
    by_cases c : i = j
    · rw [if_pos c] at h; cases h
    · rw [if_neg c] at h
      have := lookS_none (by simpa using hl) h
      simp [this, Ne.symm c]
  | .d i :: as, o' :: os, j, hl, h => by
    unfold lookS at h
    have := lookS_none (by simpa using hl) h
    simp [this]
  | .g i :: as, o' :: os, j, hl, h => by
    unfold lookS at h
    have := lookS_none (by simpa using hl) h
    simp [this]
section
variable {K : PySem.W.Frag} {mg : Str → Option Value} {env : DEnv} {σ : L2.St} {G H : Hp} {as : List Ar} {vs : List V}
theorem lend_own {H : Hp} {s : Sl} {o : Option V} {a : Addr} (h : OwnS H (lendS s) o a) : OwnS H s o a := by cases s <;> first | exact h | exact False.elim h
theorem toSl_own {H : Hp} {i : Nat} {a : Addr} (ar : ArRel K G σ vs as) (h : OwnAt (as.map (toSl env)) (vs.map some) H i a) : ∃ k, as[i]? = some (.s k) ∧ OwnAt env σ H k a := by
  obtain ⟨s, o, e1, e3, e2⟩ := h
  rw [List.getElem?_map] at e1 e3
  cases q : as[i]? with
  | none => rw [q] at e1; cases e1
  | some x =>
    rw [q] at e1
    cases x with
    | d y => cases e1; exact e2.elim
    | g y => cases e1; exact e2.elim
    | s k =>
      obtain ⟨v, hv, hs⟩ := ar.getS q
      rw [hv] at e3
      cases e3
      have e1' : toSl env (.s k) = s := by simpa using e1
      unfold toSl at e1'
      cases q2 : env[k]? with
      | none => simp [q2] at e1'; subst e1'; exact e2.elim
      | some t =>
        simp only [q2] at e1'
        subst e1'
        exact ⟨k, rfl, t, _, q2, hs, lend_own e2⟩
theorem lend_rs {H : Hp} {s : Sl} {o : Option V} (h : RS K G H s o) : RS K G H (lendS s) o := by cases s <;> first | exact h | trivial
theorem rel_args {H : Hp} (R : Rel K env σ G H) (ar : ArRel K G σ vs as) (nd : (slotsOf as).Nodup) : Rel K (as.map (toSl env)) (vs.map some) G H := by
  refine ⟨R.ex, by simp [ar.length], fun i s o e1 e2 => ?_, fun i j a x y => ?_⟩
  · rw [List.getElem?_map] at e1 e2
    cases q : as[i]? with
    | none => rw [q] at e1; cases e1
    | some x =>
      rw [q] at e1
      have e1' : toSl env x = s := by simpa using e1
      cases x with
      | d y =>
        obtain ⟨v, hv, dv⟩ := ar.getD q
        rw [hv] at e2
        have e2' : some v = o := by simpa using e2
        subst e1'
        exact ⟨v, e2'.symm, dv⟩
      | g y =>
        have hv := ar.getG q
        rw [hv] at e2
        have e2' : some (V.ref (He.ga K y)) = o := by simpa using e2
        subst e1'
        exact e2'.symm
      | s k =>
        obtain ⟨v, hv, hs⟩ := ar.getS q
        rw [hv] at e2
        have e2' : some v = o := by simpa using e2
        unfold toSl at e1'
        cases q2 : env[k]? with
        | none => simp [q2] at e1'; subst e1'; trivial
        | some t =>
          simp only [q2] at e1'
          subst e1'
          rw [← e2']
          exact lend_rs (R.slot k t (some v) q2 hs)
  · obtain ⟨k1, a1, a2⟩ := toSl_own ar x
    obtain ⟨k2, b1, b2⟩ := toSl_own ar y
    have e := R.dist k1 k2 a a2 b2
    subst e
    exact slots_inj nd a1 b1
theorem conv_own {H : Hp} {s s' : Sl} {o : Option V} {a : Addr} (h : OwnS H (conv s s') o a) : OwnS H s' o a := by cases s <;> cases s' <;> first | exact h | exact False.elim h
theorem conv_rs {G' H' : Hp} {s s' : Sl} {o : Option V} (h : RS K G' H' s' o) : RS K G' H' (conv s s') o := by cases s <;> cases s' <;> first | exact h | trivial
theorem conv_pk {s s' : Sl} (n : (conv s s').pk ≠ 0) : s.pk = (conv s s').pk := by cases s <;> cases s' <;> first | rfl | exact absurd rfl n
/-- behind the call -/
theorem back_ok {H : Hp} {outs : DEnv} {G' H' : Hp} (R : Rel K env σ G H) (ar : ArRel K G σ vs as) (nd : (slotsOf as).Nodup) (R' : Rel K outs (vs.map some) G' H') (F : Fr (as.map (toSl env)) (vs.map some) G H outs (vs.map some) G' H') :
    Rel K (backD as outs env) σ G' H' ∧ Fr env σ G H (backD as outs env) σ G' H' ∧ ∀ a, Own (backD as outs env) σ H' a → Own outs (vs.map some) H' a ∨ Own env σ H a := by
  have hlo : as.length = outs.length := by rw [R'.len]; simp [ar.length]
  have ownA : ∀ a, Own (as.map (toSl env)) (vs.map some) H a → Own env σ H a := fun a ⟨i, z⟩ => let ⟨k, _, b⟩ := toSl_own ar z; ⟨k, b⟩
  -- a slot of ours that is not lent stays
  have keepS : ∀ (j : Nat) (a : Addr), OwnAt env σ H j a → Ar.s j ∉ as → ¬ Own (as.map (toSl env)) (vs.map some) H a := fun j a o hn ⟨i, z⟩ => by
    obtain ⟨k, b1, b2⟩ := toSl_own ar z
    have e := R.dist j k a o b2
    subst e
    exact hn (List.mem_of_getElem? b1)
  have gnone : ∀ (j : Nat) (a : Addr), OwnAt env σ H j a → Ar.s j ∉ as → G' a = none := fun j a o hn => by
    cases z : G' a with
    | none => rfl
    | some u =>
      rcases F.fresh a (by rw [z]; exact fun w => by cases w) with w | w | w
      · exact absurd (o.there R).2 w
      · exact absurd w (o.there R).1
      · exact absurd w (keepS j a o hn)
  have hsame : ∀ (j : Nat) (a : Addr), OwnAt env σ H j a → Ar.s j ∉ as → H' a = H a := fun j a o hn => by
    cases z : H a with
    | none => exact absurd z (o.there R).1
    | some u => exact F.keep a u z (keepS j a o hn)
  have mv : ∀ (j : Nat) (a : Addr), Ar.s j ∉ as → (OwnAt env σ H' j a ↔ OwnAt env σ H j a) := fun j a hn => OwnAt.move R (i := j) F.gg (fun b w => hsame j b w hn) fun b w => gnone j b w hn
  have getB : ∀ (j : Nat) (s : Sl), (backD as outs env)[j]? = some s → ∃ s0, env[j]? = some s0 ∧ ((lookS j as outs = none ∧ s = s0) ∨ ∃ o, lookS j as outs = some o ∧ s = conv s0 o) := fun j s h => by
    unfold backD at h
    rw [List.getElem?_mapIdx] at h
    cases q : env[j]? with
    | none => rw [q] at h; cases h
    | some s0 =>
      rw [q] at h
      have h' : (match lookS j as outs with | some o => conv s0 o | none => s0) = s := by simpa using h
      refine ⟨s0, rfl, ?_⟩
      cases q2 : lookS j as outs with
      | none => rw [q2] at h'; exact .inl ⟨rfl, h'.symm⟩
      | some o => rw [q2] at h'; exact .inr ⟨o, rfl, h'.symm⟩
  have ownB : ∀ (j : Nat) (a : Addr), OwnAt (backD as outs env) σ H' j a → (OwnAt env σ H j a ∧ Ar.s j ∉ as) ∨ ∃ k, as[k]? = some (.s j) ∧ OwnAt outs (vs.map some) H' k a := fun j a ⟨s, o, e1, e3, e2⟩ => by
    obtain ⟨s0, h0, h1 | ⟨oo, h1, h2⟩⟩ := getB j s e1
    · obtain ⟨h1, h2⟩ := h1
      subst h2
      have hn := lookS_none hlo h1
      exact .inl ⟨(mv j a hn).1 ⟨_, o, h0, e3, e2⟩, hn⟩
    · obtain ⟨k, b1, b2⟩ := lookS_some h1
      obtain ⟨v, hv, hs⟩ := ar.getS b1
      rw [e3] at hs
      cases hs
      subst h2
      exact .inr ⟨k, b1, oo, _, b2, by rw [List.getElem?_map, hv]; rfl, conv_own e2⟩
  refine ⟨⟨R'.ex, by unfold backD; rw [List.length_mapIdx]; exact R.len, fun j s o e1 e2 => ?_, fun j k a x y => ?_⟩, ⟨F.gg, fun a o ha hn => F.keep a o ha fun z => hn (ownA a z), F.dom, fun a ha => ?_, fun a ⟨j, z⟩ => ?_, fun j s hj n => ?_⟩, fun a ⟨j, z⟩ => ?_⟩
  · obtain ⟨s0, h0, ⟨h1, h2⟩ | ⟨oo, h1, h2⟩⟩ := getB j s e1
    · subst h2
      have hn := lookS_none hlo h1
      exact ((R.slot j _ o h0 e2).move F.gg (fun a w => hsame j a ⟨_, o, h0, e2, w⟩ hn) fun a w => gnone j a ⟨_, o, h0, e2, w⟩ hn).1
    · obtain ⟨k, b1, b2⟩ := lookS_some h1
      obtain ⟨v, hv, hs⟩ := ar.getS b1
      have q := R'.slot k oo (some v) b2 (by rw [List.getElem?_map, hv]; rfl)
      rw [hs] at e2
      cases e2
      subst h2
      exact conv_rs q
  · rcases ownB j a x with ⟨x1, x2⟩ | ⟨i1, x1, x2⟩
    · rcases ownB k a y with ⟨y1, y2⟩ | ⟨i2, y1, y2⟩
      · exact R.dist j k a x1 y1
      · rcases F.own a ⟨i2, y2⟩ with w | w
        · exact absurd w (keepS j a x1 x2)
        · exact absurd w (x1.there R).1
    · rcases ownB k a y with ⟨y1, y2⟩ | ⟨i2, y1, y2⟩
      · rcases F.own a ⟨i1, x2⟩ with w | w
        · exact absurd w (keepS k a y1 y2)
        · exact absurd w (y1.there R).1
      · have e := R'.dist i1 i2 a x2 y2
        subst e
        rw [x1] at y1
        cases y1
        rfl
  · rcases F.fresh a ha with w | w | w
    · exact .inl w
    · exact .inr (.inl w)
    · exact .inr (.inr (ownA a w))
  · rcases ownB j a z with ⟨x1, _⟩ | ⟨i1, x1, x2⟩
    · exact .inl ⟨j, x1⟩
    · rcases F.own a ⟨i1, x2⟩ with w | w
      · exact .inl (ownA a w)
      · exact .inr w
  · obtain ⟨s0, h0, ⟨h1, h2⟩ | ⟨oo, h1, h2⟩⟩ := getB j _ hj
    · subst h2
      exact ⟨rfl, _, h0, rfl⟩
    · subst h2
      exact ⟨rfl, _, h0, conv_pk n⟩
  · rcases ownB j a z with ⟨x1, _⟩ | ⟨i1, x1, x2⟩
    · exact .inr ⟨j, x1⟩
    · exact .inl ⟨i1, x2⟩
end
section
variable {X : Cx} {W : WX} {pos p : Pos} {e : Expr} {es : List Expr} {da : DAr} {k : Nat} {f : Addr} {fd : FuncData} {ps : List Str} {F : Df} {x : Str}
theorem ar_np {K : PySem.W.Frag} {G : Hp} {σ : L2.St} {vs : List V} {as : List Ar} (ar : ArRel K G σ vs as) {np : Nat} (h : as.length = np) : vs.length = np := by rw [ar.length]; exact h
/-- f(e, ..): how many arguments come is told by the def's own rows -/
def eCallN (np : Nat) (F : Df) (da : DAr) : DE := fun env => (da env).bind fun as e1 => if as.length = np then (callD F as e1).rs else .stuck
def lCallN (np : Nat) (F : Df) (da : DAr) : DA := fun env => (da env).bind fun as e1 => if as.length = np then (callD F as e1).rl else .stuck
theorem ce_call (Fn : FnOk X.prog X.w X.K X.mg X.base (L2N.CX X.prog X.w) k f fd ps (spD X.K X.mg ps.length F)) (hr : Room k X.A) (hm : X.mg x = some (.ref f)) (hk : PySem.W.keepIn X.K (.ref f) = true) (hb : Binds X.K fd ps []) (tk : ∀ σ, PassesAt (L2N.CX X.prog X.w) X σ (WE W σ)) (ha : CR X W (e :: es) da) (hg : Gl X x := by rfl)
    (hdb : (x == ("__debug__" : Str)) = false := by decide) (he : starEach (e :: es) X.env = (false, eval e X.env) :: starEach es X.env := by rfl) (hpl : (backTo pos (starEach es X.env)).any (·.1) = false := by rfl) :
    CE X W (.Call (.Name x p) (e :: es) [] pos) (eCallN ps.length F da) := pe_imp (pe_callS Fn hr hg hm hk hb tk ha hdb he hpl) fun σ H Q h => by
  obtain ⟨env, G, R, h⟩ := h
  refine R_then R (P := fun e s G H r => RunE X.K X.mg W e s G H r Q) h (fun _ _ z => z) (fun z => z) (fun _ _ _ _ a b => a.shift b) fun as e1 vs G1 H1 _ R1 ar le F1 h1 => ?_
  by_cases cn : as.length = ps.length
  · rw [if_pos cn] at h1
    by_cases c : (slotsOf as).Nodup
    · have h2 : RunE X.K X.mg W e1 σ G1 H1 (Fo.rs (match F (as.map (toSl e1)) with
        | .ok d outs => .ok d (backD as outs e1)
        | .okl xs outs => .okl xs (backD as outs e1)
        | .ex x outs => .ex x (backD as outs e1)
        | .stuck => .stuck)) Q := by
        have h3 : RunE X.K X.mg W e1 σ G1 H1 (callD F as e1).rs Q := h1
        unfold callD at h3
        rw [if_pos c] at h3
        exact h3
      refine ⟨ar_np ar cn, as.map (toSl e1), G1, rel_args R1 ar c, ?_⟩
      cases q : F (as.map (toSl e1)) with
      | stuck => rw [q] at h2; exact h2
      | ok d outs =>
        rw [q] at h2
        exact fun v G' H' R' dv F' => let ⟨a, b, _⟩ := back_ok R1 ar c R' F'; h2 v G' H' a dv b
      | okl xs outs =>
        rw [q] at h2
        intro a vs' G' H' R' h3 h4 h5 h6 dv F'
        obtain ⟨r, b, o⟩ := back_ok R1 ar c R' F'
        have na : ¬ Own (backD as outs e1) σ H' a := fun z => by
          rcases o a z with z | z
          · exact h6 z
          · exact (z.there R1).1 h5
        have hl : RunL X.K X.mg W e1 σ G1 H1 (Rs.ok xs (backD as outs e1)) Q := RunL.of h2
        exact hl a vs' G' H' r h3 h4 h5 na dv b
      | ex x outs =>
        rw [q] at h2
        exact fun cls dd G' H' xr R' F' => let ⟨a, b, _⟩ := back_ok R1 ar c R' F'; h2 cls dd G' H' xr a b
    · have h3 : RunE X.K X.mg W e1 σ G1 H1 (callD F as e1).rs Q := h1
      unfold callD at h3
      rw [if_neg c] at h3
      exact h3.elim
  · rw [if_neg cn] at h1
    exact h1.elim
theorem cl_call (Fn : FnOk X.prog X.w X.K X.mg X.base (L2N.CX X.prog X.w) k f fd ps (spD X.K X.mg ps.length F)) (hr : Room k X.A) (hm : X.mg x = some (.ref f)) (hk : PySem.W.keepIn X.K (.ref f) = true) (hb : Binds X.K fd ps []) (tk : ∀ σ, PassesAt (L2N.CX X.prog X.w) X σ (WE W σ)) (ha : CR X W (e :: es) da) (hg : Gl X x := by rfl)
    (hdb : (x == ("__debug__" : Str)) = false := by decide) (he : starEach (e :: es) X.env = (false, eval e X.env) :: starEach es X.env := by rfl) (hpl : (backTo pos (starEach es X.env)).any (·.1) = false := by rfl) :
    CL X W (.Call (.Name x p) (e :: es) [] pos) (lCallN ps.length F da) := pe_imp (pe_callS Fn hr hg hm hk hb tk ha hdb he hpl) fun σ H Q h => by
  obtain ⟨env, G, R, h⟩ := h
  refine R_then R (P := fun e s G H r => RunL X.K X.mg W e s G H r Q) h (fun _ _ z => z) (fun z => z) (fun _ _ _ _ a b => a.shift b) fun as e1 vs G1 H1 _ R1 ar le F1 h1 => ?_
  by_cases cn : as.length = ps.length
  · rw [if_pos cn] at h1
    by_cases c : (slotsOf as).Nodup
    · have h2 : RunL X.K X.mg W e1 σ G1 H1 (Fo.rl (match F (as.map (toSl e1)) with
        | .ok d outs => .ok d (backD as outs e1)
        | .okl xs outs => .okl xs (backD as outs e1)
        | .ex x outs => .ex x (backD as outs e1)
        | .stuck => .stuck)) Q := by
        have h3 : RunL X.K X.mg W e1 σ G1 H1 (callD F as e1).rl Q := h1
        unfold callD at h3
        rw [if_pos c] at h3
        exact h3
      refine ⟨ar_np ar cn, as.map (toSl e1), G1, rel_args R1 ar c, ?_⟩
      cases q : F (as.map (toSl e1)) with
      | stuck => rw [q] at h2; exact h2
      | ok d outs => rw [q] at h2; exact h2.elim
      | okl xs outs =>
        rw [q] at h2
        intro a vs' G' H' R' h3 h4 h5 h6 dv F'
        obtain ⟨r, b, o⟩ := back_ok R1 ar c R' F'
        exact h2 a vs' G' H' r h3 h4 h5 (fun z => by
          rcases o a z with z | z
          · exact h6 z
          · exact (z.there R1).1 h5) dv b
      | ex x outs =>
        rw [q] at h2
        exact fun cls dd G' H' xr R' F' => let ⟨a, b, _⟩ := back_ok R1 ar c R' F'; h2 cls dd G' H' xr a b
    · have h3 : RunL X.K X.mg W e1 σ G1 H1 (callD F as e1).rl Q := h1
      unfold callD at h3
      rw [if_neg c] at h3
      exact h3.elim
  · rw [if_neg cn] at h1
    exact h1.elim
end
end DL
set_option Elab.async false
set_option linter.all false
set_option maxRecDepth 100000
set_option autoImplicit false
namespace DL
open PySem L2
theorem lim_size {n : Nat} (h : n ≤ 100000) : n ≤ sizeLine := Nat.le_trans h (by decide)
def dAdd : D → D → Option D
  | .int i, .int j => some (.int (i + j))
  | .str x, .str y => if x.length + y.length ≤ 100000 then some (.str (x ++ y)) else none
  | .tuple xs, .tuple ys => if xs.length + ys.length ≤ 100000 then some (.tuple (xs ++ ys)) else none
  | _, _ => none
def dSub : D → D → Option D
  | .int i, .int j => some (.int (i - j))
  | _, _ => none
/-- one factor small, or both of a size that is told -/
def mulOk (i j : Int) : Bool := (decide (-(2 ^ 64) < i) && decide (i < 2 ^ 64)) || (decide (-(2 ^ 64) < j) && decide (j < 2 ^ 64)) || (decide (i.natAbs < 2 ^ 4000) && decide (j.natAbs < 2 ^ 4000))
def dMul : D → D → Option D
  | .int i, .int j => if mulOk i j then some (.int (i * j)) else none
  | _, _ => none
def divOk (j : Int) : Bool := decide (0 < j) && decide (j.natAbs < 2 ^ 4000)
def powOk (i j : Int) : Bool := decide (0 ≤ j) && decide (j ≤ 1000000) && decide (i.natAbs < 2 ^ 64)
def dFdiv : D → D → Option D
  | .int i, .int j => if divOk j = true then some (.int (i / j)) else none
  | _, _ => none
def dMod : D → D → Option D
  | .int i, .int j => if 0 < j then some (.int (i % j)) else none
  | _, _ => none
def dPow : D → D → Option D
  | .int i, .int j => if powOk i j = true then some (.int (i ^ j.toNat)) else none
  | _, _ => none
def dLt : D → D → Option D
  | .int i, .int j => some (.bool (decide (i < j)))
  | _, _ => none
def dLe : D → D → Option D
  | .int i, .int j => some (.bool (decide (i ≤ j)))
  | _, _ => none
def dGt : D → D → Option D
  | .int i, .int j => some (.bool (decide (j < i)))
  | _, _ => none
def dGe : D → D → Option D
  | .int i, .int j => some (.bool (decide (j ≤ i)))
  | _, _ => none
def dEq (a b : D) : Option D := if SeqAt.shaped a = true ∧ SeqAt.shaped b = true then some (.bool (PyData.eqv a b)) else none
def dNe (a b : D) : Option D := if SeqAt.shaped a = true ∧ SeqAt.shaped b = true then some (.bool (!PyData.eqv a b)) else none
def isNone : D → Bool
  | .none => true
  | _ => false
def dIs (a b : D) : Option D := match b with
  | .none => some (.bool (isNone a))
  | .bool y => match a with
    | .bool x => some (.bool (decide (x = y)))
    | _ => none
  | _ => none
def dIsnt (a b : D) : Option D := match b with
  | .none => some (.bool (!isNone a))
  | .bool y => match a with
    | .bool x => some (.bool (!decide (x = y)))
    | _ => none
  | _ => none
def flatD : D → Bool
  | .none => true
  | .bool _ => true
  | .int _ => true
  | .str _ => true
  | _ => false
def seqOf : D → Option (List D)
  | .list xs => some xs
  | .tuple xs => some xs
  | _ => none
/-- x in a list or tuple of flat things -/
def dIn (x s : D) : Option D := match seqOf s with
  | some xs => if flatD x && xs.all flatD then some (.bool (xs.any fun z => PyData.eqv z x)) else none
  | none => none
def dNotIn (x s : D) : Option D := match seqOf s with
  | some xs => if flatD x && xs.all flatD then some (.bool (!xs.any fun z => PyData.eqv z x)) else none
  | none => none
def dIx (s i : D) : Option D := match s, i with
  | .list xs, .int k => atI xs k
  | .tuple xs, .int k => atI xs k
  | .str z, .int k => if z.length ≤ 100000 then (atI z.cps.toList k).map fun c => .str ⟨#[c]⟩ else none
  | _, _ => none
section
variable {X : Cx} {K : PySem.W.Frag}
/-- an operation that makes nothing -/
theorem opd_pure {r : R2} {f : D → D → Option D} (h : ∀ x y d e z G H Q, Dv K G x d → Dv K G y e → Ex G H → f d e = some z → (∀ v, Dv K G v z → Q v H) → r x y H Q) : OpD K r f :=
  fun x y d e z G H Q hx hy ex hf k => h x y d e z G H Q hx hy ex hf fun v dv => k v G H dv (Grow.refl ex)
theorem od_I0 {g : Int → Int → V} {f : D → D → Option D} {gd : Int → Int → D} (hg : ∀ G i j, Dv K G (g i j) (gd i j)) (hf : ∀ d e z, f d e = some z → ∃ i j, d = .int i ∧ e = .int j ∧ z = gd i j) : OpD K (rI0 g) f := opd_pure fun x y d e z G H Q hx hy ex h k => by
  obtain ⟨i, j, rfl, rfl, rfl⟩ := hf d e z h
  cases hx
  cases hy
  exact ⟨i, j, rfl, rfl, k _ (hg G i j)⟩
theorem od_I {C : Int → Int → Prop} {g : Int → Int → V} {f : D → D → Option D} {gd : Int → Int → D} (hg : ∀ G i j, Dv K G (g i j) (gd i j)) (hf : ∀ d e z, f d e = some z → ∃ i j, d = .int i ∧ e = .int j ∧ C i j ∧ z = gd i j) : OpD K (rI C g) f := opd_pure fun x y d e z G H Q hx hy ex h k => by
  obtain ⟨i, j, rfl, rfl, c, rfl⟩ := hf d e z h
  cases hx
  cases hy
  exact ⟨i, j, rfl, rfl, c, k _ (hg G i j)⟩
theorem od_sub : OpD K (rI0 fun i j => .int (i - j)) dSub := od_I0 (gd := fun i j => .int (i - j)) (fun _ _ _ => .int _) fun d e z h => by
  cases d <;> cases e <;> simp [dSub] at h <;> exact ⟨_, _, rfl, rfl, h.symm⟩
theorem od_lt : OpD K (rI0 fun i j => .bl (decide (i < j))) dLt := od_I0 (gd := fun i j => .bool (decide (i < j))) (fun _ _ _ => .bl _) fun d e z h => by
  cases d <;> cases e <;> simp [dLt] at h <;> exact ⟨_, _, rfl, rfl, h.symm⟩
theorem od_le : OpD K (rI0 fun i j => .bl (decide (i ≤ j))) dLe := od_I0 (gd := fun i j => .bool (decide (i ≤ j))) (fun _ _ _ => .bl _) fun d e z h => by
  cases d <;> cases e <;> simp [dLe] at h <;> exact ⟨_, _, rfl, rfl, h.symm⟩
theorem od_gt : OpD K (rI0 fun i j => .bl (decide (j < i))) dGt := od_I0 (gd := fun i j => .bool (decide (j < i))) (fun _ _ _ => .bl _) fun d e z h => by
  cases d <;> cases e <;> simp [dGt] at h <;> exact ⟨_, _, rfl, rfl, h.symm⟩
theorem od_ge : OpD K (rI0 fun i j => .bl (decide (j ≤ i))) dGe := od_I0 (gd := fun i j => .bool (decide (j ≤ i))) (fun _ _ _ => .bl _) fun d e z h => by
  cases d <;> cases e <;> simp [dGe] at h <;> exact ⟨_, _, rfl, rfl, h.symm⟩
theorem mulOk_wide {i j : Int} (h : mulOk i j = true) : CMulW i j ∨ CMul i j := by
  unfold mulOk at h
  simp only [Bool.or_eq_true, Bool.and_eq_true, decide_eq_true_eq] at h
  rcases h with (h | h) | h
  · exact .inr (.inl h)
  · exact .inr (.inr h)
  · exact .inl (wide_mul h.1 h.2 (by decide) (by decide) (by decide))
def rMulA : R2 := fun x y H Q => rI CMulW (fun i j => .int (i * j)) x y H Q ∨ rI CMul (fun i j => .int (i * j)) x y H Q
theorem op_mulA : OpR X (binaryOp .Mult) rMulA := op_mulW.or op_mul
theorem od_mul : OpD K rMulA dMul := opd_pure fun x y d e z G H Q hx hy ex h k => by
  cases d <;> cases e <;> first | (simp [dMul] at h; done) | skip
  rename_i i j
  have h' : (if mulOk i j = true then some (PyData.int (i * j)) else none) = some z := h
  by_cases c : mulOk i j = true
  · rw [if_pos c] at h'
    cases h'
    cases hx
    cases hy
    rcases mulOk_wide c with w | w
    · exact .inl ⟨i, j, rfl, rfl, w, k _ (.int _)⟩
    · exact .inr ⟨i, j, rfl, rfl, w, k _ (.int _)⟩
  · rw [if_neg c] at h'
    cases h'
theorem od_fdiv : OpD K (rI CDivW fun i j => .int (i / j)) dFdiv := od_I (gd := fun i j => .int (i / j)) (fun _ _ _ => .int _) fun d e z h => by
  cases d <;> cases e <;> first | (simp [dFdiv] at h; done) | skip
  rename_i i j
  have h' : (if divOk j = true then some (PyData.int (i / j)) else none) = some z := h
  by_cases c : divOk j = true
  · rw [if_pos c] at h'
    cases h'
    unfold divOk at c
    simp only [Bool.and_eq_true, decide_eq_true_eq] at c
    exact ⟨i, j, rfl, rfl, wide_div c.1 c.2 (by decide) (by decide), rfl⟩
  · rw [if_neg c] at h'
    cases h'
theorem od_mod : OpD K (rI (fun _ j => 0 < j) fun i j => .int (i % j)) dMod := od_I (gd := fun i j => .int (i % j)) (fun _ _ _ => .int _) fun d e z h => by
  cases d <;> cases e <;> first | (simp [dMod] at h; done) | skip
  rename_i i j
  have h' : (if 0 < j then some (PyData.int (i % j)) else none) = some z := h
  by_cases c : 0 < j
  · rw [if_pos c] at h'
    cases h'
    exact ⟨i, j, rfl, rfl, c, rfl⟩
  · rw [if_neg c] at h'
    cases h'
theorem od_pow : OpD K (rI CPow fun i j => .int (i ^ j.toNat)) dPow := od_I (gd := fun i j => .int (i ^ j.toNat)) (fun _ _ _ => .int _) fun d e z h => by
  cases d <;> cases e <;> first | (simp [dPow] at h; done) | skip
  rename_i i j
  have h' : (if powOk i j = true then some (PyData.int (i ^ j.toNat)) else none) = some z := h
  by_cases c : powOk i j = true
  · rw [if_pos c] at h'
    cases h'
    unfold powOk at c
    simp only [Bool.and_eq_true, decide_eq_true_eq] at c
    exact ⟨i, j, rfl, rfl, ⟨c.1.1, c.1.2, c.2⟩, rfl⟩
  · rw [if_neg c] at h'
    cases h'
def rAddStr : R2 := fun x y H Q => ∃ i j, x = .str i ∧ y = .str j ∧ i.length + j.length ≤ sizeLine ∧ Q (.str (i ++ j)) H
def rAddA (K : PySem.W.Frag) : R2 := fun x y H Q => rI0 (fun i j => .int (i + j)) x y H Q ∨ rAddStr x y H Q ∨ rCatF K x y H Q
theorem op_addA : OpR X (binaryOp .Add) (rAddA X.K) := op_add.or (OpR.or op_add_str op_catF)
theorem od_add : OpD K (rAddA K) dAdd := fun x y d e z G H Q hx hy ex h k => by
  cases d <;> cases e <;> first | (simp [dAdd] at h; done) | skip
  · rename_i i j
    cases h
    cases hx
    cases hy
    exact .inl ⟨i, j, rfl, rfl, k _ G H (.int _) (Grow.refl ex)⟩
  · rename_i i j
    have h' : (if i.length + j.length ≤ 100000 then some (PyData.str (i ++ j)) else none) = some z := h
    by_cases c : i.length + j.length ≤ 100000
    · rw [if_pos c] at h'
      cases h'
      cases hx
      cases hy
      exact .inr (.inl ⟨i, j, rfl, rfl, lim_size c, k _ G H (.str _) (Grow.refl ex)⟩)
    · rw [if_neg c] at h'
      cases h'
  · rename_i xs ys
    have h' : (if xs.length + ys.length ≤ 100000 then some (PyData.tuple (xs ++ ys)) else none) = some z := h
    by_cases c : xs.length + ys.length ≤ 100000
    · rw [if_pos c] at h'
      cases h'
      cases hx with
      | @tup a vs _ h1 h2 =>
        cases hy with
        | @tup b ws _ h3 h4 =>
          refine .inr (.inr ⟨a, b, vs, ws, rfl, rfl, (ex.n h1).t, (ex.n h3).t, by rw [h2.length, h4.length]; exact lim_size c, fun e => ?_, fun _ e => ?_, fun _ _ p o hp hd => ?_⟩)
          · subst e
            cases h2
            exact k _ G H (.tup h3 h4) (Grow.refl ex)
          · subst e
            cases h4
            rw [List.append_nil] at k
            exact k _ G H (.tup h1 h2) (Grow.refl ex)
          · have g : Grow G H (upd G p (.frz o (.tup (vs ++ ws)))) (upd H p (.frz o (.tup (vs ++ ws)))) := Grow.one ex hp
            exact k _ _ _ (.tup (.inl ⟨o, upd_same, hd⟩) ((h2.append h4).up g.gg)) g
    · rw [if_neg c] at h'
      cases h'
theorem od_eq : OpD K (rEqD K) dEq := opd_pure fun x y d e z G H Q hx hy ex h k => by
  unfold dEq at h
  by_cases c : SeqAt.shaped d = true ∧ SeqAt.shaped e = true
  · rw [if_pos c] at h
    cases h
    exact ⟨d, e, Dv.dp ex d x (SeqAt.canLay_of_shaped c.1) hx, Dv.dp ex e y (SeqAt.canLay_of_shaped c.2) hy, c.1, c.2, k _ (.bl _)⟩
  · rw [if_neg c] at h
    cases h
theorem od_ne : OpD K (rNeD K) dNe := opd_pure fun x y d e z G H Q hx hy ex h k => by
  unfold dNe at h
  by_cases c : SeqAt.shaped d = true ∧ SeqAt.shaped e = true
  · rw [if_pos c] at h
    cases h
    exact ⟨d, e, Dv.dp ex d x (SeqAt.canLay_of_shaped c.1) hx, Dv.dp ex e y (SeqAt.canLay_of_shaped c.2) hy, c.1, c.2, k _ (.bl _)⟩
  · rw [if_neg c] at h
    cases h
theorem dv_none {G : Hp} {x : V} {d : D} (h : Dv K G x d) : decide (x = .non) = isNone d := by
  cases h <;> rfl
def rIsA : R2 := fun x y H Q => (y = .non ∧ Q (.bl (decide (x = .non))) H) ∨ rIsB x y H Q
def rIsntA : R2 := fun x y H Q => (y = .non ∧ Q (.bl (!decide (x = .non))) H) ∨ rNotB x y H Q
theorem op_isA : OpR X (compareOp .Is) rIsA := op_isN.or op_isBl
theorem op_isntA : OpR X (compareOp .IsNot) rIsntA := op_notN.or op_notBl
theorem od_is : OpD K rIsA dIs := opd_pure fun x y d e z G H Q hx hy ex h k => by
  have e0 := dv_none hx
  cases e with
  | none =>
    cases hy
    cases h
    exact .inl ⟨rfl, by rw [e0]; exact k _ (.bl _)⟩
  | bool b =>
    cases d <;> simp [dIs] at h
    subst h
    cases hx
    cases hy
    exact .inr ⟨_, _, rfl, rfl, k _ (.bl _)⟩
  | int i => cases h
  | str i => cases h
  | list i => cases h
  | tuple i => cases h
  | dict i => cases h
theorem od_isnt : OpD K rIsntA dIsnt := opd_pure fun x y d e z G H Q hx hy ex h k => by
  have e0 := dv_none hx
  cases e with
  | none =>
    cases hy
    cases h
    exact .inl ⟨rfl, by rw [e0]; exact k _ (.bl _)⟩
  | bool b =>
    cases d <;> simp [dIsnt] at h
    subst h
    cases hx
    cases hy
    exact .inr ⟨_, _, rfl, rfl, k _ (.bl _)⟩
  | int i => cases h
  | str i => cases h
  | list i => cases h
  | tuple i => cases h
  | dict i => cases h
theorem dv_flat {G : Hp} {x : V} {d : D} (h : Dv K G x d) : flatV x = flatD d := by
  cases h <;> rfl
theorem dv_flats {G : Hp} : ∀ {xs : List V} {ds : List D}, DvAll K G xs ds → xs.all flatV = ds.all flatD
  | _, _, .nil => rfl
  | _, _, .cons a b => by rw [List.all_cons, List.all_cons, dv_flat a, dv_flats b]
theorem eqv_flat {G : Hp} {x y : V} {d e : D} (hx : Dv K G x d) (hy : Dv K G y e) (fx : flatD d = true) (fy : flatD e = true) : eqV x y = PyData.eqv d e := by
  cases hx <;> first | cases fx | skip
  all_goals (cases hy <;> first | cases fy | skip)
  all_goals first | rfl | simp [eqV, PyData.eqv]
theorem any_flat {G : Hp} {x : V} {d : D} (hx : Dv K G x d) (fx : flatD d = true) : ∀ {xs : List V} {ds : List D}, DvAll K G xs ds → ds.all flatD = true → inV x xs = ds.any fun z => PyData.eqv z d
  | _, _, .nil, _ => rfl
  | _, _, .cons a b, f => by
    rw [List.all_cons, Bool.and_eq_true] at f
    have ih := any_flat hx fx b f.2
    unfold inV at ih ⊢
    rw [List.any_cons, List.any_cons, ih, eqv_flat a hx f.1 fx]
theorem seqOf_dv {G H : Hp} (ex : Ex G H) {y : V} {s : D} {ds : List D} (h : Dv K G y s) (e : seqOf s = some ds) : ∃ p xs, y = .ref p ∧ (SqL K H p xs ∨ SqT K H p xs) ∧ DvAll K G xs ds := by
  cases h with
  | lst a b => cases e; exact ⟨_, _, rfl, .inl (ex.rl a).sq, b⟩
  | tup a b => cases e; exact ⟨_, _, rfl, .inr (ex.n a).t, b⟩
  | non => cases e
  | bl _ => cases e
  | int _ => cases e
  | str _ => cases e
  | dct _ _ => cases e
theorem od_in : OpD K (rIn K false) dIn := opd_pure fun x y d e z G H Q hx hy ex h k => by
  unfold dIn at h
  cases q : seqOf e with
  | none => rw [q] at h; cases h
  | some ds =>
    rw [q] at h
    obtain ⟨p, xs, rfl, sq, dv⟩ := seqOf_dv ex hy q
    have h' : (if (flatD d && ds.all flatD) = true then some (PyData.bool (ds.any fun z => PyData.eqv z d)) else none) = some z := h
    by_cases c : (flatD d && ds.all flatD) = true
    · rw [if_pos c] at h'
      cases h'
      rw [Bool.and_eq_true] at c
      refine ⟨p, xs, rfl, sq, by rw [dv_flat hx]; exact c.1, by rw [dv_flats dv]; exact c.2, ?_⟩
      show Q (.bl (inV x xs)) H
      rw [any_flat hx c.1 dv c.2]
      exact k _ (.bl _)
    · rw [if_neg c] at h'
      cases h'
theorem od_notIn : OpD K (rIn K true) dNotIn := opd_pure fun x y d e z G H Q hx hy ex h k => by
  unfold dNotIn at h
  cases q : seqOf e with
  | none => rw [q] at h; cases h
  | some ds =>
    rw [q] at h
    obtain ⟨p, xs, rfl, sq, dv⟩ := seqOf_dv ex hy q
    have h' : (if (flatD d && ds.all flatD) = true then some (PyData.bool (!ds.any fun z => PyData.eqv z d)) else none) = some z := h
    by_cases c : (flatD d && ds.all flatD) = true
    · rw [if_pos c] at h'
      cases h'
      rw [Bool.and_eq_true] at c
      refine ⟨p, xs, rfl, sq, by rw [dv_flat hx]; exact c.1, by rw [dv_flats dv]; exact c.2, ?_⟩
      show Q (.bl (!inV x xs)) H
      rw [any_flat hx c.1 dv c.2]
      exact k _ (.bl _)
    · rw [if_neg c] at h'
      cases h'
theorem atI_dv {G : Hp} {xs : List V} {ds : List D} {i : Int} {z : D} (dv : DvAll K G xs ds) (h : atI ds i = some z) : ∃ v, atI xs i = some v ∧ Dv K G v z := by
  unfold atI at h ⊢
  rw [dv.length]
  cases q : ixN ds.length i with
  | none => rw [q] at h; cases h
  | some j =>
    rw [q] at h
    exact dv.get h
theorem od_ix : OpD K (rIx K) dIx := opd_pure fun x y d e z G H Q hx hy ex h k => by
  cases d <;> cases e <;> first | (simp [dIx] at h; done) | skip
  · rename_i s i
    have h' : (if s.length ≤ 100000 then (atI s.cps.toList i).map (fun c => PyData.str ⟨#[c]⟩) else none) = some z := h
    by_cases c : s.length ≤ 100000
    · rw [if_pos c] at h'
      cases q : atI s.cps.toList i with
      | none => rw [q] at h'; cases h'
      | some ch =>
        rw [q] at h'
        cases h'
        cases hx
        cases hy
        exact .inr (.inr ⟨s, i, ch, rfl, rfl, lim_size c, q, k _ (.str _)⟩)
    · rw [if_neg c] at h'
      cases h'
  · rename_i ds i
    cases hx with
    | @lst a xs _ h1 h2 =>
      cases hy
      obtain ⟨v, hv, dv⟩ := atI_dv h2 h
      exact .inl ⟨a, xs, i, v, rfl, rfl, (ex.rl h1).sq, hv, k v dv⟩
  · rename_i ds i
    cases hx with
    | @tup a xs _ h1 h2 =>
      cases hy
      obtain ⟨v, hv, dv⟩ := atI_dv h2 h
      exact .inr (.inl ⟨a, xs, i, v, rfl, rfl, (ex.n h1).t, hv, k v dv⟩)
def fLen : List D → Option D
  | [.list xs] => some (.int xs.length)
  | [.tuple xs] => some (.int xs.length)
  | [.str x] => if x.length ≤ 100000 then some (.int x.length) else none
  | _ => none
def rLenA (K : PySem.W.Frag) : List V → Hp → VK → Prop := fun xs H Q => (∃ p ys, xs = [.ref p] ∧ (SqL K H p ys ∨ SqT K H p ys) ∧ Q (.int ys.length) H) ∨ (∃ z, xs = [.str z] ∧ z.length ≤ sizeLine ∧ Q (.int z.length) H)
theorem cr_lenA : CallR X (.builtin "len") (rLenA X.K) := call_len_seq.or call_len_str
theorem cd_len : CbD K (rLenA K) fLen := fun xs ds z G H Q hx ex hf k => by
  match ds, hx, hf with
  | [.list ys], .cons (.lst a b) .nil, hf => cases hf; exact .inl ⟨_, _, rfl, .inl (ex.rl a).sq, by rw [b.length]; exact k _ G H (.int _) (Grow.refl ex)⟩
  | [.tuple ys], .cons (.tup a b) .nil, hf => cases hf; exact .inl ⟨_, _, rfl, .inr (ex.n a).t, by rw [b.length]; exact k _ G H (.int _) (Grow.refl ex)⟩
  | [.str s], .cons (.str _) .nil, hf =>
    have h' : (if s.length ≤ 100000 then some (PyData.int s.length) else none) = some z := hf
    by_cases c : s.length ≤ 100000
    · rw [if_pos c] at h'
      cases h'
      exact .inr ⟨s, rfl, lim_size c, k _ G H (.int _) (Grow.refl ex)⟩
    · rw [if_neg c] at h'; cases h'
def fMin : List D → Option D
  | [.int i, .int j] => some (.int (if j < i then j else i))
  | _ => none
theorem cd_min : CbD K (fun xs H Q => ∃ i j, xs = [.int i, .int j] ∧ Q (.int (if j < i then j else i)) H) fMin := fun xs ds z G H Q hx ex hf k => by
  match ds, hx, hf with
  | [.int i, .int j], .cons (.int _) (.cons (.int _) .nil), hf => cases hf; exact ⟨i, j, rfl, k _ G H (.int _) (Grow.refl ex)⟩
/-- int(x) of an int or a truth -/
def fInt : List D → Option D
  | [.int i] => some (.int i)
  | [.bool b] => some (.int (if b then 1 else 0))
  | _ => none
theorem cd_int : CbD K (fun xs H Q => (∃ i, xs = [.int i] ∧ Q (.int i) H) ∨ ∃ k, xs = [.bl k] ∧ Q (.int (if k then 1 else 0)) H) fInt := fun xs ds z G H Q hx ex hf k => by
  match ds, hx, hf with
  | [.int i], .cons (.int _) .nil, hf => cases hf; exact .inl ⟨i, rfl, k _ G H (.int _) (Grow.refl ex)⟩
  | [.bool i], .cons (.bl _) .nil, hf => cases hf; exact .inr ⟨i, rfl, k _ G H (.int _) (Grow.refl ex)⟩
def bools : List D → Option (List Bool)
  | [] => some []
  | .bool b :: ds => (bools ds).map (b :: ·)
  | _ :: _ => none
theorem bools_dv {G : Hp} : ∀ {xs : List V} {ds : List D} {bs : List Bool}, DvAll K G xs ds → bools ds = some bs → xs = bs.map V.bl
  | _, [], _, .nil, h => by cases h; rfl
  | _, .bool b :: ds, bs, .cons (.bl _) t, h => by
    have h' : (bools ds).map (b :: ·) = some bs := h
    cases q : bools ds with
    | none => rw [q] at h'; cases h'
    | some cs =>
      rw [q] at h'
      cases h'
      rw [bools_dv t q]; rfl
  | _, .none :: ds, _, _, h => by cases h
  | _, .int _ :: ds, _, _, h => by cases h
  | _, .str _ :: ds, _, _, h => by cases h
  | _, .list _ :: ds, _, _, h => by cases h
  | _, .tuple _ :: ds, _, _, h => by cases h
  | _, .dict _ :: ds, _, _, h => by cases h
def fAll : List D → Option D
  | [.list ds] => (bools ds).map fun bs => .bool (bs.all id)
  | _ => none
theorem cd_all : CbD K (rAll K) fAll := fun xs ds z G H Q hx ex hf k => by
  match ds, hx, hf with
  | [.list ys], .cons (.lst a b) .nil, hf =>
    have h' : (bools ys).map (fun bs => PyData.bool (bs.all id)) = some z := hf
    cases q : bools ys with
    | none => rw [q] at h'; cases h'
    | some bs =>
      rw [q] at h'
      cases h'
      have e := bools_dv b q
      subst e
      exact ⟨_, bs, rfl, (ex.rl a).sq, k _ G H (.bl _) (Grow.refl ex)⟩
/-- list(x), tuple(x) -/
def fList : List D → Option (List D)
  | [.list xs] => some xs
  | [.tuple xs] => some xs
  | _ => none
theorem cd_list : ClD K (fun xs H Q => ∃ p ys, xs = [.ref p] ∧ (SqL K H p ys ∨ SqT K H p ys) ∧ ∀ l, H l = none → Q (.ref l) (upd H l (.lst ys))) fList := fun xs ds zs G H Q hx ex hf k => by
  match ds, hx, hf with
  | [.list ys], .cons (.lst a b) .nil, hf => cases hf; exact ⟨_, _, rfl, .inl (ex.rl a).sq, fun l hl => k l _ hl b⟩
  | [.tuple ys], .cons (.tup a b) .nil, hf => cases hf; exact ⟨_, _, rfl, .inr (ex.n a).t, fun l hl => k l _ hl b⟩
def fTup : List D → Option D
  | [.list xs] => some (.tuple xs)
  | [.tuple xs] => some (.tuple xs)
  | _ => none
theorem cd_tup : CbD K (fun xs H Q => ∃ p ys, xs = [.ref p] ∧ ((SqL K H p ys ∧ ∀ (l : Addr) (o : Obj), H l = none → o.dict = none → Q (.ref l) (upd H l (.frz o (.tup ys)))) ∨ (SqT K H p ys ∧ Q (.ref p) H))) fTup := fun xs ds z G H Q hx ex hf k => by
  match ds, hx, hf with
  | [.list ys], .cons (.lst a b) .nil, hf =>
    cases hf
    refine ⟨_, _, rfl, .inl ⟨(ex.rl a).sq, fun l o hl hd => ?_⟩⟩
    rename_i vs
    have g : Grow G H (upd G l (.frz o (.tup vs))) (upd H l (.frz o (.tup vs))) := Grow.one ex hl
    exact k _ _ _ (.tup (.inl ⟨o, upd_same, hd⟩) (b.up g.gg)) g
  | [.tuple ys], .cons (.tup a b) .nil, hf => cases hf; exact ⟨_, _, rfl, .inr ⟨(ex.n a).t, k _ G H (.tup a b) (Grow.refl ex)⟩⟩
end
end DL
set_option Elab.async false
set_option linter.all false
set_option maxRecDepth 100000
set_option autoImplicit false
namespace DL
open PySem L2
def getL (i : Nat) (env : DEnv) : Option (List D) := match env[i]? with
  | some (.l xs) => some xs
  | some (.p xs) => some xs
  | _ => none
def putL (i : Nat) (xs : List D) (env : DEnv) : DEnv := match env[i]? with
  | some (.l _) => env.set i (.l xs)
  | some (.p _) => env.set i (.p xs)
  | _ => env
section
variable {K : PySem.W.Frag} {mg : Str → Option Value} {W : WX} {env : DEnv} {σ : L2.St} {G H : Hp} {i : Nat} {xs : List D}
theorem getL_some (h : getL i env = some xs) : env[i]? = some (.l xs) ∨ env[i]? = some (.p xs) := by
  unfold getL at h
  cases q : env[i]? with
  | none => rw [q] at h; cases h
  | some s =>
    rw [q] at h
    cases s with
    | l ys => cases h; exact .inl rfl
    | p ys => cases h; exact .inr rfl
    | no => cases h
    | v d => cases h
    | n _ => cases h
    | m d => cases h
    | f d => cases h
    | a d _ _ => cases h
    | t d => cases h
    | u d => cases h
theorem own_get (R : Rel K env σ G H) (h : getL i env = some xs) : ∃ a vs, σ[i]? = some (some (.ref a)) ∧ H a = some (.lst vs) ∧ G a = none ∧ DvAll K G vs xs ∧ OwnAt env σ H i a := by
  rcases getL_some h with q | q
  · have li : i < σ.length := by rw [← R.len]; exact (List.getElem?_eq_some_iff.mp q).1
    have ho : σ[i]? = some σ[i] := List.getElem?_eq_getElem li
    obtain ⟨a, vs, e, h1, h2, h3⟩ := R.slot i _ _ q ho
    rw [e] at ho
    exact ⟨a, vs, ho, h1, h2, h3, .of q rfl ho⟩
  · have li : i < σ.length := by rw [← R.len]; exact (List.getElem?_eq_some_iff.mp q).1
    have ho : σ[i]? = some σ[i] := List.getElem?_eq_getElem li
    obtain ⟨a, vs, e, h1, h2, h3⟩ := R.slot i _ _ q ho
    rw [e] at ho
    exact ⟨a, vs, ho, h1, h2, h3, .of q rfl ho⟩
/-- one thing of a slot's own is changed -/
theorem Rel.own1 {s0 s1 : Sl} {a : Addr} {o1 : HO} (R : Rel K env σ G H) (hi : env[i]? = some s0) (hs0 : s0.lst = true) (ho : σ[i]? = some (some (.ref a))) (n : RS K G (upd H a o1) s1 (some (.ref a))) (hw : ∀ b, OwnS (upd H a o1) s1 (some (.ref a)) b → b = a) (pk : s1.pk = s0.pk) :
    Rel K (env.set i s1) σ G (upd H a o1) ∧ Fr env σ G H (env.set i s1) σ G (upd H a o1) := by
  have li : i < env.length := (List.getElem?_eq_some_iff.mp hi).1
  have o : OwnAt env σ H i a := .of hi hs0 ho
  obtain ⟨hne, h2⟩ := o.there R
  have k : ∀ j b, j ≠ i → OwnAt env σ H j b → upd H a o1 b = H b ∧ G b = none := fun j b ne w => ⟨upd_ne fun z => (by subst z; exact ne (R.dist j i b w o)), (w.there R).2⟩
  refine ⟨(R.put li rfl ho (fun _ _ => rfl) (fun b u hb => ?_) (Ex.refl _) k n fun b w j ne w2 => ?_).1, Fr.put (s1 := s1) (o1 := some (.ref a)) R li ho (fun _ _ => rfl) (Ex.refl _) k (fun b u hb hn => ?_) (fun b hb => ?_) (fun b hb => .inl hb) (fun b w => ?_) fun z => ⟨rfl, s0, hi, pk.symm⟩⟩
  · rw [upd_ne (fun z => by subst z; rw [h2] at hb; cases hb)]
    exact R.ex b u hb
  · rw [hw b w] at w2
    exact ne (R.dist j i a w2 o)
  · rw [upd_ne (fun z => by subst z; exact hn ⟨i, o⟩)]
    exact hb
  · by_cases c : b = a
    · subst c; rw [upd_same] at hb; cases hb
    · rw [upd_ne c] at hb; exact hb
  · rw [hw b w]
    exact .inl ⟨i, o⟩
/-- the list of slot i is changed -/
theorem own_put (R : Rel K env σ G H) (h : getL i env = some xs) {a : Addr} {vs vs' : List V} {ys : List D} (ho : σ[i]? = some (some (.ref a))) (h1 : H a = some (.lst vs)) (h2 : G a = none) (o : OwnAt env σ H i a) (dv : DvAll K G vs' ys) :
    Rel K (putL i ys env) σ G (upd H a (.lst vs')) ∧ Fr env σ G H (putL i ys env) σ G (upd H a (.lst vs')) := by
  unfold putL
  rcases getL_some h with q | q
  · rw [q]
    exact R.own1 (s1 := .l ys) q rfl ho ⟨a, vs', rfl, upd_same, h2, dv⟩ (fun b w => by cases w; rfl) rfl
  · rw [q]
    exact R.own1 (s1 := .p ys) q rfl ho ⟨a, vs', rfl, upd_same, h2, dv⟩ (fun b w => by cases w; rfl) rfl
end
def known (i : Nat) (env : DEnv) : Bool := match env[i]? with
  | some .no => false
  | some _ => true
  | none => false
def ixAt (i : Nat) (k : D) (e1 : DEnv) : Rs D := match e1[i]? with
  | some (.v d) => put (dIx d k) e1
  | some (.l xs) => put (dIx (.list xs) k) e1
  | some (.p xs) => put (dIx (.list xs) k) e1
  | _ => .stuck
def eIxN (i : Nat) (db : DE) : DE := fun env => if known i env then (db env).bind fun k e1 => ixAt i k e1 else .stuck
section
variable {X : Cx} {W : WX} {pos : Pos} {b e : Expr} {db de : DE}
/-- a name's value as it stands: data, or a list of the def's own (to be read at once) -/
theorem peekV {K : PySem.W.Frag} {env : DEnv} {σ : L2.St} {G H : Hp} {i : Nat} {s : Sl} (R : Rel K env σ G H) (h : env[i]? = some s) : ∃ o, σ[i]? = some o ∧ RS K G H s o := by
  have li : i < σ.length := by rw [← R.len]; exact (List.getElem?_eq_some_iff.mp h).1
  exact ⟨_, List.getElem?_eq_getElem li, R.slot i s _ h (List.getElem?_eq_getElem li)⟩
theorem known_v {K : PySem.W.Frag} {env : DEnv} {σ : L2.St} {G H : Hp} {i : Nat} (R : Rel K env σ G H) (h : known i env = true) : ∃ v, σ[i]? = some (some v) := by
  unfold known at h
  cases q : env[i]? with
  | none => rw [q] at h; cases h
  | some s =>
    rw [q] at h
    obtain ⟨o, ho, rs⟩ := peekV R q
    cases s with
    | no => cases h
    | v d => obtain ⟨v, e, _⟩ := rs; exact ⟨v, by rw [ho, e]⟩
    | l d => obtain ⟨v, _, e, _⟩ := rs; exact ⟨_, by rw [ho, e]⟩
    | p d => obtain ⟨v, _, e, _⟩ := rs; exact ⟨_, by rw [ho, e]⟩
    | n _ => obtain ⟨v, e, _⟩ := rs; exact ⟨_, by rw [ho, e]⟩
    | m d => obtain ⟨v, _, e, _⟩ := rs; exact ⟨_, by rw [ho, e]⟩
    | f d => exact ⟨_, by rw [ho, rs]⟩
    | a d _ _ => exact ⟨_, by rw [ho, rs.1]⟩
    | t d => obtain ⟨v, e, _⟩ := rs; exact ⟨_, by rw [ho, e]⟩
    | u d => obtain ⟨v, e, _⟩ := rs; exact ⟨_, by rw [ho, e]⟩
theorem ixAt_ok {K : PySem.W.Frag} {mg : Str → Option Value} {e1 : DEnv} {σ : L2.St} {G1 H1 : Hp} {i : Nat} {k : D} {v y : V} {Q : VK} (R1 : Rel K e1 σ G1 H1) (hv : σ[i]? = some (some v)) (dv : Dv K G1 y k) (h1 : RunE K mg W e1 σ G1 H1 (ixAt i k e1) Q) : rIx K v y H1 Q := by
  unfold ixAt at h1
  cases q : e1[i]? with
  | none => rw [q] at h1; exact h1.elim
  | some s =>
    rw [q] at h1
    obtain ⟨o, ho, rs⟩ := peekV R1 q
    rw [hv] at ho
    cases ho
    have own : ∀ xs : List D, (∃ a vs, some v = some (V.ref a) ∧ H1 a = some (.lst vs) ∧ G1 a = none ∧ DvAll K G1 vs xs) → RunE K mg W e1 σ G1 H1 (put (dIx (.list xs) k) e1) Q → rIx K v y H1 Q := fun xs rs h1 => by
      obtain ⟨a, vs, e, g1, g2, g3⟩ := rs
      cases e
      obtain ⟨z, ez, kk⟩ := RunE.put R1 h1
      cases k with
      | int n =>
        cases dv
        obtain ⟨u, hu, du⟩ := atI_dv g3 ez
        exact .inl ⟨a, vs, n, u, rfl, rfl, .inl (.inl g1), hu, kk u G1 H1 du (Grow.refl R1.ex)⟩
      | none => cases ez
      | bool _ => cases ez
      | str _ => cases ez
      | list _ => cases ez
      | tuple _ => cases ez
      | dict _ => cases ez
    cases s with
    | no => exact h1.elim
    | n _ => exact h1.elim
    | m xs => exact h1.elim
    | f xs => exact h1.elim
    | a xs _ _ => exact h1.elim
    | t xs => exact h1.elim
    | u xs => exact h1.elim
    | v d =>
      obtain ⟨w, e, dw⟩ := rs
      cases e
      obtain ⟨z, ez, kk⟩ := RunE.put R1 h1
      exact od_ix v y d k z G1 H1 Q dw dv R1.ex ez kk
    | l xs => exact own xs rs h1
    | p xs => exact own xs rs h1
theorem if_run {α : Type} {c : Bool} {r : Rs α} {P : Rs α → Prop} (h : P (if c = true then r else .stuck)) (hst : ¬ P .stuck) : c = true ∧ P r := by
  cases c with
  | true => exact ⟨rfl, h⟩
  | false => exact (hst h).elim
theorem ce_ixN (i : Nat) {x : Str} {p : Pos} (hb : CE X W b db) (hs : PlainIx b) (hN : X.N[i]? = some x := by rfl) (hv : Vis X.env.scope x := by first | exact Or.inl rfl | exact Or.inr (Or.inl rfl) | exact Or.inr (Or.inr rfl)) (hd : (x == ("__debug__" : Str)) = false := by decide)
    (hcd : (x == ("__classdict__" : Str)) = false := by decide) : CE X W (.Subscript (.Name x p) b pos) (eIxN i db) := pe_imp (pe_ix ix_seq (pe_var hN hv hd hcd) hb hs) fun σ H Q h => by
  obtain ⟨env, G, R, h⟩ := h
  obtain ⟨c, h⟩ := if_run (P := fun r => RunE X.K X.mg W env σ G H r Q) h fun z => z
  obtain ⟨v, hv⟩ := known_v R c
  exact ⟨v, hv, E_thenE R h fun k e1 y G1 H1 _ R1 dv F1 h1 => ixAt_ok R1 hv dv h1⟩
def sSetO (i : Nat) (dk dv : DE) : DS := fun env => (dv env).fl fun v e1 => if known i e1 then (dk e1).fl fun k e2 => match getL i e2, k with
  | some xs, .int n => match ixN xs.length n with
    | some j => .nx (putL i (xs.set j v) e2)
    | none => .stuck
  | _, _ => .stuck else .stuck
theorem cs_setO (i : Nat) {x : Str} {p p2 : Pos} (hk : CE X W b db) (he : CE X W e de) (hN : X.N[i]? = some x := by rfl) (hv : Vis X.env.scope x := by first | exact Or.inl rfl | exact Or.inr (Or.inl rfl) | exact Or.inr (Or.inr rfl)) (hd : (x == ("__debug__" : Str)) = false := by decide)
    (hcd : (x == ("__classdict__" : Str)) = false := by decide) (hs : swapsWithSole [.Subscript (.Name x p) b p2] e pos.line X.env = pure false := by rfl) (hw : swappedStores [.Subscript (.Name x p) b p2] e X.env = pure none := by rfl)
    (h1 : (assignEach [.Subscript (.Name x p) b p2] X.env).map (·.2) = [assign (.Subscript (.Name x p) b p2) X.env] := by rfl)
    (ha : ∀ v, assign (.Subscript (.Name x p) b p2) X.env v = (do
      let ov ← holding [v] (eval (.Name x p) X.env)
      let iv ← holding [v, ov] (eval b X.env)
      standAt p2
      holding [v, ov, iv] (setItem ov iv v)
      release [v, ov, iv] []) := by intro _; rfl) : CS X W (.Assign [.Subscript (.Name x p) b p2] e pos) (sSetO i db de) :=
  ps_imp (ps_asg he (pg_sub (pe_var hN hv hd hcd) hk set_list ha) hs hw h1) fun E σ H h => by
    obtain ⟨env, G, R, h⟩ := h
    refine E_thenS R h fun d e1 v G1 H1 _ R1 dv F1 h1 => ?_
    by_cases c : known i e1 = true
    · rw [if_pos c] at h1
      obtain ⟨o, ho⟩ := known_v R1 c
      refine ⟨o, ho, E_thenS R1 h1 fun k e2 y G2 H2 _ R2 dk F2 h2 => ?_⟩
      cases q : getL i e2 with
      | none => rw [q] at h2; exact h2.elim
      | some xs =>
        rw [q] at h2
        cases k with
        | int n =>
          cases dk
          obtain ⟨a, vs, x1, x2, x3, x4, x5⟩ := own_get R2 q
          rw [ho] at x1
          cases x1
          have h3 : RunS X.K X.mg W e2 σ G2 H2 (match ixN xs.length n with
            | some j => .nx (putL i (xs.set j d) e2)
            | none => .stuck) E := h2
          cases q2 : ixN xs.length n with
          | none => rw [q2] at h3; exact h3.elim
          | some j =>
            rw [q2] at h3
            obtain ⟨r1, r2⟩ := own_put R2 q ho x2 x3 x5 (x4.set (dv.up F2.gg) j)
            exact ⟨a, vs, n, j, rfl, rfl, x2, by rw [x4.length]; exact q2, h3 σ G2 _ r1 r2⟩
        | none => exact h2.elim
        | bool _ => exact h2.elim
        | str _ => exact h2.elim
        | list _ => exact h2.elim
        | tuple _ => exact h2.elim
        | dict _ => exact h2.elim
    · rw [if_neg c] at h1
      exact h1.elim
def OwnM (K : PySem.W.Frag) (r : V → List V → Hp → VK → Prop) (f : List D → List D → Option (D × List D)) : Prop := ∀ (l : Addr) (vs ws : List V) (xs args : List D) (z : D) (ys : List D) (G H : Hp) (Q : VK),
  H l = some (.lst vs) → DvAll K G vs xs → DvAll K G ws args → Ex G H → G l = none → f xs args = some (z, ys) → (∀ v vs', Dv K G v z → DvAll K G vs' ys → Q v (upd H l (.lst vs'))) → r (.ref l) ws H Q
def eMO (i : Nat) (f : List D → List D → Option (D × List D)) (da : DA) : DE := fun env => if (getL i env).isSome then (da env).bind fun args e1 => match getL i e1 with
  | some xs => match f xs args with
    | some (z, ys) => .ok z (putL i ys e1)
    | none => .stuck
  | none => .stuck else .stuck
theorem mo_ok {K : PySem.W.Frag} {mg : Str → Option Value} {r : V → List V → Hp → VK → Prop} {f : List D → List D → Option (D × List D)} (o : OwnM K r f) {i : Nat} {e1 : DEnv} {σ : L2.St} {G1 H1 : Hp} {args : List D} {ws : List V} {l : Addr} {Q : VK} (R1 : Rel K e1 σ G1 H1)
    (hl : σ[i]? = some (some (.ref l))) (dw : DvAll K G1 ws args) (h1 : RunE K mg W e1 σ G1 H1 (match getL i e1 with
      | some xs => match f xs args with
        | some (z, ys) => .ok z (putL i ys e1)
        | none => .stuck
      | none => .stuck) Q) : r (.ref l) ws H1 Q := by
  cases q : getL i e1 with
  | none => rw [q] at h1; exact h1.elim
  | some xs =>
    rw [q] at h1
    obtain ⟨a, vs, x1, x2, x3, x4, x5⟩ := own_get R1 q
    rw [hl] at x1
    cases x1
    have h2 : RunE K mg W e1 σ G1 H1 (match f xs args with
      | some (z, ys) => .ok z (putL i ys e1)
      | none => .stuck) Q := h1
    cases q2 : f xs args with
    | none => rw [q2] at h2; exact h2.elim
    | some p =>
      obtain ⟨z, ys⟩ := p
      rw [q2] at h2
      refine o l vs ws xs args z ys G1 H1 Q x2 x4 dw R1.ex x3 q2 fun v vs' dz dvs => ?_
      obtain ⟨r1, r2⟩ := own_put R1 q hl x2 x3 x5 dvs
      exact h2 v G1 _ r1 dz r2
theorem ce_mo (i : Nat) {x name : Str} {p apos : Pos} {id : String} {r : V → List V → Hp → VK → Prop} {f : List D → List D → Option (D × List D)} {es : List Expr} {da : DA} (o : OwnM X.K r f) (slot : Slot "list" name id) (hty : typeOf (.builtin id) = pure (.type "method_descriptor")) (hm : MtR X id r) (ha : CA X W (e :: es) da)
    (hN : X.N[i]? = some x := by rfl) (hv : Vis X.env.scope x := by first | exact Or.inl rfl | exact Or.inr (Or.inl rfl) | exact Or.inr (Or.inr rfl)) (hd : (x == ("__debug__" : Str)) = false := by decide) (hcd : (x == ("__classdict__" : Str)) = false := by decide)
    (hbase : attributeBase (.Name x p) name X.env (eval (.Name x p) X.env) = eval (.Name x p) X.env := by rfl)
    (hfew : ((backTo pos (starEach (e :: es) X.env)).all (fun x => !x.1) && (backToKw pos (keywordEach [] X.env)).all (fun x => x.1.isSome)
      && decide ((e :: es).length + ([] : List Keyword).length + (if ([] : List Keyword).isEmpty then 0 else 1) < 30)) = true := by rfl)
    (hline : (apos.endLine == pos.line) = true := by rfl) (hs : starEach (e :: es) X.env = (false, eval e X.env) :: starEach es X.env := by rfl) (hplain : (backTo pos (starEach es X.env)).any (·.1) = false := by rfl) :
    CE X W (.Call (.Attribute (.Name x p) name apos) (e :: es) [] pos) (eMO i f da) := pe_imp (pe_bm PySem.F.plainAttrs_list slot hty hm (pe_var hN hv hd hcd) ha hbase hfew hline hs hplain) fun σ H Q h => by
  obtain ⟨env, G, R, h⟩ := h
  obtain ⟨c, h⟩ := if_run (P := fun r => RunE X.K X.mg W env σ G H r Q) h fun z => z
  cases q : getL i env with
  | none => rw [q] at c; cases c
  | some xs =>
    obtain ⟨a, vs, x1, x2, x3, x4, x5⟩ := own_get R q
    exact ⟨_, x1, .inl ⟨rfl, _, .inl (.inl x2)⟩, A_thenE R h fun args e1 ws G1 H1 _ R1 dw F1 h1 => mo_ok o R1 x1 dw h1⟩
noncomputable def mInsert : List D → List D → Option (D × List D)
  | xs, [.int i, d] => if xs.length < 100000 ∧ 0 ≤ i ∧ I63 i then some (.none, xs.take i.toNat ++ [d] ++ xs.drop i.toNat) else none
  | _, _ => none
noncomputable def mPopAt : List D → List D → Option (D × List D)
  | xs, [.int i] => if I63 i then match seqIndex? i xs.length with
      | some k => match xs[k]? with
        | some y => some (y, xs.eraseIdx k)
        | none => none
      | none => none
    else none
  | _, _ => none
theorem lt_size {n : Nat} (h : n < 100000) : n < sizeLine := Nat.lt_of_lt_of_le h (by decide)
theorem om_insert {K : PySem.W.Frag} : OwnM K (fun x vs H Q => ∃ (l : Addr) (xs : List V) (i : Int) (y : V), x = .ref l ∧ vs = [.int i, y] ∧ H l = some (.lst xs) ∧ xs.length < sizeLine ∧ 0 ≤ i ∧ i < 2 ^ 63 ∧
    Q .non (upd H l (.lst (xs.take i.toNat ++ [y] ++ xs.drop i.toNat)))) mInsert := fun l vs ws xs args z ys G H Q h1 h2 h3 ex hg hf k => by
  match args, h3, hf with
  | [.int i, d], .cons (.int _) (.cons (v := v) a .nil), hf =>
    have hf' : (if xs.length < 100000 ∧ 0 ≤ i ∧ I63 i then some (PyData.none, xs.take i.toNat ++ [d] ++ xs.drop i.toNat) else none) = some (z, ys) := hf
    by_cases c : xs.length < 100000 ∧ 0 ≤ i ∧ I63 i
    · rw [if_pos c] at hf'
      cases hf'
      exact ⟨l, vs, i, v, rfl, rfl, h1, by rw [h2.length]; exact lt_size c.1, c.2.1, c.2.2.2, k _ _ .non (((h2.take _).append (.one a)).append (h2.drop _))⟩
    · rw [if_neg c] at hf'; cases hf'
theorem om_popAt {K : PySem.W.Frag} : OwnM K rPopAt mPopAt := fun l vs ws xs args z ys G H Q h1 h2 h3 ex hg hf k => by
  match args, h3, hf with
  | [.int i], .cons (.int _) .nil, hf =>
    have hf' : (if I63 i then match seqIndex? i xs.length with
      | some k => match xs[k]? with
        | some y => some (y, xs.eraseIdx k)
        | none => none
      | none => none
      else none) = some (z, ys) := hf
    by_cases c : I63 i
    · rw [if_pos c] at hf'
      cases q : seqIndex? i xs.length with
      | none => rw [q] at hf'; cases hf'
      | some j =>
        rw [q] at hf'
        have hf2 : (match xs[j]? with
          | some y => some (y, xs.eraseIdx j)
          | none => none) = some (z, ys) := hf'
        cases q2 : xs[j]? with
        | none => rw [q2] at hf2; cases hf2
        | some y =>
          rw [q2] at hf2
          cases hf2
          obtain ⟨v, hv, dv⟩ := h2.get q2
          exact ⟨l, vs, i, j, v, rfl, rfl, h1, c.1, c.2, by rw [h2.length]; exact q, hv, k _ _ dv (h2.eraseIdx j)⟩
    · rw [if_neg c] at hf'; cases hf'
def seeL (i : Nat) (env : DEnv) : Option (List D) := match env[i]? with
  | some (.l xs) => some xs
  | some (.p xs) => some xs
  | some (.v (.list xs)) => some xs
  | _ => none
theorem see_list {K : PySem.W.Frag} {env : DEnv} {σ : L2.St} {G H : Hp} {i : Nat} {xs : List D} (R : Rel K env σ G H) (h : seeL i env = some xs) : ∃ a vs, σ[i]? = some (some (.ref a)) ∧ SqL K H a vs ∧ DvAll K G vs xs := by
  unfold seeL at h
  cases q : env[i]? with
  | none => rw [q] at h; cases h
  | some s =>
    rw [q] at h
    obtain ⟨o, ho, rs⟩ := peekV R q
    cases s with
    | l ys =>
      cases h
      obtain ⟨a, vs, e, h1, h2, h3⟩ := rs
      exact ⟨a, vs, by rw [ho, e], .inl (.inl h1), h3⟩
    | p ys =>
      cases h
      obtain ⟨a, vs, e, h1, h2, h3⟩ := rs
      exact ⟨a, vs, by rw [ho, e], .inl (.inl h1), h3⟩
    | no => cases h
    | n _ => cases h
    | m d => cases h
    | f d => cases h
    | a d _ _ => cases h
    | t d => cases h
    | u d => cases h
    | v d =>
      cases d with
      | list ys =>
        cases h
        obtain ⟨v, e, dv⟩ := rs
        cases dv with
        | @lst a ws _ h2 h3 => exact ⟨a, ws, by rw [ho, e], (R.ex.rl h2).sq, h3⟩
      | none => cases h
      | bool _ => cases h
      | int _ => cases h
      | str _ => cases h
      | dict _ => cases h
      | tuple _ => cases h
/-- len(x) -/
def eLenO (i : Nat) : DE := fun env => match seeL i env with
  | some xs => .ok (.int xs.length) env
  | none => .stuck
theorem ce_lenO (i : Nat) {x : Str} {p p2 : Pos} (hm : X.mg "len" = none) (hN : X.N[i]? = some x := by rfl) (hv : Vis X.env.scope x := by first | exact Or.inl rfl | exact Or.inr (Or.inl rfl) | exact Or.inr (Or.inr rfl)) (hd : (x == ("__debug__" : Str)) = false := by decide) (hcd : (x == ("__classdict__" : Str)) = false := by decide)
    (hg : Gl X "len" := by rfl) (hs : starEach [.Name x p] X.env = (false, eval (.Name x p) X.env) :: starEach [] X.env := by rfl) (hpl : (backTo pos (starEach [] X.env)).any (·.1) = false := by rfl) : CE X W (.Call (.Name "len" p2) [.Name x p] [] pos) (eLenO i) :=
  pe_imp (pe_callB call_len_seq hg hm PySem.boot_len (pa_cons (pe_var hN hv hd hcd) pa_nil hs) (by decide) (by decide) hs hpl) fun σ H Q h => by
    obtain ⟨env, G, R, h⟩ := h
    unfold eLenO at h
    cases q : seeL i env with
    | none => rw [q] at h; exact h.elim
    | some xs =>
      rw [q] at h
      obtain ⟨a, vs, x1, x2, x4⟩ := see_list R q
      exact ⟨_, x1, a, vs, rfl, .inl x2, by rw [x4.length]; exact h _ G H R (.int _) (Fr.refl _ _ _ _)⟩
/-- tuple(x) -/
def eTupO (i : Nat) : DE := fun env => match seeL i env with
  | some xs => .ok (.tuple xs) env
  | none => .stuck
theorem ce_tupO (i : Nat) {x : Str} {p p2 : Pos} (hm : X.mg "tuple" = none) (hN : X.N[i]? = some x := by rfl) (hv : Vis X.env.scope x := by first | exact Or.inl rfl | exact Or.inr (Or.inl rfl) | exact Or.inr (Or.inr rfl)) (hd : (x == ("__debug__" : Str)) = false := by decide) (hcd : (x == ("__classdict__" : Str)) = false := by decide)
    (hg : Gl X "tuple" := by rfl) (hs : starEach [.Name x p] X.env = (false, eval (.Name x p) X.env) :: starEach [] X.env := by rfl) (hpl : (backTo pos (starEach [] X.env)).any (·.1) = false := by rfl) : CE X W (.Call (.Name "tuple" p2) [.Name x p] [] pos) (eTupO i) :=
  pe_imp (pe_callTy call_tuple_ofF hg hm (by decide +kernel) (pa_cons (pe_var hN hv hd hcd) pa_nil hs) (by decide) (by decide) hs hpl) fun σ H Q h => by
    obtain ⟨env, G, R, h⟩ := h
    unfold eTupO at h
    cases q : seeL i env with
    | none => rw [q] at h; exact h.elim
    | some xs =>
      rw [q] at h
      obtain ⟨a, vs, x1, x2, x4⟩ := see_list R q
      refine ⟨_, x1, a, vs, rfl, .inl ⟨x2, fun l o hl hd => ?_⟩⟩
      have g : Grow G H (upd G l (.frz o (.tup vs))) (upd H l (.frz o (.tup vs))) := Grow.one R.ex hl
      exact h _ _ _ (R.grow g) (.tup (.inl ⟨o, upd_same, hd⟩) (x4.up g.gg)) (g.fr R)
end
end DL
set_option Elab.async false
set_option linter.all false
set_option maxRecDepth 100000
set_option autoImplicit false
namespace DL
open PySem L2
def cutD (xs : List D) (lo hi : Option Int) : List D := (xs.drop (HT.sIx xs.length 0 lo)).take (HT.sIx xs.length xs.length hi - HT.sIx xs.length 0 lo)
def dSl (d : D) (lo hi : Option Int) : Option D := match d with
  | .list xs => some (.list (cutD xs lo hi))
  | .tuple xs => some (.tuple (cutD xs lo hi))
  | .str z => if z.length ≤ 100000 then some (.str (cutS z lo hi)) else none
  | _ => none
/-- an end of a slice -/
inductive Pt where
  | no
  | of (de : DE)
def Pt.run (p : Pt) (env : DEnv) : Rs (Option Int) := match p with
  | .no => .ok none env
  | .of de => (de env).bind fun d e1 => match d with
    | .int i => .ok (some i) e1
    | _ => .stuck
def eSl (de : DE) (lo hi : Pt) : DE := fun env => (de env).bind fun d e1 => (lo.run e1).bind fun l e2 => (hi.run e2).bind fun u e3 => put (dSl d l u) e3
section
variable {K : PySem.W.Frag} {mg : Str → Option Value} {W : WX}
def RunO (env : DEnv) (σ : L2.St) (G H : Hp) (r : Rs (Option Int)) (Q : Option Int → Hp → Prop) (K : PySem.W.Frag) (mg : Str → Option Value) (W : WX) : Prop := match r with
  | .ok o env' => ∀ G' H', Rel K env' σ G' H' → Fr env σ G H env' σ G' H' → Q o H'
  | .ex x env' => RunX K mg W env σ G H x env'
  | .stuck => False
def rdO (K : PySem.W.Frag) (mg : Str → Option Value) (W : WX) (p : Pt) : TO := fun σ H Q => ∃ env G, Rel K env σ G H ∧ RunO env σ G H (p.run env) Q K mg W
theorem O_thenE {env : DEnv} {σ : L2.St} {G H : Hp} {p : Pt} {f : Option Int → DEnv → Rs D} {Q : VK} {R : Option Int → Hp → Prop} (hR : Rel K env σ G H) (h : RunE K mg W env σ G H ((p.run env).bind f) Q)
    (k : ∀ o e1 G1 H1, p.run env = .ok o e1 → Rel K e1 σ G1 H1 → Fr env σ G H e1 σ G1 H1 → RunE K mg W e1 σ G1 H1 (f o e1) Q → R o H1) : rdO K mg W p σ H R := by
  refine ⟨env, G, hR, ?_⟩
  cases q : p.run env with
  | ok d e1 =>
    rw [q] at h
    exact fun G1 H1 a c => k d e1 G1 H1 q a c (RunE.shift h c)
  | ex x e => rw [q] at h; exact h
  | stuck => rw [q] at h; exact h
def rSlAny (K : PySem.W.Frag) : V → Option Int → Option Int → Hp → VK → Prop := fun x lo hi H Q => rSlF K x lo hi H Q ∨ rSlL K x lo hi H Q ∨ rSlS x lo hi H Q
theorem sl_any {X : Cx} : SlR X (rSlAny X.K) := sl_tupF.or (sl_list.or sl_str)
theorem cut_dv {G : Hp} {xs : List V} {ds : List D} (dv : DvAll K G xs ds) (lo hi : Option Int) : DvAll K G (cutV xs lo hi) (cutD ds lo hi) := by
  unfold cutV cutD
  rw [dv.length]
  exact (dv.drop _).take _
theorem cut_whole (ds : List D) (lo hi : Option Int) (h : HT.sIx ds.length 0 lo = 0 ∧ HT.sIx ds.length ds.length hi = ds.length) : cutD ds lo hi = ds := by
  unfold cutD
  rw [h.1, h.2]
  simp
theorem sl_d {x : V} {d z : D} {lo hi : Option Int} {G H : Hp} {Q : VK} (hx : Dv K G x d) (ex : Ex G H) (hf : dSl d lo hi = some z) (k : ∀ v G' H', Dv K G' v z → Grow G H G' H' → Q v H') : rSlAny K x lo hi H Q := by
  cases hx with
  | @tup a xs ds h1 h2 =>
    cases hf
    refine .inl ⟨a, xs, rfl, (ex.n h1).t, fun w => ?_, fun w p o hp hd => ?_⟩
    · rw [h2.length] at w
      rw [cut_whole ds lo hi w] at k
      exact k _ G H (.tup h1 h2) (Grow.refl ex)
    · have g : Grow G H (upd G p (.frz o (.tup (cutV xs lo hi)))) (upd H p (.frz o (.tup (cutV xs lo hi)))) := Grow.one ex hp
      exact k _ _ _ (.tup (.inl ⟨o, upd_same, hd⟩) ((cut_dv h2 lo hi).up g.gg)) g
  | @lst a xs ds h1 h2 =>
    cases hf
    refine .inr (.inl ⟨a, xs, rfl, (ex.rl h1).sq, fun p hp => ?_⟩)
    have g : Grow G H (upd G p (.lst (cutV xs lo hi))) (upd H p (.lst (cutV xs lo hi))) := Grow.one ex hp
    exact k _ _ _ (.lst (.of upd_same) ((cut_dv h2 lo hi).up g.gg)) g
  | str s =>
    have hf' : (if s.length ≤ 100000 then some (PyData.str (cutS s lo hi)) else none) = some z := hf
    by_cases c : s.length ≤ 100000
    · rw [if_pos c] at hf'
      cases hf'
      exact .inr (.inr ⟨s, rfl, lim_size c, k _ G H (.str _) (Grow.refl ex)⟩)
    · rw [if_neg c] at hf'; cases hf'
  | non => cases hf
  | bl _ => cases hf
  | int _ => cases hf
  | dct _ _ => cases hf
end
section
variable {X : Cx} {W : WX} {pos : Pos} {e : Expr} {de : DE}
abbrev CO (X : Cx) (W : WX) (e : Option Expr) (p : Pt) : Prop := PO X e (rdO X.K X.mg W p)
theorem po_imp {e : Option Expr} {t t' : TO} (h : PO X e t) (k : ∀ σ H Q, t' σ H Q → t σ H Q) : PO X e t' := ⟨fun pins s σ H Q I w => h.run pins s σ H Q I (k σ H Q w)⟩
theorem co_none : CO X W none .no := po_imp po_none fun σ H Q h => by
  obtain ⟨env, G, R, h⟩ := h
  exact h G H R (Fr.refl _ _ _ _)
theorem co_some (h : CE X W e de) : CO X W (some e) (.of de) := po_imp (po_some h) fun σ H Q h => by
  obtain ⟨env, G, R, h⟩ := h
  refine ⟨env, G, R, ?_⟩
  have h' : RunO env σ G H ((de env).bind fun d e1 => match d with
    | .int i => .ok (some i) e1
    | _ => .stuck) Q X.K X.mg W := h
  cases q : de env with
  | stuck => rw [q] at h'; exact h'
  | ex x e => rw [q] at h'; exact h'
  | ok d e1 =>
    rw [q] at h'
    intro v G1 H1 R1 dv F1
    cases dv with
    | int i => exact ⟨i, rfl, h' G1 H1 R1 F1⟩
    | non => exact h'.elim
    | bl _ => exact h'.elim
    | str _ => exact h'.elim
    | lst _ _ => exact h'.elim
    | tup _ _ => exact h'.elim
    | dct _ _ => exact h'.elim
theorem ce_sl {lo hi : Option Expr} {pl ph : Pt} {p2 : Pos} (he : CE X W e de) (hl : CO X W lo pl) (hh : CO X W hi ph) : CE X W (.Subscript e (.Slice lo hi none p2) pos) (eSl de pl ph) := pe_imp (pe_slice sl_any he hl hh) fun σ H Q h => by
  obtain ⟨env, G, R, h⟩ := h
  refine E_thenE R h fun d e1 v G1 H1 _ R1 dv F1 h1 => O_thenE R1 h1 fun l e2 G2 H2 _ R2 F2 h2 => O_thenE R2 h2 fun u e3 G3 H3 _ R3 F3 h3 => ?_
  obtain ⟨z, ez, k⟩ := RunE.put R3 h3
  exact sl_d ((dv.up F2.gg).up F3.gg) R3.ex ez k
def tyD : D → String
  | .none => "NoneType"
  | .bool _ => "bool"
  | .int _ => "int"
  | .str _ => "str"
  | .list _ => "list"
  | .tuple _ => "tuple"
  | .dict _ => "dict"
def isiD (T : String) (d : D) : Option D := (kitB (tyD d) T).map .bool
def eIsi (T : String) (de : DE) : DE := fun env => (de env).bind fun d e1 => put (isiD T d) e1
theorem ty_dv {K : PySem.W.Frag} {G H : Hp} {x : V} {d : D} (hx : Dv K G x d) (ex : Ex G H) : TyX K H x (.type (tyD d)) := by
  cases hx with
  | non => exact .base .non
  | bl b => exact .base (.bl b)
  | int b => exact .base (.int b)
  | str b => exact .base (.str b)
  | lst a b =>
    rcases ex.rl a with (h | ⟨o, h⟩) | ⟨its, n, h, _⟩
    · exact .base (.lst h)
    · exact .base (.frz h)
    · exact .kList h rfl
  | tup a b =>
    rcases (ex.n a).t with (h | ⟨o, h⟩) | ⟨o, its, n, h1, h2, _⟩
    · exact .base (.tup h)
    · exact .fTuple h
    · exact .kTuple h1 h2
  | dct a b =>
    rcases ex.rd a with h | ⟨o, h⟩
    · exact .base (.dK h)
    · exact .fDict h
theorem ce_isi (T : String) {x : Str} {p p2 : Pos} (hT : bootBuiltins x = some (.type T)) (hmT : X.mg x = none) (hm : X.mg "isinstance" = none) (he : CE X W e de) (hb : bootBuiltins "isinstance" = some (.builtin "isinstance") := by decide +kernel) (hg : Gl X "isinstance" := by rfl) (hgT : Gl X x := by rfl) (hn : x ≠ "__name__" := by decide) (hd : (x == ("__debug__" : Str)) = false := by decide)
    (hs : starEach (e :: [.Name x p]) X.env = (false, eval e X.env) :: starEach [.Name x p] X.env := by rfl) (hs2 : starEach [.Name x p] X.env = (false, eval (.Name x p) X.env) :: starEach [] X.env := by rfl) (hpl : (backTo pos (starEach [.Name x p] X.env)).any (·.1) = false := by rfl) :
    CE X W (.Call (.Name "isinstance" p2) [e, .Name x p] [] pos) (eIsi T de) := pe_imp (pe_callB call_isi hg hm hb (pa_cons he (pa_cons (pe_bltn (v := .ty T) hgT hmT hT rfl hn hd) pa_nil hs2) hs) (by decide) (by decide) hs hpl) fun σ H Q h => by
  obtain ⟨env, G, R, h⟩ := h
  refine E_thenE R h fun d e1 v G1 H1 _ R1 dv F1 h1 => ?_
  obtain ⟨z, ez, k⟩ := RunE.put R1 h1
  unfold isiD at ez
  cases q : kitB (tyD d) T with
  | none => rw [q] at ez; cases ez
  | some b =>
    rw [q] at ez
    cases ez
    exact ⟨v, .ty T, .type (tyD d), .type T, b, rfl, .ty T, ty_dv dv R1.ex, kit_ty q, k _ G1 H1 (.bl b) (Grow.refl R1.ex)⟩
def eChain (f g : D → D → Option D) (da db dc : DE) : DE := fun env => (da env).bind fun x e1 => (db e1).bind fun y e2 => match f x y with
  | some (.bool true) => (dc e2).bind fun z e3 => put (g y z) e3
  | some (.bool false) => .ok (.bool false) e2
  | _ => .stuck
variable {a b c : Expr} {da db dc : DE}
theorem chain_ok {K : PySem.W.Frag} {mg : Str → Option Value} {r r' : R2} {f g : D → D → Option D} (o : OpD K r f) (o' : OpD K r' g) (σ : L2.St) (H : Hp) (Q : VK) (h : rdE K mg W (eChain f g da db dc) σ H Q) : tChain r r' (rdE K mg W da) (rdE K mg W db) (rdE K mg W dc) σ H Q := by
  obtain ⟨env, G, R, h⟩ := h
  refine E_thenE R h fun d e1 v G1 H1 _ R1 dv F1 h1 => E_thenE R1 h1 fun d2 e2 v2 G2 H2 _ R2 dv2 F2 h2 => ?_
  cases q : f d d2 with
  | none => rw [q] at h2; exact h2.elim
  | some z =>
    rw [q] at h2
    refine o v v2 d d2 z G2 H2 _ (dv.up F2.gg) dv2 R2.ex q fun u G3 H3 dz g3 => ?_
    cases z with
    | bool k =>
      cases dz
      refine ⟨k, rfl, ?_⟩
      cases k with
      | true =>
        have R3 := R2.grow g3
        have h3 := RunE.shift (env1 := e2) h2 (g3.fr R2)
        rw [if_pos rfl]
        refine E_thenE R3 h3 fun d4 e4 v4 G4 H4 _ R4 dv4 F4 h4 => ?_
        obtain ⟨z, ez, kk⟩ := RunE.put R4 h4
        exact o' v2 v4 d2 d4 z G4 H4 Q ((dv2.up g3.gg).up F4.gg) dv4 R4.ex ez kk
      | false =>
        rw [if_neg Bool.false_ne_true]
        exact h2 _ G3 H3 (R2.grow g3) (.bl false) (g3.fr R2)
    | none => exact h2.elim
    | int _ => exact h2.elim
    | str _ => exact h2.elim
    | list _ => exact h2.elim
    | tuple _ => exact h2.elim
    | dict _ => exact h2.elim
theorem ct_chain {op op' : CmpOp} {r r' : R2} {f g : D → D → Option D} (ho : OpR X (compareOp op) r) (o : OpD X.K r f) (ho' : OpR X (compareOp op') r') (o' : OpD X.K r' g) (ha : CE X W a da) (hb : CE X W b db) (hc : CE X W c dc)
    (hm : lastMarks [op, op'] [b, c] = false := by with_unfolding_all rfl) : CT X W (.Compare a [op, op'] [b, c] pos) (tTst (eChain f g da db dc)) := pt_imp (pt_chain ho ho' ha hb hc hm) fun σ H Q h => chain_ok o o' σ H _ (tst_ok _ σ H Q h)
theorem ce_globI {x : Str} {i : Int} {t : Tok} (hm : X.mg x = some (.int i t)) (hg : Gl X x := by rfl) (hd : (x == ("__debug__" : Str)) = false := by decide) : CE X W (.Name x pos) (eC (.int i)) := pe_imp (pe_glob (v := .int i) hg hm ⟨t, rfl⟩ hd) (c_ok fun _ => .int i)
end
section
variable {X : Cx} {K : PySem.W.Frag}
def rCatR (K : PySem.W.Frag) : R2 := fun x y H Q => ∃ l b xs zs, x = .ref l ∧ y = .ref b ∧ RL K H l xs ∧ RL K H b zs ∧ xs.length + zs.length ≤ sizeLine ∧ ∀ p, H p = none → Q (.ref p) (upd H p (.lst (xs ++ zs)))
theorem rd_lst {pins : List (Addr × Obj)} {σ : L2.St} {H : Hp} {s : Shared} {l : Addr} {xs : List V} (I : Inv X pins σ H s) (h : RL X.K H l xs) : xs.length ≤ sizeLine ∧ ∃ (its : List Value) (n : Nat), Vals xs its ∧ xs.length = its.length ∧ s.heap.get? l = some { cls := .type "list", data := .seq its.toArray n } := by
  rcases h with h | ⟨its, n, h1, h2, h3⟩
  · obtain ⟨z, its, n, r, e⟩ := h.ok I.hok
    exact ⟨z, its, n, r, r.length, e⟩
  · have e := h3.length
    exact ⟨by rw [e]; simpa using h2, its.toList, n, h3, e, by simpa using I.kIn _ _ h1⟩
theorem op_catR : OpR X (binaryOp .Add) (rCatR X.K) := by
  intro pins s σ H x y v u Q I rx ry h
  obtain ⟨l, b, xs, zs, rfl, rfl, hH, hB, hz, q⟩ := h
  cases rx
  cases ry
  obtain ⟨z, its, n, r, hl, e⟩ := rd_lst I hH
  obtain ⟨z2, its2, n2, r2, hl2, e2⟩ := rd_lst I hB
  refine PySem.P.add_list e e2 ?_ (by rw [List.size_toArray, List.size_toArray]; omega)
  have ea : its.toArray ++ its2.toArray = (its ++ its2).toArray := by simp
  rw [ea]
  exact ⟨.ref _, _, I.lnew (t' := s.toks) (r.append r2) (by rw [List.length_append]; omega), rfl, q _ I.fresh⟩
def dCat : D → D → Option (List D)
  | .list xs, .list ys => if xs.length + ys.length ≤ 100000 then some (xs ++ ys) else none
  | _, _ => none
theorem ol_cat : OlD K (rCatR K) dCat := fun x y d e zs G H Q hx hy ex h k => by
  cases d <;> cases e <;> first | (simp [dCat] at h; done) | skip
  rename_i xs ys
  have h' : (if xs.length + ys.length ≤ 100000 then some (xs ++ ys) else none) = some zs := h
  by_cases c : xs.length + ys.length ≤ 100000
  · rw [if_pos c] at h'
    cases h'
    cases hx with
    | @lst a vs _ h1 h2 =>
      cases hy with
      | @lst b ws _ h3 h4 => exact ⟨a, b, vs, ws, rfl, rfl, ex.rl h1, ex.rl h3, by rw [h2.length, h4.length]; exact lim_size c, fun p hp => k p _ hp (h2.append h4)⟩
  · rw [if_neg c] at h'; cases h'
/-- [x] * n: the list is one that was just made -/
def repD (xs : List D) (k : Int) : List D := (List.replicate k.toNat xs).flatten
theorem rep_dv {G : Hp} {vs : List V} {xs : List D} (h : DvAll K G vs xs) : ∀ n : Nat, DvAll K G (List.replicate n vs).flatten (List.replicate n xs).flatten
  | 0 => .nil
  | n + 1 => by
    rw [List.replicate_succ, List.flatten_cons, List.replicate_succ, List.flatten_cons]
    exact h.append (rep_dv h n)
noncomputable def lRep (dl : DA) (dk : DE) : DA := fun env => (dl env).bind fun xs e1 => (dk e1).bind fun k e2 => match k with
  | .int n => if I63 n ∧ xs.length * n.toNat ≤ 100000 then .ok (repD xs n) e2 else .stuck
  | _ => .stuck
end
section
variable {X : Cx} {W : WX} {pos : Pos} {a b e : Expr} {da db de : DE} {dl : DA}
theorem cl_rep (ha : CL X W a dl) (hb : CE X W b db) : CL X W (.BinOp a .Mult b pos) (lRep dl db) := pe_imp (pe_op op_rep ha hb) fun σ H Q h => by
  obtain ⟨env, G, R, h⟩ := h
  refine ⟨env, G, R, ?_⟩
  have h' : RunL X.K X.mg W env σ G H ((dl env).bind fun xs e1 => (db e1).bind fun k e2 => match k with
    | .int n => if I63 n ∧ xs.length * n.toNat ≤ 100000 then .ok (repD xs n) e2 else .stuck
    | _ => .stuck) Q := h
  cases q : dl env with
  | stuck => rw [q] at h'; exact h'
  | ex x e => rw [q] at h'; exact h'
  | ok xs e1 =>
    rw [q] at h'
    intro l vs G1 H1 R1 h1 h2 h3 h4 dv F1
    have h5 : RunL X.K X.mg W e1 σ G1 H1 ((db e1).bind fun k e2 => match k with
      | .int n => if I63 n ∧ xs.length * n.toNat ≤ 100000 then .ok (repD xs n) e2 else .stuck
      | _ => .stuck) Q := RunL.shift h' F1
    refine E_thenL R1 h5 fun k e2 y G2 H2 _ R2 dk F2 h6 => ?_
    cases dk with
    | int n =>
      have h7 : RunL X.K X.mg W e2 σ G2 H2 (if I63 n ∧ xs.length * n.toNat ≤ 100000 then .ok (repD xs n) e2 else .stuck) Q := h6
      by_cases c : I63 n ∧ xs.length * n.toNat ≤ 100000
      · rw [if_pos c] at h7
        have hl : H2 l = some (.lst vs) := F2.keep l _ h1 h4
        exact ⟨l, n, vs, rfl, rfl, hl, c.1.1, c.1.2, by rw [dv.length]; exact lim_size c.2, fun p hp => RunL.new R2 h7 hp (rep_dv (dv.up F2.gg) n.toNat)⟩
      · rw [if_neg c] at h7
        exact h7.elim
    | non => exact h6.elim
    | bl _ => exact h6.elim
    | str _ => exact h6.elim
    | lst _ _ => exact h6.elim
    | tup _ _ => exact h6.elim
    | dct _ _ => exact h6.elim
/-- list(range(n)) -/
noncomputable def lRange1 (de : DE) : DA := fun env => (de env).bind fun d e1 => match d with
  | .int n => if IRg n then .ok (rngD 0 n) e1 else .stuck
  | _ => .stuck
theorem rg_dv {K : PySem.W.Frag} {G : Hp} (a b : Int) : DvAll K G (rgV a b) (rngD a b) := by
  unfold rgV rngD
  generalize List.range (b - a).toNat = l
  induction l with
  | nil => exact .nil
  | cons x l ih => exact .cons (.int _) ih
theorem cl_listRg {p p2 p3 : Pos} (hc : X.calm = true) (hml : X.mg "list" = none) (hmr : X.mg "range" = none) (he : CE X W e de) (hgl : Gl X "list" := by rfl) (hgr : Gl X "range" := by rfl) (na : starEach [e] X.env = (false, eval e X.env) :: starEach [] X.env := by rfl)
    (nb : starEach [.Call (.Name "range" p2) [e] [] p3] X.env = (false, eval (.Call (.Name "range" p2) [e] [] p3) X.env) :: starEach [] X.env := by rfl) : CL X W (.Call (.Name "list" p) [.Call (.Name "range" p2) [e] [] p3] [] pos) (lRange1 de) :=
  pe_imp (pe_listRg hc hgl hml (prg_1 hgr hmr he na) nb) fun σ H Q h => by
    obtain ⟨env, G, R, h⟩ := h
    refine E_thenL R h fun k e1 y G1 H1 _ R1 dk F1 h1 => ?_
    cases dk with
    | int n =>
      have h2 : RunL X.K X.mg W e1 σ G1 H1 (if IRg n then .ok (rngD 0 n) e1 else .stuck) Q := h1
      by_cases c : IRg n
      · rw [if_pos c] at h2
        obtain ⟨c1, c2⟩ := c
        exact ⟨n, rfl, ⟨by omega, by omega, by omega, by omega, by omega⟩, fun q hq => RunL.new R1 h2 hq (rg_dv 0 n)⟩
      · rw [if_neg c] at h2
        exact h2.elim
    | non => exact h1.elim
    | bl _ => exact h1.elim
    | str _ => exact h1.elim
    | lst _ _ => exact h1.elim
    | tup _ _ => exact h1.elim
    | dct _ _ => exact h1.elim
end
end DL
set_option Elab.async false
set_option linter.all false
set_option maxRecDepth 100000
set_option autoImplicit false
namespace DL
open PySem L2
def kEq (d : D) (k : Key) : Bool := match d, k with
  | .int i, .inl j => i == j
  | .str x, .inr y => x == y
  | _, _ => false
def keyOf : D → Option Key
  | .int i => some (.inl i)
  | .str x => some (.inr x)
  | _ => none
def valD (kvs : List (D × D)) (k : Key) : Option D := (kvs.find? fun kv => kEq kv.1 k).map (·.2)
def putD (kvs : List (D × D)) (k : Key) (v : D) : List (D × D) := if (kvs.any fun kv => kEq kv.1 k) = true then kvs.map (fun kv => if kEq kv.1 k = true then (kv.1, v) else kv) else kvs ++ [(kD k, v)]
theorem kEq_kD (a k : Key) : kEq (kD a) k = decide (a = k) := by
  cases a <;> cases k <;> simp [kEq, kD, Bool.beq_eq_decide_eq]
theorem keyOf_some {d : D} {k : Key} (h : keyOf d = some k) : d = kD k := by
  cases d <;> simp [keyOf] at h <;> subst h <;> rfl
theorem dv_key {K : PySem.W.Frag} {G : Hp} {v : V} {k : Key} (h : Dv K G v (kD k)) : v = kV k := by
  cases k <;> cases h <;> rfl
section
variable {K : PySem.W.Frag} {G : Hp}
theorem kv_val {k : Key} : ∀ {vs : List (Key × V)} {ds : List (D × D)}, DvKv K G vs ds → (valV vs k = none ∧ valD ds k = none) ∨ ∃ v d, valV vs k = some v ∧ valD ds k = some d ∧ Dv K G v d
  | _, _, .nil => .inl ⟨rfl, rfl⟩
  | _, _, .cons (k := a) (v := v) (d := d) (xs := xs) (ys := ys) x t => by
    by_cases c : a = k
    · refine .inr ⟨v, d, valV_pos c, ?_, x⟩
      unfold valD
      rw [List.find?_cons, kEq_kD, decide_eq_true c]
      rfl
    · have e : valD ((kD a, d) :: ys) k = valD ys k := by
        unfold valD
        rw [List.find?_cons, kEq_kD, decide_eq_false c]
      rw [valV_neg c, e]
      exact kv_val t
theorem kv_any {k : Key} : ∀ {vs : List (Key × V)} {ds : List (D × D)}, DvKv K G vs ds → (vs.any fun kv => decide (kv.1 = k)) = ds.any fun kv => kEq kv.1 k
  | _, _, .nil => rfl
  | _, _, .cons x t => by rw [List.any_cons, List.any_cons, kv_any t, kEq_kD]
theorem kv_map {k : Key} {v : V} {d : D} (h : Dv K G v d) : ∀ {vs : List (Key × V)} {ds : List (D × D)}, DvKv K G vs ds → DvKv K G (vs.map fun kv => if kv.1 = k then (kv.1, v) else kv) (ds.map fun kv => if kEq kv.1 k = true then (kv.1, d) else kv)
  | _, _, .nil => .nil
  | _, _, .cons (k := a) x t => by
    rw [List.map_cons, List.map_cons]
    by_cases c : a = k
    · rw [if_pos c, if_pos (by rw [kEq_kD]; exact decide_eq_true c)]
      exact .cons h (kv_map h t)
    · rw [if_neg c, if_neg (by rw [kEq_kD]; simpa using c)]
      exact .cons x (kv_map h t)
theorem kv_app : ∀ {vs ws : List (Key × V)} {ds es : List (D × D)}, DvKv K G vs ds → DvKv K G ws es → DvKv K G (vs ++ ws) (ds ++ es)
  | _, _, _, _, .nil, s => s
  | _, _, _, _, .cons x t, s => .cons x (kv_app t s)
theorem kv_put {k : Key} {v : V} {d : D} {vs : List (Key × V)} {ds : List (D × D)} (h : DvKv K G vs ds) (hv : Dv K G v d) : DvKv K G (putK vs k v) (putD ds k d) := by
  unfold putK putD
  rw [kv_any h]
  by_cases c : (ds.any fun kv => kEq kv.1 k) = true
  · rw [if_pos c, if_pos c]
    exact kv_map hv h
  · rw [if_neg c, if_neg c]
    exact kv_app h (.cons hv .nil)
theorem kv_len : ∀ {vs : List (Key × V)} {ds : List (D × D)}, DvKv K G vs ds → vs.length = ds.length
  | _, _, .nil => rfl
  | _, _, .cons x t => by rw [List.length_cons, List.length_cons, kv_len t]
end
/-- a dict that nobody else holds -/
def RunM (K : PySem.W.Frag) (mg : Str → Option Value) (W : WX) (env : DEnv) (σ : L2.St) (G H : Hp) (r : Rs (List (D × D))) (Q : VK) : Prop := match r with
  | .ok ds env' => ∀ a vs G' H', Rel K env' σ G' H' → H' a = some (.dK vs) → G' a = none → H a = none → ¬ Own env' σ H' a → DvKv K G' vs ds → Fr env σ G H env' σ G' H' → Q (.ref a) H'
  | .ex x env' => RunX K mg W env σ G H x env'
  | .stuck => False
abbrev DM := DEnv → Rs (List (D × D))
def rdM (K : PySem.W.Frag) (mg : Str → Option Value) (W : WX) (de : DM) : TE := fun σ H Q => ∃ env G, Rel K env σ G H ∧ RunM K mg W env σ G H (de env) Q
abbrev CM (X : Cx) (W : WX) (e : Expr) (de : DM) : Prop := PE X e (rdM X.K X.mg W de)
section
variable {K : PySem.W.Frag} {mg : Str → Option Value} {W : WX} {env : DEnv} {σ : L2.St} {G H : Hp}
theorem RunM.of {r : Rs (List (D × D))} {Q : VK} (h' : RunE K mg W env σ G H (r.bind fun xs e1 => .ok (.dict xs) e1) Q) : RunM K mg W env σ G H r Q := by
  cases r with
  | stuck => exact h'
  | ex x e => exact h'
  | ok ds e1 =>
    intro a vs G' H' R' h1 h2 h3 h4 dv F
    refine h' (.ref a) (upd G' a (.dK vs)) H' (R'.still h1 h2 h4) (.dct (.inl upd_same) (dv.up (Ex.new h2)))
      ⟨F.gg.trans (Ex.new h2), F.keep, F.dom, fun b hb => ?_, F.own, F.par⟩
    by_cases z : b = a
    · subst z; exact .inr (.inl h3)
    · rw [upd_ne z] at hb; exact F.fresh b hb
/-- pairs by data -/
inductive PrD (K : PySem.W.Frag) (G : Hp) : List (V × V) → List (D × D) → Prop
  | nil : PrD K G [] []
  | cons {k v : V} {dk dv : D} {xs : List (V × V)} {ys : List (D × D)} : Dv K G k dk → Dv K G v dv → PrD K G xs ys → PrD K G ((k, v) :: xs) ((dk, dv) :: ys)
theorem PrD.up {G G' : Hp} (e : Ex G G') : ∀ {xs : List (V × V)} {ys : List (D × D)}, PrD K G xs ys → PrD K G' xs ys
  | _, _, .nil => .nil
  | _, _, .cons a b c => .cons (a.up e) (b.up e) (PrD.up e c)
end
section
variable {X : Cx} {W : WX} {pos : Pos}
/-- {} -/
def lDict0 : DM := fun env => .ok [] env
theorem RunM.new {K : PySem.W.Frag} {mg : Str → Option Value} {env : DEnv} {σ : L2.St} {G H : Hp} {zs : List (D × D)} {vs : List (Key × V)} {Q : VK} {a : Addr} (R : Rel K env σ G H) (h : RunM K mg W env σ G H (.ok zs env) Q) (ha : H a = none) (dv : DvKv K G vs zs) : Q (.ref a) (upd H a (.dK vs)) := by
  have ga : G a = none := R.ex.none ha
  obtain ⟨R2, m⟩ := R.laid1 (o := .dK vs) ha
  refine h a vs G _ R2 upd_same ga ha (fun ⟨i, w⟩ => (((m i a).1 w).there R).1 ha) dv ⟨Ex.refl _, fun b u hb _ => by rw [upd_ne (ne_of_none hb ha)]; exact hb, fun b hb => ?_, fun _ z => .inl z, fun b ⟨i, w⟩ => .inl ⟨i, (m i b).1 w⟩, fun _ s z _ => ⟨rfl, s, z, rfl⟩⟩
  by_cases z : b = a
  · subst z; exact ha
  · rw [upd_ne z] at hb; exact hb
theorem cm_new : CM X W (.Dict [] [] pos) lDict0 := pe_imp pe_dnewK fun σ H Q h => by
  obtain ⟨env, G, R, h⟩ := h
  exact fun p hp => RunM.new R h hp .nil
variable {o e f : Expr} {dd dk dx : DE} {apos : Pos}
end
end DL
set_option Elab.async false
set_option linter.all false
set_option maxRecDepth 100000
set_option autoImplicit false
namespace DL
open PySem L2
/-- a def of the top, where it stands -/
abbrev FnT (K : PySem.W.Frag) (x : Str) (st : Stmt) (fd : FuncData) : Prop := FunD K x x (defArgs st) (defBody st) (defScope st) [] [] (He.ga K x) fd
/-- what a caller knows of a def -/
structure Cal (P : Program) (w : World) (K : PySem.W.Frag) (mg : Str → Option Value) (base : Heap) (k : Nat) (x : Str) (np : Nat) (F : Df) : Prop where
  ex : ∃ (fd : FuncData) (ps : List Str), ps.length = np ∧ FnOk P w K mg base (L2N.CX P w) k (He.ga K x) fd ps (spD K mg ps.length F) ∧ Binds K fd ps []
  mg_ : mg x = some (.ref (He.ga K x))
  kp : PySem.W.keepIn K (.ref (He.ga K x)) = true
section
variable {P : Program} {w : World} {K : PySem.W.Frag} {mg : Str → Option Value} {base : Heap}
theorem fn_bodyD {x : Str} {st : Stmt} {fd : FuncData} {N ps : List Str} {k : Nat} {ds : DS} (F : FnT K x st fd) (S : FnScope N ps (defScope st)) (hps : ps.length ≤ N.length)
    (hbody : ∀ (cdv : Value) (A : Around) (outer : List Env) (s : Shared) (H : Hp) (E : XK), Room k (A.deeper (PyProof.Rows.envOfC x (defScope st) s.heap.objs.size (He.ga K x) cdv)) →
      CSs (cxOf (L2N.CX P w) P w K mg base N x (defScope st) (He.ga K x) cdv A outer s H E) (fun cls d _ H => E cls d H) (defBody st) ds) :
    FnOk P w K mg base (L2N.CX P w) (k + 1) (He.ga K x) fd ps (spD K mg ps.length (bodyF N.length ds)) := by
  obtain ⟨oc, od, dV, kV, doc, pm, an, cdv, ct, osl, rfl, lk, hcd, _, _⟩ := F.ex
  refine fn_of lk hcd S (fun vs H Q E h => h.1) fun A outer s H vs Q E hr h => ⟨_, hbody cdv A outer s H E hr, ?_⟩
  obtain ⟨hl, args, G, R, h⟩ := h
  have hn : vs.length ≤ N.length := by omega
  refine ⟨_, G, rel_start (N := N) R hn, ?_⟩
  have h' : RunF K mg args (vs.map some) G H (match ds (args ++ List.replicate (N.length - args.length) Sl.no) with
    | .nx e => .ok .none (outsOf args e)
    | .rt d e => .ok d (outsOf args e)
    | .rl xs e => .okl xs (outsOf args e)
    | .ex x e => .ex x (outsOf args e)
    | _ => .stuck) Q E := h
  cases q : ds (args ++ List.replicate (N.length - args.length) Sl.no) with
  | nx e =>
    rw [q] at h'
    exact fun σ' G' H' R' F' => let ⟨a, b, _⟩ := ends_fr R hn R' F'; h' .non G' H' a .non b
  | rt d e =>
    rw [q] at h'
    exact fun v σ' G' H' R' dv F' => let ⟨a, b, _⟩ := ends_fr R hn R' F'; h' v G' H' a dv b
  | rl d e =>
    rw [q] at h'
    exact fun a vs' σ' G' H' R' h1 h2 h3 h4 dv F' => let ⟨r, b, c⟩ := ends_fr R hn R' F'; h' a vs' G' H' r h1 h2 h3 (fun z => h4 (c a z)) dv b
  | ex x e =>
    rw [q] at h'
    exact fun cls dd σ' G' H' xr R' F' => let ⟨a, b, _⟩ := ends_fr R hn R' F'; h' cls dd G' H' xr a b
  | bk e => rw [q] at h'; exact h'.elim
  | ct e => rw [q] at h'; exact h'.elim
  | stuck => rw [q] at h'; exact h'.elim
/-- THE RULE: a def of the top keeps what its function on data says -/
theorem cal_of {x : Str} {st : Stmt} {N ps : List Str} {k : Nat} {ds : DS} (D : ∃ fd, FnT K x st fd) (g : mg x = some (.ref (He.ga K x))) (S : FnScope N ps (defScope st)) (hps : ps.length ≤ N.length)
    (hb : ∀ (kV doc pm : Value) (an : Option Addr) (cdv ct : Value) (us : List Value), us.length = ps.length → bindArgs (PySem.W.fnOf x x (defArgs st) (defBody st) (defScope st) .none kV doc pm an cdv ct) ⟨us, []⟩ = pure (ps.zip us))
    (hbody : ∀ (cdv : Value) (A : Around) (outer : List Env) (s : Shared) (H : Hp) (E : XK), Room k (A.deeper (PyProof.Rows.envOfC x (defScope st) s.heap.objs.size (He.ga K x) cdv)) →
      CSs (cxOf (L2N.CX P w) P w K mg base N x (defScope st) (He.ga K x) cdv A outer s H E) (fun cls d _ H => E cls d H) (defBody st) ds) :
    Cal P w K mg base (k + 1) x ps.length (bodyF N.length ds) := by
  obtain ⟨fd, F⟩ := D
  exact ⟨⟨fd, ps, rfl, fn_bodyD F S hps hbody, F.bindsN hb⟩, g, F.kp⟩
theorem Cal.mono {j k : Nat} {x : Str} {np : Nat} {F : Df} (C : Cal P w K mg base j x np F) (h : j ≤ k) : Cal P w K mg base k x np F :=
  let ⟨fd, ps, e, f, b⟩ := C.ex
  ⟨⟨fd, ps, e, f.mono h, b⟩, C.mg_, C.kp⟩
end
section
variable {X : Cx} {W : WX} {pos p : Pos} {e : Expr} {es : List Expr} {da : DAr} {j k np : Nat} {F : Df} {x : Str}
theorem passF (σ : L2.St) : PassesAt (L2N.CX X.prog X.w) X σ (WE WF σ) := fun _ _ _ _ _ _ h => by
  obtain ⟨_, _, _, _, _, _, _, _, _, _, _, _, z⟩ := h
  exact z.elim
theorem ce_callC (C : Cal X.prog X.w X.K X.mg X.base j x np F) (hr : Room k X.A) (hjk : j ≤ k) (tk : ∀ σ, PassesAt (L2N.CX X.prog X.w) X σ (WE W σ)) (ha : CR X W (e :: es) da) (hg : Gl X x := by rfl)
    (hdb : (x == ("__debug__" : Str)) = false := by decide) (he : starEach (e :: es) X.env = (false, eval e X.env) :: starEach es X.env := by rfl) (hpl : (backTo pos (starEach es X.env)).any (·.1) = false := by rfl) :
    CE X W (.Call (.Name x p) (e :: es) [] pos) (eCallN np F da) := by
  obtain ⟨fd, ps, rfl, f, b⟩ := C.ex
  exact ce_call f (hr.mono hjk) C.mg_ C.kp b tk ha hg hdb he hpl
theorem cl_callC (C : Cal X.prog X.w X.K X.mg X.base j x np F) (hr : Room k X.A) (hjk : j ≤ k) (tk : ∀ σ, PassesAt (L2N.CX X.prog X.w) X σ (WE W σ)) (ha : CR X W (e :: es) da) (hg : Gl X x := by rfl)
    (hdb : (x == ("__debug__" : Str)) = false := by decide) (he : starEach (e :: es) X.env = (false, eval e X.env) :: starEach es X.env := by rfl) (hpl : (backTo pos (starEach es X.env)).any (·.1) = false := by rfl) :
    CL X W (.Call (.Name x p) (e :: es) [] pos) (lCallN np F da) := by
  obtain ⟨fd, ps, rfl, f, b⟩ := C.ex
  exact cl_call f (hr.mono hjk) C.mg_ C.kp b tk ha hg hdb he hpl
end
/-- the script as data -/
def scriptD (ns : List Int) : D := .list (ns.map PyData.int)
theorem script_sp {K : PySem.W.Frag} {mg : Str → Option Value} {H : Hp} {a : Addr} {ns : List Int} {F : Df} {outs : DEnv} (h : RL K H a (ns.map V.int)) (e : F [.v (scriptD ns)] = .ok (.bool true) outs) : spD K mg 1 F [.ref a] H (fun v _ => v = .bl true) fun _ _ _ => False := by
  refine ⟨rfl, [.v (scriptD ns)], H, ⟨Ex.refl _, rfl, fun i s o h1 h2 => ?_, fun i j b ⟨s, o, h1, _, h2⟩ => ?_⟩, ?_⟩
  · match i, h1, h2 with
    | 0, h1, h2 =>
      cases h1
      cases h2
      exact ⟨_, rfl, .lst h (DvAll.of_ints ns)⟩
  · match i, h1 with
    | 0, h1 => cases h1; cases h2
  · rw [e]
    intro v G' H' R' dv F'
    cases dv
    rfl
theorem walk_ofR {l : PySem.W.OpenLaw} {n k : Nat} {q : Program} {loose : List Str} {XP : (Str → Option Value) → Heap → Prop} {YP : World → Heap → Prop} {d : DefRec} {F : Df}
    (hn : l.most = some n) (hn2 : n ≤ sizeLine) (hdf : d.params.defaults = []) (hr : Room k callerA) (hnm : d.name = "law")
    (hF : ∀ ns : List Int, ns.length ≤ n → ∃ outs, F [.v (scriptD ns)] = .ok (.bool true) outs)
    (hC : ∀ (w : World) (mg : Str → Option Value) (h : Heap), YP w h → h.Ns mainGlobals mg →
      ∃ (K : PySem.W.Frag) (fd : FuncData), K.In h ∧ mg "law" = some (.ref (He.ga K "law")) ∧ (∀ (s : Shared) (u : Value), BindsTo s fd ⟨[u], []⟩ [("script", u)]) ∧
        ∀ base : Heap, K.In base → base.Ns mainGlobals mg → FnOk l.prog w K mg base (L2N.CX l.prog w) k (He.ga K "law") fd ["script"] (spD K mg 1 F)) :
    PySem.W.WalkO q loose XP YP l.row.toRowW d [] (fun f vs => PySem.call f vs) := by
  refine Att.attach_call hn hdf fun w s0 s1 mg mb fa o pm cd doc a vs ns Gr Y ho hd hcd hmg hobj hints hlen hgen => ?_
  obtain ⟨K, fd, KX, hg, hb, hFn⟩ := hC w mg _ Y Gr.T.g
  rw [hnm, hg] at hmg
  cases hmg
  obtain ⟨outs, he⟩ := hF ns hlen
  refine law_call KX Gr.T.g Gr.T.b Gr.T.builtins Gr.T.nolimit hgen hobj hints (Nat.le_trans hlen hn2) hr hFn hb (fun H hO hS => script_sp ?_ he) fun H e s' hx => ?_
  · rcases hS with h | ⟨oo, its, m, h1, h2, h3, h4, h5, h6⟩
    · exact .inl h
    · have e1 := KX a oo h1
      rw [hobj] at e1
      cases e1
      exact .inr ⟨vs.toArray, _, h1, by cases h4; exact h5, by cases h4; exact h6⟩
  · obtain ⟨_, _, _, _, _, _, _, _, _, _, _, _, z⟩ := hx
    exact z
end DL
set_option Elab.async false
set_option linter.all false
set_option maxRecDepth 100000
set_option autoImplicit false
namespace DL
open PySem L2
def rLendC (i : Nat) (da : DAr) : DAr := fun env => if lent i env then (da env).bind fun xs e2 => if lent i e2 then .ok (.s i :: xs) e2 else .stuck else .stuck
/-- how many turns a while is given at most -/
theorem fuel_ex : ∃ n : Nat, 1000000 ≤ n := ⟨1000000, Nat.le_refl _⟩
/-- how often a loop may go on: nothing looks into it -/
noncomputable def FUEL : Nat := Classical.choose fuel_ex
theorem fuel_le : 1000000 ≤ FUEL := Classical.choose_spec fuel_ex
end DL
set_option Elab.async false
set_option linter.all false
set_option maxRecDepth 100000
set_option autoImplicit false
namespace DL
open PySem L2
def getM (i : Nat) (env : DEnv) : Option (List (D × D)) := match env[i]? with
  | some (.m xs) => some xs
  | _ => none
/-- a dict to be read: of the def's own, or data -/
def seeM (i : Nat) (env : DEnv) : Option (List (D × D)) := match env[i]? with
  | some (.m xs) => some xs
  | some (.v (.dict xs)) => some xs
  | _ => none
def sAsgM (i : Nat) (dm : DM) : DS := fun env => (dm env).fl fun xs e1 => match setV i (.m xs) e1 with
  | some e2 => .nx e2
  | none => .stuck
def sPutM (i : Nat) (dk dv : DE) : DS := fun env => (dv env).fl fun v e1 => if known i e1 then (dk e1).fl fun k e2 => match getM i e2, keyOf k with
  | some xs, some a => if xs.length < 100000 then .nx (e2.set i (.m (putD xs a v))) else .stuck
  | _, _ => .stuck else .stuck
def eInM (dk : DE) (i : Nat) : DE := fun env => (dk env).bind fun k e1 => match seeM i e1, keyOf k with
  | some xs, some a => .ok (.bool (valD xs a).isSome) e1
  | _, _ => .stuck
section
variable {K : PySem.W.Frag} {mg : Str → Option Value} {W : WX} {env : DEnv} {σ : L2.St} {G H : Hp} {i : Nat} {xs : List (D × D)}
theorem getM_some (h : getM i env = some xs) : env[i]? = some (.m xs) := by
  unfold getM at h
  cases q : env[i]? with
  | none => rw [q] at h; cases h
  | some s =>
    rw [q] at h
    cases s with
    | n _ => cases h
    | m ys => cases h; rfl
    | p ys => cases h
    | f x => cases h
    | a x _ _ => cases h
    | no => cases h
    | v d => cases h
    | l d => cases h
    | t d => cases h
    | u d => cases h
theorem own_getM (R : Rel K env σ G H) (h : getM i env = some xs) : ∃ a vs, σ[i]? = some (some (.ref a)) ∧ H a = some (.dK vs) ∧ G a = none ∧ DvKv K G vs xs ∧ OwnAt env σ H i a := by
  have q := getM_some h
  have li : i < σ.length := by rw [← R.len]; exact (List.getElem?_eq_some_iff.mp q).1
  have ho : σ[i]? = some σ[i] := List.getElem?_eq_getElem li
  obtain ⟨a, vs, e, h1, h2, h3⟩ := R.slot i _ _ q ho
  rw [e] at ho
  exact ⟨a, vs, ho, h1, h2, h3, .of q rfl ho⟩
theorem see_get (R : Rel K env σ G H) (h : seeM i env = some xs) : ∃ a vs, σ[i]? = some (some (.ref a)) ∧ Rd H a (.dK vs) ∧ DvKv K G vs xs := by
  unfold seeM at h
  cases q : env[i]? with
  | none => rw [q] at h; cases h
  | some s =>
    rw [q] at h
    obtain ⟨o, ho, rs⟩ := peekV R q
    cases s with
    | n _ => cases h
    | m ys =>
      cases h
      obtain ⟨a, vs, e, h1, h2, h3⟩ := rs
      exact ⟨a, vs, by rw [ho, e], .inl h1, h3⟩
    | p ys => cases h
    | f x => cases h
    | a x _ _ => cases h
    | no => cases h
    | v d =>
      cases d with
      | dict ys =>
        cases h
        obtain ⟨v, e, dv⟩ := rs
        cases dv with
        | @dct a ws _ h2 h3 => exact ⟨a, ws, by rw [ho, e], R.ex.rd h2, h3⟩
      | none => cases h
      | bool _ => cases h
      | int _ => cases h
      | str _ => cases h
      | list _ => cases h
      | tuple _ => cases h
    | l d => cases h
    | t d => cases h
    | u d => cases h
theorem own_putM (R : Rel K env σ G H) (h : getM i env = some xs) {a : Addr} {vs vs' : List (Key × V)} {ys : List (D × D)} (ho : σ[i]? = some (some (.ref a))) (h1 : H a = some (.dK vs)) (h2 : G a = none) (o : OwnAt env σ H i a) (dv : DvKv K G vs' ys) :
    Rel K (env.set i (.m ys)) σ G (upd H a (.dK vs')) ∧ Fr env σ G H (env.set i (.m ys)) σ G (upd H a (.dK vs')) :=
  R.own1 (s1 := .m ys) (getM_some h) rfl ho ⟨a, vs', rfl, upd_same, h2, dv⟩ (fun b w => by cases w; rfl) rfl
theorem M_thenS {dm : DM} {f : List (D × D) → DEnv → Fl} {E : Ends} {R : VK} (hR : Rel K env σ G H) (h : RunS K mg W env σ G H ((dm env).fl f) E)
    (k : ∀ ds e1 a vs G1 H1, dm env = .ok ds e1 → Rel K e1 σ G1 H1 → H1 a = some (.dK vs) → G1 a = none → H a = none → ¬ Own e1 σ H1 a → DvKv K G1 vs ds → Fr env σ G H e1 σ G1 H1 → RunS K mg W env σ G H (f ds e1) E → R (.ref a) H1) : rdM K mg W dm σ H R := by
  refine ⟨env, G, hR, ?_⟩
  cases q : dm env with
  | ok d e1 =>
    rw [q] at h
    exact fun a vs G1 H1 a1 a2 a3 a4 a5 a6 c => k d e1 a vs G1 H1 q a1 a2 a3 a4 a5 a6 c h
  | ex x e => rw [q] at h; exact RunXS.toX h
  | stuck => rw [q] at h; exact h.elim
theorem setM_ok {dm : DM} (E : Ends) (σ : L2.St) (H : Hp) (h : rdS K mg W (sAsgM i dm) E σ H) : tAsg (rdM K mg W dm) (gName i) E σ H := by
  obtain ⟨env, G, R, h⟩ := h
  refine M_thenS R h fun xs e1 a vs G1 H1 _ R1 h1 h2 h3 h4 dv F1 hk => ?_
  cases q : setV i (.m xs) e1 with
  | none => rw [q] at hk; exact hk.elim
  | some e2 =>
    rw [q] at hk
    obtain ⟨s0, a1, a2, rfl⟩ := setV_some q
    have li : i < e1.length := (List.getElem?_eq_some_iff.mp a1).1
    exact hk (σ.set i (some (.ref a))) G1 H1 (R1.set a1 a2 ⟨a, vs, rfl, h1, h2, dv⟩ (fun _ z => nomatch z) fun _ b hb => by cases hb; exact h4) (F1.setN R1 li (fun b hb => by cases hb; exact h3) rfl)
end
section
variable {X : Cx} {W : WX} {pos : Pos} {b e : Expr} {db de dx : DE} {i : Nat} {x : Str} {p p2 apos : Pos} {f : Expr}
theorem cs_setM {pos' : Pos} {dm : DM} (hN : X.N.Nodup) (he : CM X W e dm) (hi : X.N[i]? = some x := by rfl) (hx : Loc X.env.scope x := by first | exact Or.inl rfl | exact Or.inr rfl) (hs : swapsWith e (some (.Name x pos')) pos.line X.env = pure false := by rfl) (hf : X.fn x = true ∨ X.env.scope.names.lookup x = some .local := by first | exact .inl rfl | exact .inr rfl | assumption) :
    CS X W (.Assign [.Name x pos'] e pos) (sAsgM i dm) := ps_imp (ps_set hN hi hx he hs hf) setM_ok
theorem cs_putM (hu : X.A.units + 1 < cLine) (hk : CE X W b db) (he : CE X W e de) (hN : X.N[i]? = some x := by rfl) (hv : Vis X.env.scope x := by first | exact Or.inl rfl | exact Or.inr (Or.inl rfl) | exact Or.inr (Or.inr rfl)) (hd : (x == ("__debug__" : Str)) = false := by decide)
    (hcd : (x == ("__classdict__" : Str)) = false := by decide) (hs : swapsWith e (some (.Subscript (.Name x p) b p2)) pos.line X.env = pure false := by rfl) : CS X W (.Assign [.Subscript (.Name x p) b p2] e pos) (sPutM i db de) :=
  ps_imp (ps_dput hu (pe_var hN hv hd hcd) hk he hs) fun E σ H h => by
    obtain ⟨env, G, R, h⟩ := h
    refine E_thenS R h fun d e1 v G1 H1 _ R1 dv F1 h1 => ?_
    by_cases c : known i e1 = true
    · rw [if_pos c] at h1
      obtain ⟨o, ho⟩ := known_v R1 c
      refine ⟨o, ho, E_thenS R1 h1 fun k e2 y G2 H2 _ R2 dk F2 h2 => ?_⟩
      cases q : getM i e2 with
      | none => rw [q] at h2; exact h2.elim
      | some xs =>
        rw [q] at h2
        cases qk : keyOf k with
        | none => rw [qk] at h2; exact h2.elim
        | some key =>
          rw [qk] at h2
          have h3 : RunS X.K X.mg W e2 σ G2 H2 (if xs.length < 100000 then .nx (e2.set i (.m (putD xs key d))) else .stuck) E := h2
          by_cases cl : xs.length < 100000
          · rw [if_pos cl] at h3
            have e0 := keyOf_some qk
            subst e0
            have ew := dv_key dk
            subst ew
            obtain ⟨a, vs, x1, x2, x3, x4, x5⟩ := own_getM R2 q
            rw [ho] at x1
            cases x1
            obtain ⟨r1, r2⟩ := own_putM R2 q ho x2 x3 x5 (kv_put (k := key) x4 (dv.up F2.gg))
            exact ⟨a, _, rfl, DPut.k x2 (by rw [kv_len x4]; exact Nat.lt_of_lt_of_le cl (by decide)), h3 σ G2 _ r1 r2⟩
          · rw [if_neg cl] at h3; exact h3.elim
    · rw [if_neg c] at h1
      exact h1.elim
theorem in_run {K : PySem.W.Frag} {mg : Str → Option Value} {e1 : DEnv} {σ : L2.St} {G1 H1 : Hp} {k : D} {y : V} {g : List (D × D) → Key → Rs D} {Q : VK} (R1 : Rel K e1 σ G1 H1) (dk : Dv K G1 y k) (h1 : RunE K mg W e1 σ G1 H1 (match seeM i e1, keyOf k with
    | some xs, some a => g xs a
    | _, _ => .stuck) Q) : ∃ a vs xs key, σ[i]? = some (some (.ref a)) ∧ Rd H1 a (.dK vs) ∧ DvKv K G1 vs xs ∧ y = kV key ∧ RunE K mg W e1 σ G1 H1 (g xs key) Q := by
  cases q : seeM i e1 with
  | none => rw [q] at h1; exact h1.elim
  | some xs =>
    rw [q] at h1
    cases qk : keyOf k with
    | none => rw [qk] at h1; exact h1.elim
    | some key =>
      rw [qk] at h1
      have e0 := keyOf_some qk
      subst e0
      have ew := dv_key dk
      subst ew
      obtain ⟨a, vs, x1, x2, x3⟩ := see_get R1 q
      exact ⟨a, vs, xs, key, x1, x2, x3, rfl, h1⟩
theorem eInM_ok {K : PySem.W.Frag} {mg : Str → Option Value} (σ : L2.St) (H : Hp) (Q : VK) (h : rdE K mg W (eInM de i) σ H Q) : tDIn (rdE K mg W de) (tVar i) σ H Q := by
  obtain ⟨env, G, R, h⟩ := h
  refine E_thenE R h fun k e1 y G1 H1 _ R1 dk F1 h1 => ?_
  obtain ⟨a, vs, xs, key, x1, x2, x3, rfl, h2⟩ := in_run R1 dk h1
  refine ⟨_, x1, a, valV vs key, rfl, .inl ⟨vs, key, x2, rfl, rfl⟩, ?_⟩
  have es : (valV vs key).isSome = (valD xs key).isSome := by
    rcases kv_val (k := key) x3 with ⟨n1, n2⟩ | ⟨v1, d1, n1, n2, n3⟩ <;> rw [n1, n2] <;> rfl
  rw [es]
  exact h2 _ G1 H1 R1 (.bl _) (Fr.refl _ _ _ _)
theorem ct_inM (hu : X.A.units + 1 < cLine) (hk : CE X W e de) (hN : X.N[i]? = some x := by rfl) (hv : Vis X.env.scope x := by first | exact Or.inl rfl | exact Or.inr (Or.inl rfl) | exact Or.inr (Or.inr rfl)) (hd : (x == ("__debug__" : Str)) = false := by decide)
    (hcd : (x == ("__classdict__" : Str)) = false := by decide) : CT X W (.Compare e [.In] [.Name x p] pos) (tTst (eInM de i)) := pt_imp (pt_cmp (pc_din hu hk (pe_var hN hv hd hcd)) (h1 := by rfl)) fun σ H Q h => eInM_ok σ H _ (tst_ok _ σ H Q h)
end
end DL
set_option Elab.async false
set_option linter.all false
set_option maxRecDepth 100000
set_option autoImplicit false
namespace DL
open PySem L2 PySem.Spec PyProof.Rows
def intsOf : List D → Option (List Int)
  | [] => some []
  | .int i :: r => (intsOf r).map (i :: ·)
  | _ :: _ => none
end DL
set_option Elab.async false
set_option linter.all false
set_option maxRecDepth 100000
set_option autoImplicit false
namespace PySem
open Sem (wp)
end PySem
namespace DL
open PySem L2 PySem.Spec PyProof.Rows
end DL
set_option Elab.async false
set_option linter.all false
set_option maxRecDepth 100000
set_option autoImplicit false
set_option maxHeartbeats 4000000
namespace PySem
open Sem (wp)
open AutoSeq1
end PySem
namespace DL
open PySem L2 PySem.Spec PyProof.Rows
end DL
namespace DL
open PySem L2 PySem.Spec PyProof.Rows RZ
end DL
namespace DL
open PySem L2 PySem.Spec PyProof.Rows RZ
end DL
set_option Elab.async false
set_option linter.all false
set_option maxRecDepth 100000
set_option autoImplicit false
set_option maxHeartbeats 4000000
namespace PySem
open PySem.W PySem.Calls PyProof.Rows PySem.Spec SrtO
end PySem
namespace DL
open PySem L2 PySem.Spec PyProof.Rows
end DL
set_option Elab.async false
set_option linter.all false
set_option maxRecDepth 100000
set_option autoImplicit false
set_option maxHeartbeats 4000000
namespace DL
open PySem L2 L2H HotX PySem.Spec PyProof.Rows
end DL
set_option Elab.async false
set_option linter.all false
set_option maxRecDepth 100000
set_option autoImplicit false
set_option maxHeartbeats 4000000
namespace DL
open PySem L2 L2H HotX PySem.Spec PyProof.Rows
end DL
set_option Elab.async false
set_option linter.all false
set_option maxRecDepth 100000
set_option autoImplicit false
set_option maxHeartbeats 4000000
namespace DL
open PySem L2 L2H HotX PySem.Spec PyProof.Rows
/-- e.n -/
def eFld (a : Addr) (d : Option Addr) (i : Nat) (n : Str) : DE := fun env => match env[i]? with
  | some (.a a' d' (some (m, x))) => if a' = a ∧ d' = d ∧ m = n then .ok x env else .stuck
  | _ => .stuck
/-- _law_kinds(e) -/
def eKinds (a : Addr) (d : Option Addr) (c : Str) (i : Nat) : DE := fun env => match env[i]? with
  | some (.a a' d' _) => if a' = a ∧ d' = d then .ok (.str (c ++ "+")) env else .stuck
  | _ => .stuck
end DL
set_option Elab.async false
set_option linter.all false
set_option maxRecDepth 100000
set_option autoImplicit false
set_option maxHeartbeats 4000000
namespace DL
open PySem L2 L2H HotX PySem.Spec PyProof.Rows
/-- a clause's text: the class's word, and the field's behind it -/
def kindD (x : Xc) : Option Str → Option D
  | none => some (.str (x.c ++ "+"))
  | some w => match x.f with
    | some (n, y) => if n = w then dAdd (.str (x.c ++ "+")) y else none
    | none => none
/-- what a clause assigns -/
def eHd (a : Addr) (d : Option Addr) (c : Str) (i : Nat) : Option Str → DE
  | none => eKinds a d c i
  | some w => eBin dAdd (eKinds a d c i) (eFld a d i w)
inductive HsD (X : Cx) (nE : Str) (iE iK : Nat) : List ExceptHandler → List (Str × Option Str) → Prop
  | nil : HsD X nE iE iK [] []
  | cons {n : Str} {w : Option Str} {b₀ : Stmt} {su : List Stmt} {np pos' : Pos} {hds : List ExceptHandler} {l : List (Str × Option Str)} (hn : n ∈ ("SkinError" : Str) :: kNames) (hg : Gl X n) (hdb : (n == ("__debug__" : Str)) = false)
      (hsu : ∀ (c : Str), c ∈ kNames → mtC n c = true → ∀ (a : Addr) (oe : Obj) (d : Option Addr) (pn : List (Addr × Obj)), L2N.Zn (.ref (He.ga X.K c)) d oe → (∃ vs, oe.data = .fields vs) →
        CSs (X.suite a ((a, oe) :: pn)) WF (b₀ :: su) (sAsg (eHd a d c iE w) (gN iK))) (r : HsD X nE iE iK hds l) :
      HsD X nE iE iK (.ExceptHandler (some (.Name n np)) (some nE) (b₀ :: su) pos' :: hds) ((n, w) :: l)
section
variable {X : Cx} {W : WX} {pos : Pos} {body : List Stmt} {hd0 : ExceptHandler} {hds : List ExceptHandler} {l : List (Str × Option Str)} {nE : Str} {iE iK : Nat} {db : DS}
theorem HsD.names : ∀ {hds : List ExceptHandler} {l : List (Str × Option Str)}, HsD X nE iE iK hds l → ∀ p ∈ l, p.1 ∈ ("SkinError" : Str) :: kNames
  | _, _, .nil, _, h => by cases h
  | _, _, .cons hn _ _ _ r, p, h => by
    rcases List.mem_cons.mp h with e | h
    · subst e; exact hn
    · exact r.names p h
end
end DL
set_option Elab.async false
set_option linter.all false
set_option maxRecDepth 100000
set_option autoImplicit false
set_option maxHeartbeats 4000000
namespace DL
open PySem L2 PySem.Spec PyProof.Rows
end DL
set_option Elab.async false
set_option linter.all false
set_option maxRecDepth 100000
set_option autoImplicit false
set_option maxHeartbeats 4000000
namespace DL
open PySem L2 PySem.Spec PyProof.Rows
end DL
set_option Elab.async false
set_option linter.all false
set_option maxRecDepth 100000
set_option autoImplicit false
set_option maxHeartbeats 8000000
namespace PySem
open PySem.W PySem.Calls PyProof.Rows PySem.Spec SrtO L2
end PySem
set_option Elab.async false
set_option linter.all false
set_option maxRecDepth 100000
set_option autoImplicit false
set_option maxHeartbeats 8000000
namespace PySem
open PySem.W PySem.Calls PyProof.Rows PySem.Spec SrtO L2
end PySem
namespace DL
open PySem L2 PySem.Spec PyProof.Rows
end DL
set_option Elab.async false
set_option linter.all false
set_option maxRecDepth 100000
set_option autoImplicit false
set_option maxHeartbeats 8000000
namespace DL
open PySem L2 PySem.Spec PyProof.Rows
theorem css_stuck {X : Cx} {W : WX} {b : List Stmt} : CSs X W b (fun _ => .stuck) := ⟨fun _ _ _ _ _ _ w => by
  obtain ⟨_, _, _, z⟩ := w
  exact z.elim⟩
end DL
set_option Elab.async false
set_option linter.all false
set_option maxRecDepth 100000
set_option autoImplicit false
set_option maxHeartbeats 8000000
namespace DL
open PySem L2 PySem.Spec PyProof.Rows
section
variable {X : Cx} {W : WX} {pos : Pos}
def seeA (i : Nat) (env : DEnv) : Option (List D) := match env[i]? with
  | some (.l xs) => some xs
  | some (.p xs) => some xs
  | some (.v (.list xs)) => some xs
  | some (.v (.tuple xs)) => some xs
  | _ => none
theorem see_any {K : PySem.W.Frag} {env : DEnv} {σ : L2.St} {G H : Hp} {i : Nat} {xs : List D} (R : Rel K env σ G H) (h : seeA i env = some xs) : ∃ a vs, σ[i]? = some (some (.ref a)) ∧ (SqL K H a vs ∨ SqT K H a vs) ∧ DvAll K G vs xs := by
  by_cases q : seeL i env = some xs
  · obtain ⟨a, vs, h1, h2, h3⟩ := see_list R q
    exact ⟨a, vs, h1, .inl h2, h3⟩
  · unfold seeA at h
    unfold seeL at q
    split at h <;> rename_i e
    · rw [e] at q; exact absurd h q
    · rw [e] at q; exact absurd h q
    · rw [e] at q; exact absurd h q
    · cases h
      obtain ⟨o, ho, rs⟩ := peekV R e
      obtain ⟨v, e2, dv⟩ := rs
      cases dv with
      | @tup a ws _ h2 h3 => exact ⟨a, ws, by rw [ho, e2], .inr (R.ex.n h2).t, h3⟩
    · cases h
def lListA (i : Nat) : DA := fun env => match seeA i env with
  | some xs => .ok xs env
  | none => .stuck
theorem cl_listA (i : Nat) {x : Str} {p p2 : Pos} (hm : X.mg "list" = none) (hN : X.N[i]? = some x := by rfl) (hv : Vis X.env.scope x := by first | exact Or.inl rfl | exact Or.inr (Or.inl rfl) | exact Or.inr (Or.inr rfl)) (hd : (x == ("__debug__" : Str)) = false := by decide) (hcd : (x == ("__classdict__" : Str)) = false := by decide)
    (hg : Gl X "list" := by rfl) (hs : starEach [.Name x p] X.env = (false, eval (.Name x p) X.env) :: starEach [] X.env := by rfl) (hpl : (backTo pos (starEach [] X.env)).any (·.1) = false := by rfl) : CL X W (.Call (.Name "list" p2) [.Name x p] [] pos) (lListA i) :=
  pe_imp (pe_callTy call_list_of hg hm (by decide +kernel) (pa_cons (pe_var hN hv hd hcd) pa_nil hs) (by decide) (by decide) hs hpl) fun σ H Q h => by
    obtain ⟨env, G, R, h⟩ := h
    unfold lListA at h
    cases q : seeA i env with
    | none => rw [q] at h; exact h.elim
    | some xs =>
      rw [q] at h
      obtain ⟨a, vs, x1, x2, x4⟩ := see_any R q
      exact ⟨_, x1, a, vs, rfl, x2, fun l hl => RunL.new R h hl x4⟩
end
end DL
set_option Elab.async false
set_option linter.all false
set_option maxRecDepth 100000
set_option autoImplicit false
set_option maxHeartbeats 8000000
namespace DL
open PySem L2 PySem.Spec PyProof.Rows
def sgn (z : Str) : List Str := z.cps.toList.map fun c => ⟨#[c]⟩
def seqS : D → Option (List D)
  | .list xs => some xs
  | .tuple xs => some xs
  | .str z => some ((sgn z).map PyData.str)
  | _ => none
def iSeqS (de : DE) : DA := fun env => (de env).bind fun d e1 => put (seqS d) e1
theorem walk_str {K : PySem.W.Frag} {G : Hp} (z : Str) : WalkD K (Its z) ((sgn z).map PyData.str) G := fun i G' H' e1 e2 => by
  have hl : ((sgn z).map PyData.str).length = z.cps.size := by simp [sgn]
  refine ⟨fun d hd => ?_, fun hl' => by rw [hl] at hl'; exact hl'⟩
  have h1 : i < z.cps.size := by rw [← hl]; exact (List.getElem?_eq_some_iff.mp hd).1
  refine ⟨h1, fun x H'' ⟨e, c, hc, y⟩ => ?_⟩
  subst e
  have ed : d = .str ⟨#[c]⟩ := by
    simp only [sgn, List.getElem?_map, Array.getElem?_toList, hc, Option.map_some, Option.some.injEq] at hd
    exact hd.symm
  subst ed
  rw [y]
  exact ⟨G', Grow.refl e2, .str _⟩
section
variable {X : Cx} {W : WX} {pos : Pos} {tg e : Expr} {de : DE}
theorem ci_seqS (he : CE X W e de) : CI X W tg e (iSeqS de) := pi_imp (pi_or (ci_seq he) (pi_str he)) fun σ H R h => by
  obtain ⟨env, G, R0, h⟩ := h
  have h' : RunI X.K X.mg W env σ G H ((de env).bind fun d e1 => put (seqS d) e1) R := h
  cases q : de env with
  | stuck => rw [q] at h'; exact h'.elim
  | ex x e => rw [q] at h'; exact .inr ⟨env, G, R0, by rw [q]; exact h'⟩
  | ok d e1 =>
    rw [q] at h'
    cases d with
    | list xs =>
      refine .inl ⟨env, G, R0, ?_⟩
      unfold iSeq
      rw [q]
      exact h'
    | tuple xs =>
      refine .inl ⟨env, G, R0, ?_⟩
      unfold iSeq
      rw [q]
      exact h'
    | str z =>
      refine .inr ⟨env, G, R0, ?_⟩
      rw [q]
      intro v G1 H1 R1 dv F1
      cases dv
      exact ⟨z, rfl, h' _ G1 H1 R1 (walk_str z) F1⟩
    | none => exact h'.elim
    | bool b => exact h'.elim
    | int b => exact h'.elim
    | dict b => exact h'.elim
end
def inStr (x z : Str) : Option Bool := match x.cps.toList with
  | [c] => some (decide (c ∈ z.cps.toList))
  | _ => none
theorem inStr_some {x z : Str} {b : Bool} (h : inStr x z = some b) : ∃ c, x = ⟨#[c]⟩ ∧ b = decide (c ∈ z.cps.toList) := by
  unfold inStr at h
  split at h
  · rename_i c q
    refine ⟨c, ?_, (Option.some.inj h).symm⟩
    apply Str.ext'
    apply Array.toList_inj.mp
    rw [q]
  · cases h
def dInS (x s : D) : Option D := match s with
  | .str z => match x with
    | .str y => (inStr y z).map PyData.bool
    | _ => none
  | s => dIn x s
def dNotInS (x s : D) : Option D := match s with
  | .str z => match x with
    | .str y => (inStr y z).map fun b => PyData.bool (!b)
    | _ => none
  | s => dNotIn x s
def rInSt (neg : Bool) : R2 := fun x y H Q => ∃ (c : Nat) (z : Str), x = .str ⟨#[c]⟩ ∧ y = .str z ∧ Q (.bl (if neg then !decide (c ∈ z.cps.toList) else decide (c ∈ z.cps.toList))) H
section
variable {X : Cx} {K : PySem.W.Frag}
theorem op_inA : OpR X (compareOp .In) (fun x y H Q => rIn X.K false x y H Q ∨ rInSt false x y H Q) := op_in_seq.or op_in_sign
theorem op_notInA : OpR X (compareOp .NotIn) (fun x y H Q => rIn X.K true x y H Q ∨ rInSt true x y H Q) := op_notIn_seq.or op_notIn_sign
theorem od_inS : OpD K (fun x y H Q => rIn K false x y H Q ∨ rInSt false x y H Q) dInS := fun x y d e z G H Q hx hy ex h k => by
  by_cases hs : ∃ t, e = .str t
  · obtain ⟨t, rfl⟩ := hs
    right
    cases hy
    cases d with
    | str u =>
      cases hx
      have h' : (inStr u t).map PyData.bool = some z := h
      cases q : inStr u t with
      | none => rw [q] at h'; cases h'
      | some b =>
        rw [q] at h'
        cases h'
        obtain ⟨c, rfl, rfl⟩ := inStr_some q
        exact ⟨c, t, rfl, rfl, k _ G H (.bl _) (Grow.refl ex)⟩
    | _ => cases h
  · left
    have h' : dIn d e = some z := by
      cases e <;> first | exact h | exact absurd ⟨_, rfl⟩ hs
    exact od_in x y d e z G H Q hx hy ex h' k
theorem od_notInS : OpD K (fun x y H Q => rIn K true x y H Q ∨ rInSt true x y H Q) dNotInS := fun x y d e z G H Q hx hy ex h k => by
  by_cases hs : ∃ t, e = .str t
  · obtain ⟨t, rfl⟩ := hs
    right
    cases hy
    cases d with
    | str u =>
      cases hx
      have h' : (inStr u t).map (fun b => PyData.bool (!b)) = some z := h
      cases q : inStr u t with
      | none => rw [q] at h'; cases h'
      | some b =>
        rw [q] at h'
        cases h'
        obtain ⟨c, rfl, rfl⟩ := inStr_some q
        exact ⟨c, t, rfl, rfl, k _ G H (.bl _) (Grow.refl ex)⟩
    | _ => cases h
  · left
    have h' : dNotIn d e = some z := by
      cases e <;> first | exact h | exact absurd ⟨_, rfl⟩ hs
    exact od_notIn x y d e z G H Q hx hy ex h' k
def mulStr (x : Str) (n : Int) : Option Str := if x.length ≤ 100 ∧ 0 ≤ n ∧ n ≤ 1000 then some (Txt.mul x n) else none
def dMulS (a b : D) : Option D := match a, b with
  | .str x, .int n => (mulStr x n).map PyData.str
  | a, b => dMul a b
def rMulS : R2 := fun x y H Q => ∃ u n, x = .str u ∧ y = .int n ∧ u.length ≤ 100 ∧ 0 ≤ n ∧ n ≤ 1000 ∧ Q (.str (Txt.mul u n)) H
theorem mulOk_small {u : Str} {n : Int} (h1 : u.length ≤ 100) (h2 : 0 ≤ n) (h3 : n ≤ 1000) : MulOk u n := by
  refine ⟨?_, fun h4 _ => ?_, fun h4 _ => ?_⟩
  · rw [Bool.or_eq_false_iff, decide_eq_false_iff_not, decide_eq_false_iff_not]
    constructor <;> omega
  · have h5 : (0 : Int) < n := by omega
    have h6 : n ≤ (2 ^ 63 - 1) / 100000 := by omega
    have h7 : (100000 : Int) ≤ (2 ^ 63 - 1) / n := by
      rw [Int.le_ediv_iff_mul_le h5]
      have : 100000 * n ≤ 100000 * 1000 := Int.mul_le_mul_of_nonneg_left h3 (by decide)
      omega
    omega
  · obtain ⟨m, rfl⟩ := Int.eq_ofNat_of_zero_le h2
    have hm : m ≤ 1000 := by omega
    have : u.length * m ≤ 100 * 1000 := Nat.mul_le_mul h1 hm
    rw [Int.toNat_natCast]
    unfold Builtin.Str.tooLong
    rw [decide_eq_false_iff_not]
    have := lim_size (n := u.length * m) (by omega)
    omega
theorem op_mulSt : OpR X (binaryOp .Mult) rMulS := by
  intro pins s σ H x y v u Q I rx ry h
  obtain ⟨a, n, rfl, rfl, h1, h2, h3, q⟩ := h
  obtain ⟨t, rfl⟩ := rx
  obtain ⟨t', rfl⟩ := ry
  exact SB.mul (mulOk_small h1 h2 h3) fun t2 k => ⟨.str (Txt.mul a n), H, I.tok _, ⟨t2, rfl⟩, q⟩
theorem op_mulAS : OpR X (binaryOp .Mult) (fun x y H Q => rMulA x y H Q ∨ rMulS x y H Q) := op_mulA.or op_mulSt
theorem od_mulS : OpD K (fun x y H Q => rMulA x y H Q ∨ rMulS x y H Q) dMulS := fun x y d e z G H Q hx hy ex h k => by
  by_cases hs : ∃ u n, d = .str u ∧ e = .int n
  · obtain ⟨u, n, rfl, rfl⟩ := hs
    right
    cases hx
    cases hy
    have h' : (mulStr u n).map PyData.str = some z := h
    unfold mulStr at h'
    by_cases c : u.length ≤ 100 ∧ 0 ≤ n ∧ n ≤ 1000
    · rw [if_pos c] at h'
      cases h'
      exact ⟨u, n, rfl, rfl, c.1, c.2.1, c.2.2, k _ G H (.str _) (Grow.refl ex)⟩
    · rw [if_neg c] at h'
      cases h'
  · left
    have h' : dMul d e = some z := by
      cases d <;> first | exact h | (cases e <;> first | exact h | exact absurd ⟨_, _, rfl, rfl⟩ hs)
    exact od_mul x y d e z G H Q hx hy ex h' k
end
end DL
set_option Elab.async false
set_option linter.all false
set_option maxRecDepth 100000
set_option autoImplicit false
set_option maxHeartbeats 8000000
namespace DL
open PySem L2 PySem.Spec PyProof.Rows
end DL
set_option Elab.async false
set_option linter.all false
set_option maxRecDepth 100000
set_option autoImplicit false
namespace DL
open PySem L2 PySem.Spec PyProof.Rows
def repT (xs : List D) (n : Int) : Option D := if xs ≠ [] ∧ 2 ≤ n ∧ n ≤ 1000 ∧ xs.length ≤ 1000 then some (.tuple (List.replicate n.toNat xs).flatten) else none
def dMulT (a b : D) : Option D := match a, b with
  | .tuple xs, .int n => repT xs n
  | a, b => dMulS a b
def rRepF (K : PySem.W.Frag) : R2 := fun x y H Q => ∃ l k xs, x = .ref l ∧ y = .int k ∧ SqT K H l xs ∧ xs ≠ [] ∧ 2 ≤ k ∧ k ≤ 1000 ∧ xs.length ≤ 1000 ∧ ∀ (p : Addr) (o : Obj), H p = none → o.dict = none → Q (.ref p) (upd H p (.frz o (.tup (List.replicate k.toNat xs).flatten)))
theorem many_ok {a b : Nat} (h1 : a ≤ 1000) (h2 : b ≤ 1000) : a * b ≤ sizeLine := by
  have : a * b ≤ 1000 * 1000 := Nat.mul_le_mul h1 h2
  have e : sizeLine = _ := sizeLine_eq
  omega
section
variable {X : Cx} {K : PySem.W.Frag}
theorem op_repF : OpR X (binaryOp .Mult) (rRepF X.K) := by
  intro pins s σ H x y v u Q I rx ry hh
  obtain ⟨l, k, xs, rfl, rfl, hT, hne, h1, h2, hz, hq⟩ := hh
  cases rx
  obtain ⟨tk, rfl⟩ := ry
  obtain ⟨its, rr, ⟨⟨kl, dd, dat, sl⟩, ho, e1, n, e2⟩, _⟩ := I.tuple hT
  simp only at e1 e2
  subst e1 e2
  have le : its.length = xs.length := rr.length.symm
  have ne : its.toArray.isEmpty = false := by
    cases its with
    | nil => exact absurd (List.eq_nil_of_length_eq_zero le.symm) hne
    | cons _ _ => rfl
  have sz : its.toArray.size = xs.length := List.size_toArray.trans le
  have mm : ((its.toArray.size : Nat) : Int) * k ≤ 1000000 := by
    rw [sz]
    have := Int.mul_le_mul_of_nonneg_right (show ((xs.length : Nat) : Int) ≤ 1000 by omega) (show 0 ≤ k by omega)
    omega
  have fl : (List.replicate k.toNat its).flatten.length ≤ sizeLine := by
    rw [PyProof.Rows.lm_len_rep_flat, le]
    exact many_ok (by omega) hz
  have fx : (List.replicate k.toNat xs).flatten.length ≤ sizeLine := by
    rw [PyProof.Rows.lm_len_rep_flat]
    exact many_ok (by omega) hz
  refine wpAny_binaryOp_repeat_ref (T := "tuple") (U := "int") (by decide) ⟨_, ho, rfl⟩ (fun z => typeIs_int z k tk) noFill_tuple_mul F.fills_int_mul F.slot_int_rmul repeat_tuple F.slot_int_index.lookup ?_
  refine call_meets F.slot_int_rmul (typeIs_int s k tk) F.entry_int_rmul (F.args_int_rmul_2 _ _) (int_rmul_tuple k tk l its.toArray n dd sl) ⟨ho, rfl, ⟨_, ho, rfl⟩, ?_⟩
  refine call_meets F.slot_tuple_mul ⟨_, ho, rfl⟩ F.entry_tuple_mul (F.args_tuple_mul_2 _ _) (tuple_mulW l its.toArray n dd sl k tk ?_ ?_ ?_ (by omega) ?_ ?_) ⟨ho, ?_⟩
  · rw [Bool.or_eq_false_iff, decide_eq_false_iff_not, decide_eq_false_iff_not]
    constructor <;> omega
  · rw [ne]
    exact beq_eq_false_iff_ne.mpr (by omega)
  · rw [ne, Bool.or_false]
    exact decide_eq_false (by omega)
  · unfold Builtin.Tuple.tupleTooMany
    have e : sizeLine = _ := sizeLine_eq
    exact decide_eq_false (by omega)
  · rw [size_rep]
    exact fl
  · rw [size_rep]
    refine ⟨.ref s.heap.objs.size, _, I.laid (t' := s.toks) (o := .frz { cls := .type "tuple", data := .seq (List.replicate k.toNat its).flatten.toArray } (.tup (List.replicate k.toNat xs).flatten)) (fun b ob q => Heap.get?_push_of_some _ q) (Nat.le_refl _) ?_, rfl, hq _ _ (I.hok.fresh (Nat.le_refl _)) rfl⟩
    exact ⟨Heap.get?_push_size _ rfl, fx, _, rr.rep k.toNat, IsTup.new _ _⟩
theorem DvAll.rep {G : Hp} {vs : List V} {ds : List D} (h : DvAll K G vs ds) : ∀ m, DvAll K G (List.replicate m vs).flatten (List.replicate m ds).flatten
  | 0 => .nil
  | m + 1 => by
    rw [List.replicate_succ, List.replicate_succ, List.flatten_cons, List.flatten_cons]
    exact h.append (DvAll.rep h m)
def rMulT (K : PySem.W.Frag) : R2 := fun x y H Q => (rMulA x y H Q ∨ rMulS x y H Q) ∨ rRepF K x y H Q
theorem op_mulAT : OpR X (binaryOp .Mult) (rMulT X.K) := op_mulAS.or op_repF
theorem od_mulT : OpD K (rMulT K) dMulT := fun x y d e z G H Q hx hy ex h k => by
  by_cases hs : ∃ u n, d = .tuple u ∧ e = .int n
  · obtain ⟨u, n, rfl, rfl⟩ := hs
    right
    cases hy
    have h' : repT u n = some z := h
    unfold repT at h'
    by_cases c : u ≠ [] ∧ 2 ≤ n ∧ n ≤ 1000 ∧ u.length ≤ 1000
    · rw [if_pos c] at h'
      cases h'
      cases hx with
      | @tup a vs _ h1 h2 =>
        refine ⟨a, n, vs, rfl, rfl, (ex.n h1).t, fun q => ?_, c.2.1, c.2.2.1, by rw [h2.length]; exact c.2.2.2, fun p o hp hd => ?_⟩
        · subst q
          cases h2
          exact c.1 rfl
        · have g : Grow G H (upd G p (.frz o (.tup (List.replicate n.toNat vs).flatten))) (upd H p (.frz o (.tup (List.replicate n.toNat vs).flatten))) := Grow.one ex hp
          exact k _ _ _ (.tup (.inl ⟨o, upd_same, hd⟩) ((h2.rep n.toNat).up g.gg)) g
    · rw [if_neg c] at h'
      cases h'
  · left
    have h' : dMulS d e = some z := by
      cases d <;> first | exact h | (cases e <;> first | exact h | exact absurd ⟨_, _, rfl, rfl⟩ hs)
    exact od_mulS x y d e z G H Q hx hy ex h' k
end
end DL
set_option Elab.async false
set_option linter.all false
set_option maxRecDepth 100000
set_option autoImplicit false
namespace DL
open PySem L2 PySem.Spec PyProof.Rows
end DL
set_option Elab.async false
set_option linter.all false
set_option maxRecDepth 100000
set_option autoImplicit false
namespace DL
open PySem L2 PySem.Spec PyProof.Rows
end DL
set_option Elab.async false
set_option linter.all false
set_option maxRecDepth 100000
set_option autoImplicit false
namespace DL
open PySem L2
/-- a def that makes a dict, by data: the dict, what comes back -/
abbrev DfM := DEnv → Option (List (D × D) × DEnv)
section
variable (K : PySem.W.Frag) (mg : Str → Option Value)
def RunFM (args : DEnv) (σ : L2.St) (G H : Hp) (r : Option (List (D × D) × DEnv)) (Q : VK) : Prop := match r with
  | some (kvs, outs) => ∀ a ws G' H', Rel K outs σ G' H' → H' a = some (.dK ws) → G' a = none → H a = none → ¬ Own outs σ H' a → DvKv K G' ws kvs → Fr args σ G H outs σ G' H' → Q (.ref a) H'
  | none => False
def spM (np : Nat) (F : DfM) : L2.Sp := fun vs H Q E => vs.length = np ∧ ∃ args G, Rel K args (vs.map some) G H ∧ RunFM K args (vs.map some) G H (F args) Q
end
/-- what a caller knows of such a def -/
structure CalM (P : Program) (w : World) (K : PySem.W.Frag) (mg : Str → Option Value) (base : Heap) (k : Nat) (x : Str) (np : Nat) (F : DfM) : Prop where
  ex : ∃ (fd : FuncData) (ps : List Str), ps.length = np ∧ FnOk P w K mg base (L2N.CX P w) k (He.ga K x) fd ps (spM K ps.length F) ∧ Binds K fd ps []
  mg_ : mg x = some (.ref (He.ga K x))
  kp : PySem.W.keepIn K (.ref (He.ga K x)) = true
section
variable {P : Program} {w : World} {K : PySem.W.Frag} {mg : Str → Option Value} {base : Heap}
theorem CalM.mono {j k : Nat} {x : Str} {np : Nat} {F : DfM} (C : CalM P w K mg base j x np F) (h : j ≤ k) : CalM P w K mg base k x np F :=
  let ⟨fd, ps, e, f, b⟩ := C.ex
  ⟨⟨fd, ps, e, f.mono h, b⟩, C.mg_, C.kp⟩
end
section
variable {X : Cx} {W : WX} {pos p : Pos} {e : Expr} {es : List Expr} {da : DAr} {j k np : Nat} {F : DfM} {x : Str}
theorem RunM.shift {K : PySem.W.Frag} {mg : Str → Option Value} {env env1 : DEnv} {σ : L2.St} {G H G1 H1 : Hp} {r : Rs (List (D × D))} {Q : VK} (h : RunM K mg W env σ G H r Q) (f : Fr env σ G H env1 σ G1 H1) : RunM K mg W env1 σ G1 H1 r Q := by
  cases r with
  | stuck => exact h
  | ex x e => exact RunX.shift h f
  | ok ds e2 => exact fun p vs G' H' R' h1 h2 h3 h4 dv F => h p vs G' H' R' h1 h2 (f.dom p h3) h4 dv (f.trans F)
end
end DL
set_option Elab.async false
set_option linter.all false
set_option maxRecDepth 100000
set_option autoImplicit false
set_option maxHeartbeats 4000000
namespace DL
open PySem L2 PySem.Spec PyProof.Rows
abbrev Rows := List (List Int)
/-- lists within a list, apart from one another -/
structure NL (H : Hp) (r : Addr) (bs : List Addr) (rows : Rows) : Prop where
  out : H r = some (.lst (bs.map V.ref))
  len : bs.length = rows.length
  inn : ∀ (j : Nat) (b : Addr) (row : List Int), bs[j]? = some b → rows[j]? = some row → H b = some (.lst (row.map V.int))
  nd : (r :: bs).Nodup
theorem NL.all {H : Hp} {r : Addr} {bs : List Addr} {rows : Rows} (h : NL H r bs rows) {a : Addr} (ha : a ∈ r :: bs) : H a ≠ none := by
  rcases List.mem_cons.1 ha with rfl | ha
  · rw [h.out]; exact fun z => by cases z
  · obtain ⟨j, hj, e⟩ := List.getElem_of_mem ha
    have hj2 : j < rows.length := by rw [← h.len]; exact hj
    rw [← e, h.inn j _ _ (List.getElem?_eq_getElem hj) (List.getElem?_eq_getElem hj2)]
    exact fun z => by cases z
theorem NL.keep {H H' : Hp} {r : Addr} {bs : List Addr} {rows : Rows} (h : NL H r bs rows) (k : ∀ a, a ∈ r :: bs → H' a = H a) : NL H' r bs rows :=
  ⟨by rw [k r (List.mem_cons_self ..)]; exact h.out, h.len, fun j b row hb hr => by rw [k b (List.mem_cons_of_mem _ (List.mem_of_getElem? hb))]; exact h.inn j b row hb hr, h.nd⟩
def putRows : Rows → Int → Int → Int → Option Rows
  | [], _, _, _ => none
  | row :: rows, name, new, more => if name ∈ row then (if row.length ≤ 100000 ∧ 0 ≤ (row.idxOf name : Int) + more ∧ (row.idxOf name : Int) + more ≤ 200000 then some ((row.take ((row.idxOf name : Int) + more).toNat ++ [new] ++ row.drop ((row.idxOf name : Int) + more).toNat) :: rows) else none)
    else (putRows rows name new more).map (row :: ·)
def spP : L2.Sp := fun vs H Q _ => ∃ r bs rows name new more rows', vs = [.ref r, .int name, .int new, .int more] ∧ NL H r bs rows ∧ putRows rows name new more = some rows' ∧ ∀ H', NL H' r bs rows' → (∀ a, a ∉ bs → H' a = H a) → Q .non H'
structure CalP (P : Program) (w : World) (K : PySem.W.Frag) (mg : Str → Option Value) (base : Heap) (k : Nat) (x : Str) : Prop where
  ex : ∃ (fd : FuncData) (ps : List Str), ps.length = 4 ∧ FnOk P w K mg base (L2N.CX P w) k (He.ga K x) fd ps spP ∧ Binds K fd ps []
  mg_ : mg x = some (.ref (He.ga K x))
  kp : PySem.W.keepIn K (.ref (He.ga K x)) = true
end DL
namespace DL
open PySem L2 PySem.Spec PyProof.Rows
section
variable {P : Program} {w : World} {K : PySem.W.Frag} {mg : Str → Option Value} {base : Heap}
theorem CalP.mono {j k : Nat} {x : Str} (C : CalP P w K mg base j x) (h : j ≤ k) : CalP P w K mg base k x :=
  let ⟨fd, ps, e, f, b⟩ := C.ex
  ⟨⟨fd, ps, e, f.mono h, b⟩, C.mg_, C.kp⟩
end
/-- a def that makes lists within a list -/
abbrev DfN := DEnv → Option (Rows × DEnv)
section
variable (K : PySem.W.Frag)
def spN (np : Nat) (F : DfN) : L2.Sp := fun vs H Q _ => vs.length = np ∧ ∃ args G, Rel K args (vs.map some) G H ∧ match F args with
  | some (rows, outs) => ∀ a bs G' H', Rel K outs (vs.map some) G' H' → NL H' a bs rows → (∀ z, z ∈ a :: bs → H z = none ∧ G' z = none ∧ ¬ Own outs (vs.map some) H' z) → Fr args (vs.map some) G H outs (vs.map some) G' H' → Q (.ref a) H'
  | none => False
end
structure CalN (P : Program) (w : World) (K : PySem.W.Frag) (mg : Str → Option Value) (base : Heap) (k : Nat) (x : Str) (np : Nat) (F : DfN) : Prop where
  ex : ∃ (fd : FuncData) (ps : List Str), ps.length = np ∧ FnOk P w K mg base (L2N.CX P w) k (He.ga K x) fd ps (spN K ps.length F) ∧ Binds K fd ps []
  mg_ : mg x = some (.ref (He.ga K x))
  kp : PySem.W.keepIn K (.ref (He.ga K x)) = true
section
variable {P : Program} {w : World} {K : PySem.W.Frag} {mg : Str → Option Value} {base : Heap}
theorem CalN.mono {j k : Nat} {x : Str} {np : Nat} {F : DfN} (C : CalN P w K mg base j x np F) (h : j ≤ k) : CalN P w K mg base k x np F :=
  let ⟨fd, ps, e, f, b⟩ := C.ex
  ⟨⟨fd, ps, e, f.mono h, b⟩, C.mg_, C.kp⟩
end
end DL
set_option Elab.async false
set_option linter.all false
set_option maxRecDepth 100000
set_option autoImplicit false
set_option maxHeartbeats 4000000
namespace DL
open PySem L2
/-- the lists are the def's own, and new -/
def NS (H0 G H : Hp) (env : DEnv) (σ : L2.St) (r : Addr) (rows : Rows) : Prop := ∃ bs, NL H r bs rows ∧ ∀ z, z ∈ r :: bs → H0 z = none ∧ G z = none ∧ ¬ Own env σ H z
theorem NS.fr {H0 G H G' H' : Hp} {env env' : DEnv} {σ σ' : L2.St} {r : Addr} {rows : Rows} (h : NS H0 G H env σ r rows) (F : Fr env σ G H env' σ' G' H') : NS H0 G' H' env' σ' r rows := by
  obtain ⟨bs, nl, k⟩ := h
  have kp : ∀ z, z ∈ r :: bs → H' z = H z := fun z hz => by
    cases q : H z with
    | none => exact absurd q (nl.all hz)
    | some o => exact F.keep z o q (k z hz).2.2
  refine ⟨bs, nl.keep kp, fun z hz => ⟨(k z hz).1, ?_, fun o => ?_⟩⟩
  · cases q : G' z with
    | none => rfl
    | some o =>
      rcases F.fresh z (by rw [q]; exact fun w => by cases w) with w | w | w
      · exact absurd (k z hz).2.1 w
      · exact absurd w (nl.all hz)
      · exact absurd w (k z hz).2.2
  · rcases F.own z o with w | w
    · exact (k z hz).2.2 w
    · exact nl.all hz w
end DL
set_option Elab.async false
set_option linter.all false
set_option maxRecDepth 100000
set_option autoImplicit false
set_option maxHeartbeats 4000000
namespace PySem
open PySem.W PySem.Calls PyProof.Rows PySem.Spec SrtO L2
end PySem
namespace DL
open PySem L2 PySem.Spec PyProof.Rows
end DL
set_option Elab.async false
set_option linter.all false
set_option maxRecDepth 100000
set_option autoImplicit false
set_option maxHeartbeats 4000000
namespace DL
open PySem L2 PySem.Spec PyProof.Rows
/-- rows that stand still, and one new row of the def's own behind them -/
structure PL (K : PySem.W.Frag) (H0 G H : Hp) (env : DEnv) (σ : L2.St) (r b : Addr) (vs : List V) (rs : List D) (acc : List Int) : Prop where
  out : H r = some (.lst (vs ++ [.ref b]))
  inn : H b = some (.lst (acc.map V.int))
  dv : DvAll K G vs rs
  ne : r ≠ b
  new : ∀ z, z ∈ [r, b] → H0 z = none ∧ G z = none ∧ ¬ Own env σ H z
theorem PL.fr {K : PySem.W.Frag} {H0 G H G' H' : Hp} {env env' : DEnv} {σ σ' : L2.St} {r b : Addr} {vs : List V} {rs : List D} {acc : List Int} (h : PL K H0 G H env σ r b vs rs acc) (F : Fr env σ G H env' σ' G' H') : PL K H0 G' H' env' σ' r b vs rs acc := by
  have hr := h.new r (by simp)
  have hb := h.new b (by simp)
  have kr := F.keep r _ h.out hr.2.2
  have kb := F.keep b _ h.inn hb.2.2
  have all : ∀ z, z ∈ [r, b] → H z ≠ none := fun z hz => by
    simp only [List.mem_cons, List.not_mem_nil, or_false] at hz
    rcases hz with rfl | rfl
    · rw [h.out]; exact fun w => nomatch w
    · rw [h.inn]; exact fun w => nomatch w
  refine ⟨kr, kb, h.dv.up F.gg, h.ne, fun z hz => ⟨(h.new z hz).1, ?_, fun o => ?_⟩⟩
  · cases q : G' z with
    | none => rfl
    | some o =>
      rcases F.fresh z (by rw [q]; exact fun w => by cases w) with w | w | w
      · exact absurd (h.new z hz).2.1 w
      · exact absurd w (all z hz)
      · exact absurd w (h.new z hz).2.2
  · rcases F.own z o with w | w
    · exact (h.new z hz).2.2 w
    · exact all z hz w
end DL
set_option Elab.async false
set_option linter.all false
set_option maxRecDepth 100000
set_option autoImplicit false
set_option maxHeartbeats 4000000
namespace DL
open PySem L2 PySem.Spec PyProof.Rows
end DL
set_option Elab.async false
set_option linter.all false
set_option maxRecDepth 100000
set_option autoImplicit false
set_option maxHeartbeats 4000000
namespace DL
open PySem L2 PySem.Spec PyProof.Rows
end DL
set_option Elab.async false
set_option linter.all false
set_option maxRecDepth 100000
set_option autoImplicit false
set_option maxHeartbeats 4000000
namespace DL
open PySem L2 PySem.Spec PyProof.Rows
end DL
set_option Elab.async false
set_option linter.all false
set_option maxRecDepth 100000
set_option autoImplicit false
set_option maxHeartbeats 8000000
namespace PySem
open PySem.W PySem.Calls PyProof.Rows PySem.Spec SrtO L2 HT
end PySem
set_option Elab.async false
set_option linter.all false
set_option maxRecDepth 100000
set_option autoImplicit false
set_option maxHeartbeats 4000000
namespace DL
open PySem L2 PySem.Spec PyProof.Rows
end DL
namespace DL
open PySem L2 PySem.Spec PyProof.Rows
end DL
set_option Elab.async false
set_option linter.all false
set_option maxRecDepth 100000
set_option autoImplicit false
set_option maxHeartbeats 8000000
namespace PySem
open PySem.W PySem.Calls PyProof.Rows PySem.Spec SrtO L2
end PySem
namespace DL
open PySem L2 PySem.Spec PyProof.Rows
end DL
set_option Elab.async false
set_option linter.all false
set_option maxRecDepth 100000
set_option autoImplicit false
namespace DL
open PySem L2
end DL
set_option Elab.async false
set_option linter.all false
set_option maxRecDepth 100000
set_option autoImplicit false
namespace DL
open PySem L2 PySem.Spec PyProof.Rows
/-- either of two readings -/
theorem pe_or {X : Cx} {e : Expr} {t u : TE} (h : PE X e t) (g : PE X e u) : PE X e fun σ H Q => t σ H Q ∨ u σ H Q := ⟨fun pins s σ H Q I w => w.elim (h.run pins s σ H Q I) (g.run pins s σ H Q I)⟩
end DL
set_option Elab.async false
set_option linter.all false
set_option maxRecDepth 100000
set_option autoImplicit false
set_option maxHeartbeats 4000000
namespace DL
open PySem L2 PySem.Spec PyProof.Rows
/-- comparable, not too deep -/
structure CmpOk (ds : List D) : Prop where
  al : ∀ d, d ∈ ds → ∀ e, e ∈ ds → W.alike d e = true
  nn : ∀ d, d ∈ ds → d ≠ PyData.none
  cl : PyData.canLayAll0 ds = true
  dp : PyData.depthAll ds ≤ 60
  sz : ds.length ≤ 100000
noncomputable instance (ds : List D) : Decidable (CmpOk ds) := Classical.propDecidable _
/-- all are tuples with something in them, or none is a tuple -/
structure SrtOk (ds : List D) : Prop where
  c : CmpOk ds
  s : W.Sortable ds
noncomputable instance (ds : List D) : Decidable (SrtOk ds) := Classical.propDecidable _
end DL
set_option Elab.async false
set_option linter.all false
set_option maxRecDepth 100000
set_option autoImplicit false
set_option maxHeartbeats 4000000
namespace PySem.W
open PySem PySem.Calls PyProof.Rows
end PySem.W
namespace DL
open PySem L2 PySem.Spec PyProof.Rows
end DL
set_option Elab.async false
set_option linter.all false
set_option maxRecDepth 100000
set_option autoImplicit false
set_option maxHeartbeats 4000000
namespace DL
open PySem L2 PySem.Spec PyProof.Rows
end DL
set_option Elab.async false
set_option linter.all false
set_option maxRecDepth 100000
set_option autoImplicit false
set_option maxHeartbeats 4000000
namespace DL
open PySem L2 PySem.Spec PyProof.Rows
def dL (xs : List D) : Tr := .l (xs.map Tr.d)
end DL
set_option Elab.async false
set_option linter.all false
set_option maxRecDepth 100000
set_option autoImplicit false
set_option maxHeartbeats 4000000
namespace DL
open PySem L2 PySem.Spec PyProof.Rows
end DL
set_option Elab.async false
set_option linter.all false
set_option maxRecDepth 100000
set_option autoImplicit false
set_option maxHeartbeats 4000000
namespace DL
open PySem L2 PySem.Spec PyProof.Rows
end DL
set_option Elab.async false
set_option linter.all false
set_option maxRecDepth 100000
set_option autoImplicit false
set_option maxHeartbeats 4000000
namespace DL
open PySem L2 PySem.Spec PyProof.Rows
end DL
set_option Elab.async false
set_option linter.all false
set_option maxRecDepth 100000
set_option autoImplicit false
set_option maxHeartbeats 4000000
namespace DL
open PySem L2 PySem.Spec PyProof.Rows
end DL
set_option Elab.async false
set_option linter.all false
set_option maxRecDepth 100000
set_option autoImplicit false
set_option maxHeartbeats 4000000
namespace DL
open PySem L2 PySem.Spec PyProof.Rows
end DL
set_option Elab.async false
set_option linter.all false
set_option maxRecDepth 100000
set_option autoImplicit false
set_option maxHeartbeats 4000000
namespace DL
open PySem L2 PySem.Spec PyProof.Rows
end DL
set_option Elab.async false
set_option linter.all false
set_option maxRecDepth 100000
set_option autoImplicit false
set_option maxHeartbeats 4000000
namespace DL
open PySem L2 PySem.Spec PyProof.Rows
end DL
set_option Elab.async false
set_option linter.all false
set_option maxRecDepth 100000
set_option autoImplicit false
set_option maxHeartbeats 4000000
namespace DL
open PySem L2 PySem.Spec PyProof.Rows
end DL
set_option Elab.async false
set_option linter.all false
set_option maxRecDepth 100000
set_option autoImplicit false
set_option maxHeartbeats 8000000
namespace DL
open PySem L2 PySem.Spec PyProof.Rows
end DL
set_option Elab.async false
set_option linter.all false
set_option maxRecDepth 100000
set_option autoImplicit false
set_option maxHeartbeats 4000000
namespace DL
open PySem L2 PySem.Spec PyProof.Rows
end DL
set_option Elab.async false
set_option linter.all false
set_option maxRecDepth 100000
set_option autoImplicit false
set_option maxHeartbeats 4000000
namespace DL
open PySem L2 PySem.Spec PyProof.Rows
end DL
set_option Elab.async false
set_option linter.all false
set_option maxRecDepth 100000
set_option autoImplicit false
set_option maxHeartbeats 4000000
namespace DL
open PySem L2 PySem.Spec PyProof.Rows
def ks (ws : List (Str × V)) : List (Key × V) := ws.map fun p => (.inr p.1, p.2)
end DL
set_option Elab.async false
set_option linter.all false
set_option maxRecDepth 100000
set_option autoImplicit false
set_option maxHeartbeats 8000000
namespace DL
open PySem L2 PySem.Spec PyProof.Rows
end DL
set_option Elab.async false
set_option linter.all false
set_option maxRecDepth 100000
set_option autoImplicit false
set_option maxHeartbeats 8000000
namespace DL
open PySem L2 PySem.Spec PyProof.Rows
def RunTr (K : PySem.W.Frag) (mg : Str → Option Value) (W : WX) (env : DEnv) (σ : L2.St) (G H : Hp) (r : Rs Tr) (Q : VK) : Prop := match r with
  | .ok T env' => ∀ v G' H', Rel K env' σ G' H' → TreeAt K G' H' v T → (reach H' v T).Nodup → (∀ b, b ∈ reach H' v T → G' b = none ∧ H b = none ∧ ¬ Own env' σ H' b) → Fr env σ G H env' σ G' H' → Q v H'
  | .ex x env' => RunX K mg W env σ G H x env'
  | .stuck => False
end DL
set_option Elab.async false
set_option linter.all false
set_option maxRecDepth 100000
set_option autoImplicit false
set_option maxHeartbeats 8000000
namespace DL
open PySem L2 PySem.Spec PyProof.Rows
abbrev DfT := DEnv → Option (Tr × DEnv)
section
variable (K : PySem.W.Frag)
def RunFT (args : DEnv) (σ : L2.St) (G H : Hp) (r : Option (Tr × DEnv)) (Q : VK) : Prop := match r with
  | some (T, outs) => ∀ v G' H', Rel K outs σ G' H' → TreeAt K G' H' v T → (reach H' v T).Nodup → (∀ b, b ∈ reach H' v T → G' b = none ∧ H b = none ∧ ¬ Own outs σ H' b) → Fr args σ G H outs σ G' H' → Q v H'
  | none => False
def spT (np : Nat) (F : DfT) : L2.Sp := fun vs H Q E => vs.length = np ∧ ∃ args G, Rel K args (vs.map some) G H ∧ RunFT K args (vs.map some) G H (F args) Q
end
structure CalTr (P : Program) (w : World) (K : PySem.W.Frag) (mg : Str → Option Value) (base : Heap) (k : Nat) (x : Str) (np : Nat) (F : DfT) : Prop where
  ex : ∃ (fd : FuncData) (ps : List Str), ps.length = np ∧ FnOk P w K mg base (L2N.CX P w) k (He.ga K x) fd ps (spT K ps.length F) ∧ Binds K fd ps []
  mg_ : mg x = some (.ref (He.ga K x))
  kp : PySem.W.keepIn K (.ref (He.ga K x)) = true
section
variable {P : Program} {w : World} {K : PySem.W.Frag} {mg : Str → Option Value} {base : Heap}
theorem CalTr.mono {j k : Nat} {x : Str} {np : Nat} {F : DfT} (C : CalTr P w K mg base j x np F) (h : j ≤ k) : CalTr P w K mg base k x np F :=
  let ⟨fd, ps, e, f, b⟩ := C.ex
  ⟨⟨fd, ps, e, f.mono h, b⟩, C.mg_, C.kp⟩
end
theorem RunTr.shift {K : PySem.W.Frag} {mg : Str → Option Value} {W : WX} {env env1 : DEnv} {σ : L2.St} {G H G1 H1 : Hp} {r : Rs Tr} {Q : VK} (h : RunTr K mg W env σ G H r Q) (f : Fr env σ G H env1 σ G1 H1) : RunTr K mg W env1 σ G1 H1 r Q := by
  cases r with
  | stuck => exact h
  | ex x e => exact RunX.shift h f
  | ok T e2 => exact fun v G' H' R' h1 h2 h3 F => h v G' H' R' h1 h2 (fun b hb => ⟨(h3 b hb).1, f.dom b (h3 b hb).2.1, (h3 b hb).2.2⟩) (f.trans F)
end DL
namespace DL
open PySem L2 PySem.Spec PyProof.Rows
end DL
set_option Elab.async false
set_option linter.all false
set_option maxRecDepth 100000
set_option autoImplicit false
set_option maxHeartbeats 4000000
namespace DL
open PySem L2 PySem.Spec PyProof.Rows
end DL
set_option Elab.async false
set_option linter.all false
set_option maxRecDepth 100000
set_option autoImplicit false
set_option maxHeartbeats 8000000
namespace DL
open PySem L2 PySem.Spec PyProof.Rows
end DL
set_option Elab.async false
set_option linter.all false
set_option maxRecDepth 100000
set_option autoImplicit false
set_option maxHeartbeats 4000000
namespace DL
open PySem L2 PySem.Spec PyProof.Rows
def withT (s : Sl) (T : Tr) : Sl := match s with
  | .u _ => .u T
  | _ => .t T
end DL
set_option Elab.async false
set_option linter.all false
set_option maxRecDepth 100000
set_option autoImplicit false
set_option maxHeartbeats 4000000
namespace DL
open PySem L2 PySem.Spec PyProof.Rows
def slT : Bool → Sl → Option Tr
  | false, .u t => some t
  | true, .p xs => some (dL xs)
  | _, _ => none
inductive PAr where
  | e (de : DE)
  | s (i : Nat)
  | p (i : Nat) (de : DE) (pl : Bool) (chk : Tr → Bool)
/-- a part that was taken out: slot, place, what the slot held -/
structure Rc where
  i : Nat
  j : Nat
  s : Sl
  ts : List Tr
  pl : Bool
def unc1 (r : Rc) (s : Sl) (e : DEnv) : Option DEnv := (slT r.pl s).map fun t => e.set r.i (withT r.s (.l (r.ts.set r.j t)))
def uncs : List Rc → List Sl → DEnv → Option DEnv
  | [], [], e => some e
  | r :: rs, s :: ss, e => (uncs rs ss e).bind (unc1 r s)
  | _, _, _ => none
abbrev PRes := List Ar × List Rc × List Sl
section
variable (K : PySem.W.Frag) (mg : Str → Option Value) (W : WX)
def RunPs (env ss : DEnv) (σ ex : L2.St) (G H : Hp) (r : Rs PRes) (Q : List V → Hp → Prop) : Prop := match r with
  | .ok (as, rcs, ns) env' => ∀ (vs : List V) (exn : L2.St) (G' H' : Hp), Rel K (env' ++ (ss ++ ns)) (σ ++ (ex ++ exn)) G' H' → Ex G G' → env'.length = σ.length → ArRel K G' (σ ++ (ex ++ exn)) vs as →
      (∀ (e1 ss1 ns1 e2 : DEnv) (G1 H1 : Hp), e1.length = σ.length → ss1.length = ss.length → uncs rcs ns1 e1 = some e2 → Rel K (e1 ++ (ss1 ++ ns1)) (σ ++ (ex ++ exn)) G1 H1 → Fr (env' ++ (ss ++ ns)) (σ ++ (ex ++ exn)) G' H' (e1 ++ (ss1 ++ ns1)) (σ ++ (ex ++ exn)) G1 H1 →
        Rel K (e2 ++ ss1) (σ ++ ex) G1 H1 ∧ Fr (env ++ ss) (σ ++ ex) G H (e2 ++ ss1) (σ ++ ex) G1 H1 ∧ e2.length = σ.length) → Q vs H'
  | .ex x env' => ∀ cls dd (G' H' : Hp), XRel K mg x cls dd G' H' → env'.length = σ.length → Rel K (env' ++ ss) (σ ++ ex) G' H' → Fr (env ++ ss) (σ ++ ex) G H (env' ++ ss) (σ ++ ex) G' H' → W cls dd σ H'
  | .stuck => False
end
section
variable {K : PySem.W.Frag} {mg : Str → Option Value} {W : WX} {env ss : DEnv} {σ ex : L2.St} {G H : Hp} {Q : List V → Hp → Prop} {i : Nat} {de : DE} {pl : Bool} {chk : Tr → Bool} {r : List PAr}
theorem RunPs.shift {r : Rs PRes} {e1 : DEnv} {G1 H1 : Hp} (h : RunPs K mg W env ss σ ex G H r Q) (F : Fr (env ++ ss) (σ ++ ex) G H (e1 ++ ss) (σ ++ ex) G1 H1) : RunPs K mg W e1 ss σ ex G1 H1 r Q := by
  cases r with
  | stuck => exact h
  | ex x e => exact fun cls dd G' H' a b c d => h cls dd G' H' a b c (F.trans d)
  | ok p e =>
    obtain ⟨as, rcs, ns⟩ := p
    exact fun vs exn G' H' a g b c d => h vs exn G' H' a (F.gg.trans g) b c fun e1 ss1 ns1 e2 G1 H1 x1 x2 x3 x4 x5 => let ⟨y1, y2, y3⟩ := d e1 ss1 ns1 e2 G1 H1 x1 x2 x3 x4 x5; ⟨y1, F.trans y2, y3⟩
end
end DL
set_option Elab.async false
set_option linter.all false
set_option maxRecDepth 100000
set_option autoImplicit false
set_option maxHeartbeats 4000000
namespace DL
open PySem L2 PySem.Spec PyProof.Rows
end DL
set_option Elab.async false
set_option linter.all false
set_option maxRecDepth 100000
set_option autoImplicit false
set_option maxHeartbeats 4000000
namespace DL
open PySem L2 PySem.Spec PyProof.Rows
end DL
set_option Elab.async false
set_option linter.all false
set_option maxRecDepth 100000
set_option autoImplicit false
set_option maxHeartbeats 4000000
namespace DL
open PySem L2 PySem.Spec PyProof.Rows
end DL
set_option Elab.async false
set_option linter.all false
set_option maxRecDepth 100000
set_option maxHeartbeats 1000000
namespace DL
open PySem L2 PySem.Spec PyProof.Rows RZ
end DL
set_option Elab.async false
set_option linter.all false
set_option maxRecDepth 100000
set_option autoImplicit false
set_option maxHeartbeats 4000000
namespace PySem
open PySem.W PySem.Calls PyProof.Rows PySem.Spec SrtO L2 HT
end PySem
namespace DL
open PySem L2 PySem.Spec PyProof.Rows
end DL
set_option Elab.async false
set_option linter.all false
set_option maxRecDepth 100000
set_option autoImplicit false
set_option maxHeartbeats 4000000
namespace DL
open PySem L2 PySem.Spec PyProof.Rows
end DL
set_option Elab.async false
set_option linter.all false
set_option maxRecDepth 100000
set_option autoImplicit false
set_option maxHeartbeats 4000000
namespace DL
open PySem L2 PySem.Spec PyProof.Rows
end DL
set_option Elab.async false
set_option linter.all false
set_option maxRecDepth 100000
set_option autoImplicit false
set_option maxHeartbeats 4000000
namespace DL
open PySem PySem.W PySem.Calls PyProof.Rows PySem.Spec HT
section
variable {prog : Program} {w : World} {A : Around} {E : Value → Shared → Prop} {s : Shared}
theorem adjust_rev (n : Nat) : Builtin.Slice.sliceAdjust none none (-1) (n : Int) = ((n : Int) - 1, -1) := by
  unfold Builtin.Slice.sliceAdjust
  simp
theorem places_rev (n : Nat) : Builtin.Slice.slicePlaces ((n : Int) - 1) (-1) (-1) = n := by
  unfold Builtin.Slice.slicePlaces
  simp
  omega
theorem applied_rev {sl : Addr} {vs : Value} {n : Nat} {Q : Int × Int × Nat → Shared → Prop} (hs : s.heap.IsSliceOf sl .none .none vs) (ps : IsPart vs (some (-1))) (h : Q ((n : Int) - 1, -1, n) s) :
    wpAny (model prog w) A (Builtin.Slice.sliceApplied (.ref sl) (pure (n : Int))) Q E s := by
  obtain ⟨os, hos, hcs, hds⟩ := id hs
  unfold Builtin.Slice.sliceApplied Builtin.Slice.sliceFields
  refine wpAny_bind (wpAny_bind (wpAny_field hos hds (x := .none) rfl (wpAny_bind (wpAny_field hos hds (x := .none) rfl (wpAny_bind (wpAny_field hos hds (x := vs) rfl (wpAny_pure ?_)))))))
  refine wpAny_bind (slicePart_ ps ?_)
  show wpAny _ _ (if ((-1 : Int) == 0) = true then _ else _) _ _ s
  rw [if_neg (by decide)]
  refine wpAny_bind (slicePart_none (wpAny_bind (slicePart_none (wpAny_bind (wpAny_pure ?_)))))
  show wpAny _ _ (match Builtin.Slice.sliceAdjust none none (-1) (n : Int) with | (lo, hi) => pure (lo, (-1 : Int), Builtin.Slice.slicePlaces lo hi (-1))) _ _ s
  rw [adjust_rev n]
  show wpAny _ _ (pure ((n : Int) - 1, (-1 : Int), Builtin.Slice.slicePlaces ((n : Int) - 1) (-1) (-1))) _ _ s
  rw [places_rev]
  exact wpAny_pure h
theorem fm_rev {α : Type} (xs : List α) : (List.range xs.length).filterMap (fun m => xs[xs.length - 1 - m]?) = xs.reverse := by
  have go : ∀ k, k ≤ xs.length → (List.range k).filterMap (fun m => xs[xs.length - 1 - m]?) = (xs.drop (xs.length - k)).reverse := by
    intro k
    induction k with
    | zero => intro _; simp
    | succ k ih =>
      intro hk
      have e : xs[xs.length - 1 - k]? = some (xs[xs.length - (k + 1)]'(by omega)) := by
        rw [show xs.length - 1 - k = xs.length - (k + 1) by omega]
        exact List.getElem?_eq_getElem _
      have e2 : xs.drop (xs.length - (k + 1)) = xs[xs.length - (k + 1)]'(by omega) :: xs.drop (xs.length - k) := by
        have q := List.drop_eq_getElem_cons (l := xs) (i := xs.length - (k + 1)) (by omega)
        rw [show xs.length - (k + 1) + 1 = xs.length - k by omega] at q
        exact q
      rw [List.range_succ, List.filterMap_append, ih (by omega), e2, List.reverse_cons]
      congr 1
      simp [List.filterMap_cons, e]
  have := go xs.length (Nat.le_refl _)
  rw [this, Nat.sub_self, List.drop_zero]
theorem filterMap_congr' {α β : Type} {f g : α → Option β} : ∀ {l : List α}, (∀ a, a ∈ l → f a = g a) → l.filterMap f = l.filterMap g
  | [], _ => rfl
  | a :: l, h => by
    rw [List.filterMap_cons, List.filterMap_cons, h a (List.mem_cons_self ..), filterMap_congr' fun b hb => h b (List.mem_cons_of_mem _ hb)]
theorem pick_rev (xs : Array Value) : ((List.range xs.size).filterMap fun (m : Nat) => xs[(((xs.size : Int) - 1) + (m : Int) * (-1)).toNat]?).toArray = xs.toList.reverse.toArray := by
  rw [← fm_rev xs.toList, Array.length_toList]
  congr 1
  refine filterMap_congr' fun m hm => ?_
  have hm := List.mem_range.1 hm
  rw [show (((xs.size : Int) - 1) + (m : Int) * (-1)).toNat = xs.size - 1 - m by omega, Array.getElem?_toList]
theorem getItem_tuple_rev {t sl : Addr} {items : Array Value} {vs : Value} {Q : Value → Shared → Prop} (ht : IsTup s.heap t items) (hs : s.heap.IsSliceOf sl .none .none vs) (ps : IsPart vs (some (-1)))
    (h : Q (.ref s.heap.objs.size) { s with heap := s.heap.push { cls := .type "tuple", data := .seq items.toList.reverse.toArray } }) (hsz : items.size ≤ sizeLine) : wpAny (model prog w) A (getItem (.ref t) (.ref sl)) Q E s := by
  have hok : sizeOk (.seq items.toList.reverse.toArray) := by
    show items.toList.reverse.toArray.size ≤ sizeLine
    rw [List.size_toArray, List.length_reverse, Array.length_toList]
    exact hsz
  obtain ⟨os, hos, hcs, hds⟩ := id hs
  have hTs : s.TypeIs (.ref sl) "slice" := ⟨os, hos, hcs⟩
  unfold getItem
  try with_reducible refine wpAny_holding ?_
  first | refine wpAny_bind (wpAny_pure ?_) | skip
  refine wpAny_bind (wpAny_sequenceKey ht.typeIs (by decide) (wpAny_bind (wpAny_callSpecial?_slot (name := Str.ofString "__getitem__") ht.typeIs PyProof.Rows.slot_tuple_getitem (wpAny_call_entry PyProof.Rows.slot_tuple_getitem ht.typeIs entry_tuple_getitem ?_ (args_tuple_getitem _ _)))))
  show wpAny _ _ (Builtin.Tuple.tupleItemsOf (.ref t) >>= _) _ _ s
  refine wpAny_bind (tupleItemsOf_ ht (wpAny_bind (wpAny_typeOf hTs ?_)))
  rw [if_pos (by decide)]
  refine wpAny_bind (applied_rev hs ps ?_)
  show wpAny _ _ (if ((((items.size : Int) - 1) == 0 && (-1 : Int) == 1 && items.size == items.size) = true) then _ else _) _ _ s
  rw [if_neg (by simp), pick_rev]
  first
    | exact wpAny_bind (m := Builtin.Tuple.tupleExact _) (wpAny_newObj_type (wpAny_pure ⟨_, rfl, wpAny_pure h⟩) hok)
    | exact wpAny_bind (m := Builtin.Tuple.tupleExact _) (wpAny_newObj_type (wpAny_bind (wpAny_pure (wpAny_pure ⟨_, rfl, wpAny_pure h⟩))) hok)
    | exact wpAny_bind (wpAny_bind (m := Builtin.Tuple.tupleExact _) (wpAny_newObj_type (wpAny_pure (wpAny_pure ⟨_, rfl, wpAny_pure h⟩)) hok))
    | exact wpAny_bind (wpAny_bind (m := Builtin.Tuple.tupleExact _) (wpAny_newObj_type (wpAny_pure ⟨_, rfl, wpAny_pure h⟩) hok))
end
end DL
namespace DL
open PySem L2 PySem.Spec PyProof.Rows
def tRevT (K : PySem.W.Frag) (te : TE) : TE := fun σ H Q => te σ H fun x H1 => ∃ a xs, x = .ref a ∧ SqT K H1 a xs ∧ ∀ (p : Addr) (o : Obj), H1 p = none → o.dict = none → Q (.ref p) (upd H1 p (.frz o (.tup xs.reverse)))
theorem pe_revT {X : Cx} {e : Expr} {te : TE} {k : Nat} {p1 p2 p3 pos : Pos} (he : PE X e te) : PE X (.Subscript e (.Slice none none (some (.UnaryOp .USub (.Constant (.int 1) k p1) p2)) p3) pos) (tRevT X.K te) := by
  refine ⟨fun pins s σ H Q I h => Subscript_ (thn (he.run pins s σ H _ I h) fun v s1 ⟨x, H1, I1, r1, a, xs, ex, hx, q⟩ => ?_)⟩
  subst ex
  cases r1
  have st : PO X (some (.UnaryOp .USub (.Constant (.int 1) k p1) p2)) (tPart (tUn (rU fun i => .int (-i)) (tC (.int 1)))) := po_some (pe_un un_neg pe_int)
  refine wpAny_Slice (thn (po_none.run pins s1 σ H1 (fun o H2 => o = none ∧ H2 = H1) I1 ⟨rfl, rfl⟩) fun vl s2 ⟨l, H2, I2, pl, el, e2⟩ => ?_)
  subst el e2
  refine thn (po_none.run pins s2 σ H2 (fun o H3 => o = none ∧ H3 = H2) I2 ⟨rfl, rfl⟩) fun vu s3 ⟨u, H3, I3, pu, eu, e3⟩ => ?_
  subst eu e3
  refine thn (st.run pins s3 σ H3 (fun o H4 => o = some (-1) ∧ H4 = H3) I3 ⟨1, rfl, -1, rfl, rfl, rfl⟩) fun vs s4 ⟨o, H4, I4, ps, eo, e4⟩ => ?_
  subst eo e4
  have I5 : L2.Inv X pins σ H4 { s4 with heap := s4.heap.push { cls := .type "slice", data := .fields #[vl, vu, vs] } } := I4.kept (t' := s4.toks) fun b ob q => Heap.get?_push_of_some _ q
  obtain ⟨its, r, ht, hz⟩ := I5.tuple hx
  have hl := r.length
  cases pl
  cases pu
  show wpAny (model X.prog X.w) X.A (subscriptTail e (.Slice none none (some (.UnaryOp .USub (.Constant (.int 1) k p1) p2)) p3) (.ref a) (.ref s4.heap.objs.size)) (EP X pins σ Q) X.xe { s4 with heap := s4.heap.push { cls := .type "slice", data := .fields #[.none, .none, vs] } }
  refine tail_any (ops := [.ref a, .ref s4.heap.objs.size]) ht.typeIs PyProof.Rows.slot_tuple_getitem.lookup ?_ (by with_unfolding_all rfl)
  refine getItem_tuple_rev ht (Heap.IsSliceOf.new _ .none .none vs) ps ?_ (by rw [List.size_toArray, ← hl]; exact hz)
  refine ⟨.ref _, _, I5.laid (t' := s4.toks) (o := .frz { cls := .type "tuple", data := .seq its.toArray.toList.reverse.toArray } (.tup xs.reverse)) (fun b ob q => Heap.get?_push_of_some _ q) (Nat.le_refl _) ?_, rfl, q _ _ (I5.hok.fresh (Nat.le_refl _)) rfl⟩
  exact ⟨Heap.get?_push_size _ rfl, by rw [List.length_reverse]; exact hz, _, r.reverse, IsTup.new _ _⟩
def eRevT (de : DE) : DE := fun env => (de env).bind fun d e1 => match d with
  | .tuple ds => .ok (.tuple ds.reverse) e1
  | _ => .stuck
theorem DvAll.reverse {K : PySem.W.Frag} {G : Hp} : ∀ {vs : List V} {ds : List D}, DvAll K G vs ds → DvAll K G vs.reverse ds.reverse
  | _, _, .nil => .nil
  | _, _, .cons a b => by
    rw [List.reverse_cons, List.reverse_cons]
    exact (DvAll.reverse b).append (.cons a .nil)
theorem ce_revT {X : Cx} {W : WX} {e : Expr} {de : DE} {k : Nat} {p1 p2 p3 pos : Pos} (he : CE X W e de) : CE X W (.Subscript e (.Slice none none (some (.UnaryOp .USub (.Constant (.int 1) k p1) p2)) p3) pos) (eRevT de) := pe_imp (pe_revT he) fun σ H Q h => by
  obtain ⟨env, G, R, h⟩ := h
  refine E_thenE R h fun d e1 v G1 H1 _ R1 dv F1 h1 => ?_
  cases dv with
  | @tup a xs ds hq dvs =>
    refine ⟨a, xs, rfl, (R1.ex.n hq).t, fun p o hp ho => ?_⟩
    have g : Grow G1 H1 (upd G1 p (.frz o (.tup xs.reverse))) (upd H1 p (.frz o (.tup xs.reverse))) := Grow.one R1.ex hp
    exact h1 _ _ _ (R1.grow g) (.tup (.inl ⟨o, upd_same, ho⟩) ((DvAll.reverse dvs).up g.gg)) (g.fr R1)
  | non => exact h1.elim
  | bl _ => exact h1.elim
  | int _ => exact h1.elim
  | str _ => exact h1.elim
  | lst _ _ => exact h1.elim
  | dct _ _ => exact h1.elim
end DL
set_option Elab.async false
set_option linter.all false
set_option maxRecDepth 100000
set_option maxHeartbeats 4000000
namespace LW
open PySem L2 DL
noncomputable section
def b_is_whole : DS :=
    (sRet ((eAnd ((eIsi "int" (eVar 0))) ((eNot ((eIsi "bool" (eVar 0))))))))
def f_is_whole : Df := bodyF 1 b_is_whole
def b_broken : DS :=
    (sSeq (sAsg ((eCB fLen (aCons (eVar 0) aNil))) (gN 2))
    (sSeq (sAsgM 3 lDict0)
    (sSeq (sFor (iRng1 (aCons (eVar 2) aNil)) (gN 4) (sSeq (sAsg ((eIxN 0 (eVar 4))) (gN 5))
    (sSeq (sIf ((tOrD ((tTst (eBin dLt (eVar 5) (eC (.int 0))))) ((tOrD ((tTst (eBin dGe (eVar 5) (eVar 2)))) ((tTst (eInM (eVar 5) 3))))))) (sRet (eVar 4)) sNx)
    (sSeq (sPutM 3 (eVar 5) (eC (.bool true)))
    (sSeq (sAsg ((eIxN 1 (eVar 4))) (gN 6))
    (sIf ((tAndD ((tTst (eBin dIsnt (eVar 6) (eC .none)))) ((tOrD ((tTst (eBin dLt (eVar 6) (eC (.int 0))))) ((tOrD ((tTst (eBin dGe (eVar 6) (eVar 2)))) ((tOrD ((tTst (eBin dEq (eVar 6) (eVar 4)))) ((tTst (eBin dNe ((eIxN 1 (eVar 6))) (eVar 4)))))))))))) (sRet (eVar 4)) sNx))))))
    (sRet (eC .none)))))
def f_broken : Df := bodyF 7 b_broken
def b_is_skin : DS :=
    (sSeq (sIf ((tOrD ((tNotD ((tTst (eIsi "tuple" (eVar 0)))))) ((tTst (eBin dNe ((eCB fLen (aCons (eVar 0) aNil))) (eC (.int 2))))))) (sRet (eC (.bool false))) sNx)
    (sSeq (sAsg (eVar 0) (gT [gN 1, gN 2]))
    (sSeq (sIf ((tOrD ((tNotD ((tTst (eIsi "tuple" (eVar 1)))))) ((tNotD ((tTst (eIsi "tuple" (eVar 2)))))))) (sRet (eC (.bool false))) sNx)
    (sSeq (sIf ((tOrD ((tTst (eBin dLt ((eCB fLen (aCons (eVar 1) aNil))) (eC (.int 1))))) ((tOrD ((tTst (eBin dGt ((eCB fLen (aCons (eVar 1) aNil))) (eC (.int 400))))) ((tTst (eBin dNe ((eCB fLen (aCons (eVar 2) aNil))) ((eCB fLen (aCons (eVar 1) aNil)))))))))) (sRet (eC (.bool false))) sNx)
    (sSeq (sIf ((tNotD ((tTst (eCB fAll (aCons ((eLst ((lComp (iSeqS (eVar 1)) (gN 3) tYesD ((eCallN 1 f_is_whole (rCons (eVar 3) rNil))) [3])))) aNil)))))) (sRet (eC (.bool false))) sNx)
    (sSeq (sIf ((tNotD ((tTst (eCB fAll (aCons ((eLst ((lComp (iSeqS (eVar 2)) (gN 4) tYesD ((eOr ((eBin dIs (eVar 4) (eC .none))) ((eCallN 1 f_is_whole (rCons (eVar 4) rNil))))) [4])))) aNil)))))) (sRet (eC (.bool false))) sNx)
    (sRet ((eBin dIs ((eCallN 2 f_broken (rCons (eVar 1) (rCons (eVar 2) rNil)))) (eC .none))))))))))
def f_is_skin : Df := bodyF 5 b_is_skin
def b__law_take : DS :=
    (sSeq (sIf ((tTst (eBin dGt ((eIxN 0 (eC (.int 0)))) (eC (.int 0))))) (sSeq (sAsg ((eBin dMod ((eIxN 0 (eC (.int 0)))) (eVar 1))) (gN 2))
    (sSeq (sSetO 0 (eC (.int 0)) ((eBin dFdiv ((eIxN 0 (eC (.int 0)))) (eVar 1))))
    (sRet (eVar 2)))) sNx)
    (sSeq (sSetO 0 (eC (.int 1)) ((eBin dMod ((eBin dMulT ((eIxN 0 (eC (.int 1)))) (eC (.int 48271)))) (eC (.int 2147483647)))))
    (sRet ((eBin dMod ((eBin dFdiv ((eBin dMod ((eBin dMulT ((eIxN 0 (eC (.int 1)))) ((eIxN 0 (eC (.int 1)))))) (eC (.int 2147483629)))) (eC (.int 64)))) (eVar 1))))))
def f__law_take : Df := bodyF 3 b__law_take
def b__law_odd : DS :=
    (sSeq (sAsg ((eLst ((lLst (aCons (eC (.int (-1))) (aCons (eC (.int 0)) (aCons (eC (.int 1)) (aCons (eC (.int 2)) (aCons (eC (.int 400)) (aCons (eC (.int 401)) (aCons (eC (.bool true)) (aCons (eC (.bool false)) (aCons (eC .none) (aCons (eC (.str "")) (aCons (eC (.str "0")) (aCons ((eTup (aNil))) (aCons ((eTup ((aCons (eC (.int 0)) aNil)))) (aCons ((eTup ((aCons (eC .none) aNil)))) (aCons ((eTup ((aCons ((eTup ((aCons (eC (.int 0)) aNil)))) (aCons ((eTup ((aCons (eC .none) aNil)))) aNil))))) (aCons ((eTup ((aCons ((eTup ((aCons (eC (.int 0)) aNil)))) (aCons ((eTup ((aCons (eC (.int 0)) aNil)))) aNil))))) (aCons ((eLst ((lLst (aCons (eC (.int 0)) aNil))))) aNil))))))))))))))))))))) (gN 1))
    (sSeq (sAsg ((eLst ((eBinL dCat (eVar 1) ((eLst ((lLst (aCons ((eTup ((aCons ((eTup (aNil))) (aCons ((eTup (aNil))) aNil))))) (aCons ((eTup ((aCons ((eLst ((lLst (aCons (eC (.int 0)) aNil))))) (aCons ((eTup ((aCons (eC .none) aNil)))) aNil))))) (aCons ((eTup ((aCons ((eTup ((aCons (eC (.int 0)) aNil)))) (aCons ((eLst ((lLst (aCons (eC .none) aNil))))) aNil))))) (aCons ((eTup ((aCons ((eTup ((aCons (eC (.int 0)) (aCons (eC (.int 1)) aNil))))) (aCons ((eTup ((aCons (eC (.int 1)) (aCons (eC (.int 0)) aNil))))) aNil))))) (aCons ((eTup ((aCons ((eTup ((aCons (eC (.int 1)) (aCons (eC (.int 0)) aNil))))) (aCons ((eTup ((aCons (eC (.int 1)) (aCons (eC (.int 0)) aNil))))) aNil))))) (aCons ((eTup ((aCons ((eTup ((aCons (eC (.int 0)) (aCons (eC (.int 1)) aNil))))) (aCons ((eTup ((aCons (eC (.int 1)) aNil)))) aNil))))) aNil)))))))))))))) (gN 1))
    (sRet ((eIxN 1 ((eCallN 2 f__law_take (rLendC 0 (rCons ((eCB fLen (aCons (eVar 1) aNil))) rNil)))))))))
def f__law_odd : Df := bodyF 2 b__law_odd
def b__law_bag : DS :=
    (sSeq (sAsg (eC (.int 0)) (gN 2))
    (sSeq (sIf ((tTst (eBin dLt (eVar 1) ((eCB fLen (aCons (eVar 0) aNil)))))) (sAsg ((eBin dMod ((eIxN 0 (eVar 1))) ((eBin dMulT ((eBin dPow (eC (.int 10)) (eC (.int 60)))) ((eBin dPow (eC (.int 10)) (eC (.int 60)))))))) (gN 2)) sNx)
    (sSeq (sIf ((tTst (eBin dLt (eVar 2) ((eBin dPow (eC (.int 10)) (eC (.int 18))))))) (sRetL (lLst (aCons (eC (.int 0)) (aCons ((eBin dAdd (eC (.int 1)) ((eBin dMod ((eBin dAdd ((eBin dMulT (eVar 2) (eC (.int 7919)))) ((eBin dMulT (eC (.int 104729)) (eVar 1))))) (eC (.int 2147483646)))))) aNil)))) sNx)
    (sRetL (lLst (aCons (eVar 2) (aCons ((eBin dAdd (eC (.int 1)) ((eBin dMod ((eBin dAdd (eVar 2) (eVar 1))) (eC (.int 2147483646)))))) aNil)))))))
def f__law_bag : Df := bodyF 3 b__law_bag
def b__law_skin : DS :=
    (sSeq (sAsg ((eBin dAdd (eC (.int 1)) ((eCallN 2 f__law_take (rLendC 0 (rCons (eVar 1) rNil)))))) (gN 2))
    (sSeq (sAsgL 3 (lLst aNil))
    (sSeq (sFor (iRng1 (aCons (eVar 2) aNil)) (gN 4) (sDrop ((eMO 3 mInsert (aCons ((eCallN 2 f__law_take (rLendC 0 (rCons ((eBin dAdd (eVar 4) (eC (.int 1)))) rNil)))) (aCons (eVar 4) aNil))))))
    (sSeq (sAsgL 5 (lRep (lLst (aCons (eC (.int 0)) aNil)) (eVar 2)))
    (sSeq (sAsg ((eBin dIx ((eLst ((lLst (aCons ((eBin dAdd (eC (.int 1)) ((eCallN 2 f__law_take (rLendC 0 (rCons (eC (.int 6)) rNil)))))) (aCons (eC (.int 3)) (aCons (eVar 2) aNil))))))) ((eCallN 2 f__law_take (rLendC 0 (rCons (eC (.int 3)) rNil)))))) (gN 6))
    (sSeq (sAsg ((eLst ((lListA 3)))) (gN 7))
    (sSeq (whileD ((tTst (eBin dNe (eVar 7) ((eLst ((lLst aNil))))))) (sSeq (sAsg ((eCB fMin (aCons ((eCB fLen (aCons (eVar 7) aNil))) (aCons ((eBin dIx ((eLst ((lLst (aCons (eVar 6) (aCons ((eBin dAdd (eC (.int 1)) ((eCallN 2 f__law_take (rLendC 0 (rCons (eVar 6) rNil)))))) aNil)))))) ((eCallN 2 f__law_take (rLendC 0 (rCons (eC (.int 2)) rNil)))))) aNil)))) (gN 8))
    (sSeq (sAsg ((eSl (eVar 7) .no (.of (eVar 8)))) (gN 9))
    (sSeq (sAsg ((eSl (eVar 7) (.of (eVar 8)) .no)) (gN 7))
    (sFor (iRng1 (aCons (eVar 8) aNil)) (gN 10) (sSetO 5 ((eIxN 9 ((eBin dSub (eVar 10) (eC (.int 1)))))) ((eIxN 9 (eVar 10)))))))) FUEL)
    (sSeq (sAsgL 11 (lRep (lLst (aCons (eC .none) aNil)) (eVar 2)))
    (sSeq (sAsg ((eBin dIx ((eLst ((lLst (aCons (eC (.int 2)) (aCons (eC (.int 5)) (aCons (eC (.int 99)) aNil))))))) ((eCallN 2 f__law_take (rLendC 0 (rCons (eC (.int 3)) rNil)))))) (gN 12))
    (sSeq (sAsgL 13 (lRange1 (eVar 2)))
    (sSeq (whileD ((tTst (eBin dGt ((eLenO 13)) (eC (.int 1))))) (sSeq (sAsg ((eMO 13 mPopAt (aCons ((eCallN 2 f__law_take (rLendC 0 (rCons ((eLenO 13)) rNil)))) aNil))) (gN 14))
    (sSeq (sAsg ((eMO 13 mPopAt (aCons ((eCallN 2 f__law_take (rLendC 0 (rCons ((eLenO 13)) rNil)))) aNil))) (gN 15))
    (sIf ((tTst (eBin dGt ((eCallN 2 f__law_take (rLendC 0 (rCons (eVar 12) rNil)))) (eC (.int 0))))) (sSeq (sSetO 11 (eVar 14) (eVar 15))
    (sSetO 11 (eVar 15) (eVar 14))) sNx))) FUEL)
    (sRet ((eTup ((aCons ((eTupO 5)) (aCons ((eTupO 11)) aNil)))))))))))))))))
def f__law_skin : Df := bodyF 16 b__law_skin
def b__law_broken : DS :=
    (sSeq (sAsg ((eCB fLen (aCons (eVar 0) aNil))) (gN 2))
    (sSeq (sFor (iRng1 (aCons (eVar 2) aNil)) (gN 3) (sSeq (sIf ((tOrD ((tNotD ((tTst (eChain dLe dLt (eC (.int 0)) ((eIxN 0 (eVar 3))) (eVar 2)))))) ((tTst (eBin dInS ((eIxN 0 (eVar 3))) ((eSl (eVar 0) .no (.of (eVar 3))))))))) (sRet (eVar 3)) sNx)
    (sSeq (sAsg ((eIxN 1 (eVar 3))) (gN 4))
    (sIf ((tAndD ((tTst (eBin dIsnt (eVar 4) (eC .none)))) ((tOrD ((tNotD ((tTst (eChain dLe dLt (eC (.int 0)) (eVar 4) (eVar 2)))))) ((tOrD ((tTst (eBin dEq (eVar 4) (eVar 3)))) ((tTst (eBin dNe ((eIxN 1 (eVar 4))) (eVar 3)))))))))) (sRet (eVar 3)) sNx))))
    (sRet (eC .none))))
def f__law_broken : Df := bodyF 5 b__law_broken
def b__law_is_skin : DS :=
    (sSeq (sIf ((tOrD ((tNotD ((tTst (eIsi "tuple" (eVar 0)))))) ((tOrD ((tTst (eBin dNe ((eCB fLen (aCons (eVar 0) aNil))) (eC (.int 2))))) ((tNotD ((tTst (eCB fAll (aCons ((eLst ((lComp (iSeqS (eVar 0)) (gN 3) tYesD ((eIsi "tuple" (eVar 3))) [3])))) aNil)))))))))) (sRet (eC (.bool false))) sNx)
    (sSeq (sAsg ((eCB fLen (aCons ((eIxN 0 (eC (.int 0)))) aNil))) (gN 1))
    (sSeq (sIf ((tOrD ((tTst (eBin dLt (eVar 1) (eC (.int 1))))) ((tOrD ((tTst (eBin dGt (eVar 1) (eC (.int 400))))) ((tTst (eBin dNe ((eCB fLen (aCons ((eIxN 0 (eC (.int 1)))) aNil))) (eVar 1)))))))) (sRet (eC (.bool false))) sNx)
    (sSeq (sFor (iSeqS ((eBin dAdd ((eIxN 0 (eC (.int 0)))) ((eCB fTup (aCons ((eLst ((lComp (iSeqS ((eIxN 0 (eC (.int 1))))) (gN 4) (tTst (eBin dIsnt (eVar 4) (eC .none))) (eVar 4) [4])))) aNil)))))) (gN 2) (sIf ((tOrD ((tNotD ((tTst (eIsi "int" (eVar 2)))))) ((tTst (eIsi "bool" (eVar 2)))))) (sRet (eC (.bool false))) sNx))
    (sRet ((eBin dIs ((eCallN 2 f__law_broken (rCons ((eIxN 0 (eC (.int 0)))) (rCons ((eIxN 0 (eC (.int 1)))) rNil)))) (eC .none))))))))
def f__law_is_skin : Df := bodyF 5 b__law_is_skin
def b__law_truths : DS :=
    (sRet ((eCB fTup (aCons ((eLst ((lComp (iSeqS (eVar 0)) (gN 1) tYesD ((eIf ((tTst (eBin dInS (eVar 1) ((eTup ((aCons (eC (.int 0)) (aCons (eC (.int 1)) aNil)))))))) ((eBin dEq (eVar 1) (eC (.int 1)))) (eVar 1))) [1])))) aNil))))
def f__law_truths : Df := bodyF 2 b__law_truths
end
end LW
set_option Elab.async false
set_option linter.all false
set_option maxRecDepth 100000
set_option maxHeartbeats 4000000
namespace K01
open PySem L2 DL LW
noncomputable section
def b__law_replaced (r : Df) : DS :=
    (sSeq (sIf ((tOrD ((tTst (eBin dEq (eVar 2) (eC (.int 0))))) ((tOrD ((tNotD ((tTst (eIsi "tuple" (eVar 1)))))) ((tOrD ((tTst (eBin dEq (eVar 1) ((eTup (aNil)))))) ((tTst (eBin dEq ((eCallN 2 f__law_take (rLendC 0 (rCons (eC (.int 6)) rNil)))) (eC (.int 0))))))))))) (sRet ((eCallN 1 f__law_odd (rLendC 0 rNil)))) sNx)
    (sSeq (sAsg ((eCallN 2 f__law_take (rLendC 0 (rCons ((eCB fLen (aCons (eVar 1) aNil))) rNil)))) (gN 3))
    (sSeq (sAsg ((eCallN 2 f__law_take (rLendC 0 (rCons (eC (.int 9)) rNil)))) (gN 4))
    (sSeq (sIf ((tTst (eBin dEq (eVar 4) (eC (.int 0))))) (sRet ((eBin dAdd ((eSl (eVar 1) .no (.of (eVar 3)))) ((eSl (eVar 1) (.of ((eBin dAdd (eVar 3) (eC (.int 1))))) .no))))) sNx)
    (sSeq (sIf ((tTst (eBin dEq (eVar 4) (eC (.int 1))))) (sRet ((eBin dAdd ((eBin dAdd ((eSl (eVar 1) .no (.of (eVar 3)))) ((eTup ((aCons ((eIxN 1 (eVar 3))) aNil)))))) ((eSl (eVar 1) (.of (eVar 3)) .no))))) sNx)
    (sSeq (sIf ((tTst (eBin dEq (eVar 4) (eC (.int 2))))) (sRet ((eLst ((eCL fList (aCons (eVar 1) aNil)))))) sNx)
    (sSeq (sIf ((tTst (eBin dEq (eVar 4) (eC (.int 3))))) (sRet ((eBin dAdd ((eBin dAdd ((eSl (eVar 1) .no (.of (eVar 3)))) ((eRevT ((eSl (eVar 1) (.of (eVar 3)) (.of ((eBin dAdd (eVar 3) (eC (.int 2))))))))))) ((eSl (eVar 1) (.of ((eBin dAdd (eVar 3) (eC (.int 2))))) .no))))) sNx)
    (sRet ((eBin dAdd ((eBin dAdd ((eSl (eVar 1) .no (.of (eVar 3)))) ((eTup ((aCons ((eCallN 3 r (rLendC 0 (rCons ((eIxN 1 (eVar 3))) (rCons ((eBin dSub (eVar 2) (eC (.int 1)))) rNil))))) aNil)))))) ((eSl (eVar 1) (.of ((eBin dAdd (eVar 3) (eC (.int 1))))) .no))))))))))))
def f__law_replaced : Nat → Df
  | 0 => bodyF 5 (fun _ => .stuck)
  | j + 1 => bodyF 5 (b__law_replaced (f__law_replaced j))
def b_law : DS :=
    (sSeq (sFor (iRng1 (aCons ((eBin dAdd (eC (.int 1)) ((eCB fMin (aCons ((eCB fLen (aCons (eVar 0) aNil))) (aCons (eC (.int 40)) aNil)))))) aNil)) (gN 1) (sSeq (sAsgL 2 (lCallN 2 f__law_bag (rCons (eVar 0) (rCons (eVar 1) rNil))))
    (sSeq (sAsg ((eCallN 2 f__law_skin (rLendC 2 (rCons ((eBin dIx ((eLst ((lLst (aCons (eC (.int 20)) (aCons (eC (.int 400)) aNil)))))) ((eCB fInt (aCons ((eBin dEq ((eCallN 2 f__law_take (rLendC 2 (rCons (eC (.int 8)) rNil)))) (eC (.int 0)))) aNil))))) rNil)))) (gN 3))
    (sSeq (sIf ((tOrD ((tTst (eBin dIsnt ((eCallN 1 f_is_skin (rCons (eVar 3) rNil))) (eC (.bool true))))) ((tTst (eBin dIsnt ((eCallN 1 f_is_skin (rCons ((eTup ((aCons ((eCallN 1 f__law_truths (rCons ((eIxN 3 (eC (.int 0)))) rNil))) (aCons ((eIxN 3 (eC (.int 1)))) aNil))))) rNil))) (eC (.bool false))))))) (sRet (eC (.bool false))) sNx)
    (sSeq (sIf ((tTst (eBin dNe ((eCallN 1 f_is_skin (rCons ((eTup ((aCons ((eIxN 3 (eC (.int 0)))) (aCons ((eCallN 1 f__law_truths (rCons ((eIxN 3 (eC (.int 1)))) rNil))) aNil))))) rNil))) ((eAnd ((eBin dNotInS (eC (.int 0)) ((eIxN 3 (eC (.int 1)))))) ((eBin dNotInS (eC (.int 1)) ((eIxN 3 (eC (.int 1))))))))))) (sRet (eC (.bool false))) sNx)
    (sSeq (sAsg ((eCallN 3 (f__law_replaced 64) (rLendC 2 (rCons (eVar 3) (rCons (eC (.int 2)) rNil))))) (gN 4))
    (sSeq (sIf ((tTst (eBin dEq ((eCallN 2 f__law_take (rLendC 2 (rCons (eC (.int 3)) rNil)))) (eC (.int 0))))) (sAsg ((eCallN 3 (f__law_replaced 64) (rLendC 2 (rCons (eVar 4) (rCons (eC (.int 2)) rNil))))) (gN 4)) sNx)
    (sFor (iSeqS ((eTup ((aCons (eVar 4) (aCons ((eCallN 1 f__law_odd (rLendC 2 rNil))) aNil)))))) (gN 5) (sSeq (sAsg ((eCallN 1 f_is_skin (rCons (eVar 5) rNil))) (gN 6))
    (sIf ((tOrD ((tNotD ((tTst (eIsi "bool" (eVar 6)))))) ((tTst (eBin dNe (eVar 6) ((eCallN 1 f__law_is_skin (rCons (eVar 5) rNil)))))))) (sRet (eC (.bool false))) sNx))))))))))
    (sSeq (sAsgL 2 (lCallN 2 f__law_bag (rCons (eVar 0) (rCons (eC (.int 0)) rNil))))
    (sSeq (sAsg ((eBin dAdd (eC (.int 1)) ((eCallN 2 f__law_take (rLendC 2 (rCons (eC (.int 399)) rNil)))))) (gN 7))
    (sSeq (sFor (iSeqS ((eTup ((aCons (eC (.int 400)) (aCons (eC (.int 401)) aNil)))))) (gN 8) (sSeq (sAsg ((eTup ((aCons ((eCB fTup (aCons ((eLst ((lComp (iRng1 (aCons (eVar 8) aNil)) (gN 10) tYesD ((eBin dMod ((eBin dAdd (eVar 10) (eVar 7))) (eVar 8))) [10])))) aNil))) (aCons ((eBin dMulT ((eTup ((aCons (eC .none) aNil)))) (eVar 8))) aNil))))) (gN 9))
    (sIf ((tTst (eBin dNe ((eCallN 1 f_is_skin (rCons (eVar 9) rNil))) ((eBin dEq (eVar 8) (eC (.int 400))))))) (sRet (eC (.bool false))) sNx)))
    (sRet (eC (.bool true)))))))
def f_law : Df := bodyF 11 b_law
end
end K01
set_option Elab.async false
set_option linter.all false
set_option maxRecDepth 100000
set_option maxHeartbeats 4000000
namespace K01
open PySem L2 DL LW
structure Txt (K : PySem.W.Frag) (mg : Str → Option Value) : Prop where
  d_is_whole : ∃ fd, FnT K "is_whole" s_is_whole fd
  g_is_whole : mg "is_whole" = some (.ref (He.ga K "is_whole"))
  d_broken : ∃ fd, FnT K "broken" s_broken fd
  g_broken : mg "broken" = some (.ref (He.ga K "broken"))
  d_is_skin : ∃ fd, FnT K "is_skin" s_is_skin fd
  g_is_skin : mg "is_skin" = some (.ref (He.ga K "is_skin"))
  d__law_take : ∃ fd, FnT K "_law_take" s__law_take fd
  g__law_take : mg "_law_take" = some (.ref (He.ga K "_law_take"))
  d__law_odd : ∃ fd, FnT K "_law_odd" s__law_odd fd
  g__law_odd : mg "_law_odd" = some (.ref (He.ga K "_law_odd"))
  d__law_replaced : ∃ fd, FnT K "_law_replaced" s__law_replaced fd
  g__law_replaced : mg "_law_replaced" = some (.ref (He.ga K "_law_replaced"))
  d__law_bag : ∃ fd, FnT K "_law_bag" s__law_bag fd
  g__law_bag : mg "_law_bag" = some (.ref (He.ga K "_law_bag"))
  d__law_skin : ∃ fd, FnT K "_law_skin" s__law_skin fd
  g__law_skin : mg "_law_skin" = some (.ref (He.ga K "_law_skin"))
  d__law_broken : ∃ fd, FnT K "_law_broken" s__law_broken fd
  g__law_broken : mg "_law_broken" = some (.ref (He.ga K "_law_broken"))
  d__law_is_skin : ∃ fd, FnT K "_law_is_skin" s__law_is_skin fd
  g__law_is_skin : mg "_law_is_skin" = some (.ref (He.ga K "_law_is_skin"))
  d__law_truths : ∃ fd, FnT K "_law_truths" s__law_truths fd
  g__law_truths : mg "_law_truths" = some (.ref (He.ga K "_law_truths"))
  d_law : ∃ fd, FnT K "law" s_law fd
  g_law : mg "law" = some (.ref (He.ga K "law"))
  n_all : mg "all" = none
  n_bool : mg "bool" = none
  n_int : mg "int" = none
  n_isinstance : mg "isinstance" = none
  n_len : mg "len" = none
  n_list : mg "list" = none
  n_min : mg "min" = none
  n_range : mg "range" = none
  n_tuple : mg "tuple" = none
  c_MOST : ∃ t, mg "MOST" = some (.int 400 t)
section
variable {P : Program} {w : World} {K : PySem.W.Frag} {mg : Str → Option Value} {base : Heap}
section
variable {N : List Str} {x : Str} {sc : Scope} {f : Addr} {cdv : Value} {A : Around} {outer : List Env} {s : Shared} {H : Hp} {E : XK}
theorem tkx : L2N.Takes (cxOf (L2N.CX P w) P w K mg base N x sc f cdv A outer s H E) fun cls d x H => E cls d H := L2N.takes_of (X := cxOf (L2N.CX P w) P w K mg base N x sc f cdv A outer s H E) (E := E) rfl rfl rfl rfl
theorem tk : ∀ σ, PassesAt (L2N.CX P w) (cxOf (L2N.CX P w) P w K mg base N x sc f cdv A outer s H E) σ (WE (fun cls d x H => E cls d H) σ) := fun σ => L2N.passAt tkx σ
theorem hp : PassesOwn (model P w) (cxOf (L2N.CX P w) P w K mg base N x sc f cdv A outer s H E).A (cxOf (L2N.CX P w) P w K mg base N x sc f cdv A outer s H E).env (cxOf (L2N.CX P w) P w K mg base N x sc f cdv A outer s H E).xe := passes_of (X := cxOf (L2N.CX P w) P w K mg base N x sc f cdv A outer s H E) rfl
end
theorem sc_is_whole : FnScope N_is_whole P_is_whole (defScope s_is_whole) := ⟨rfl, rfl, rfl, by decide +kernel, rfl, by decide +kernel, by decide +kernel⟩
theorem ok_is_whole (T : Txt K mg)  : Cal P w K mg base 1 "is_whole" 1 f_is_whole := by
  refine cal_of (k := 0) T.d_is_whole T.g_is_whole sc_is_whole (by decide) (fun _ _ _ _ _ _ us hl => match us, hl with | [_], _ => rfl) fun cdv A outer s H E hr => ?_
  have nd := sc_is_whole.nd
  exact (css_one (cs_ret (ce_and (ce_isi "int" (by decide +kernel) T.n_int T.n_isinstance (ce_var 0)) (ce_one (ce_not (ce_isi "bool" (by decide +kernel) T.n_bool T.n_isinstance (ce_var 0)))))))
theorem sc_broken : FnScope N_broken P_broken (defScope s_broken) := ⟨rfl, rfl, rfl, by decide +kernel, rfl, by decide +kernel, by decide +kernel⟩
theorem ok_broken (T : Txt K mg)  : Cal P w K mg base 1 "broken" 2 f_broken := by
  refine cal_of (k := 0) T.d_broken T.g_broken sc_broken (by decide) (fun _ _ _ _ _ _ us hl => match us, hl with | [_, _], _ => rfl) fun cdv A outer s H E hr => ?_
  have nd := sc_broken.nd
  exact (css_cons (cs_set (i := 2) nd (ce_cb cd_len cr_lenA (by rfl) T.n_len PySem.boot_len (ca_cons (ce_var 0) ca_nil)))
    (css_cons (cs_setM (i := 3) nd cm_new)
    (css_cons (cs_for hp rfl (ci_range1 T.n_range (ca_cons (ce_var 2) ca_nil)) (cg_name (i := 4) nd) (css_cons (cs_set (i := 5) nd (ce_ixN 0 (ce_var 4) (fun _ _ => rfl)))
    (css_cons (cs_if (ct_w (cw_or (ct_cmp op_lt od_lt (ce_var 5) ce_int (nomark _)) (cw_or (ct_cmp op_ge od_ge (ce_var 5) (ce_var 2) (nomark _)) (cw_or1 (ct_inM (i := 3) (hu_of hr) (ce_var 5)))))) (css_one (cs_ret (ce_var 4))) css_nil)
    (css_cons (cs_putM (i := 3) (hu_of hr) (ce_var 5) ce_bool)
    (css_cons (cs_set (i := 6) nd (ce_ixN 1 (ce_var 4) (fun _ _ => rfl)))
    (css_one (cs_if (ct_w (cw_and (ct_cmp op_isntA od_isnt (ce_var 6) ce_none (nomark _)) (cw_and1 (ct_w (cw_or (ct_cmp op_lt od_lt (ce_var 6) ce_int (nomark _)) (cw_or (ct_cmp op_ge od_ge (ce_var 6) (ce_var 2) (nomark _)) (cw_or (ct_cmp (op_eqD hr.units) od_eq (ce_var 6) (ce_var 4) (nomark _)) (cw_or1 (ct_cmp (op_neD hr.units) od_ne (ce_ixN 1 (ce_var 6) (fun _ _ => rfl)) (ce_var 4) (nomark _)))))))))) (css_one (cs_ret (ce_var 4))) css_nil)))))))
    (css_one (cs_ret ce_none)))))
theorem sc_is_skin : FnScope N_is_skin P_is_skin (defScope s_is_skin) := ⟨rfl, rfl, rfl, by decide +kernel, rfl, by decide +kernel, by decide +kernel⟩
theorem ok_is_skin (T : Txt K mg) (c_broken : Cal P w K mg base 1 "broken" 2 f_broken) (c_is_whole : Cal P w K mg base 1 "is_whole" 1 f_is_whole) : Cal P w K mg base 2 "is_skin" 1 f_is_skin := by
  refine cal_of (k := 1) T.d_is_skin T.g_is_skin sc_is_skin (by decide) (fun _ _ _ _ _ _ us hl => match us, hl with | [_], _ => rfl) fun cdv A outer s H E hr => ?_
  have nd := sc_is_skin.nd
  exact (css_cons (cs_if (ct_w (cw_or (ct_not (ct_val (ce_isi "tuple" (by decide +kernel) T.n_tuple T.n_isinstance (ce_var 0)))) (cw_or1 (ct_cmp (op_neD hr.units) od_ne (ce_cb cd_len cr_lenA (by rfl) T.n_len PySem.boot_len (ca_cons (ce_var 0) ca_nil)) ce_int (nomark _))))) (css_one (cs_ret ce_bool)) css_nil)
    (css_cons (cs_asg (ce_var 0) (cg_tup rfl (cgs_cons (cg_name (i := 1) nd) (cgs_cons (cg_name (i := 2) nd) cgs_nil))))
    (css_cons (cs_if (ct_w (cw_or (ct_not (ct_val (ce_isi "tuple" (by decide +kernel) T.n_tuple T.n_isinstance (ce_var 1)))) (cw_or1 (ct_not (ct_val (ce_isi "tuple" (by decide +kernel) T.n_tuple T.n_isinstance (ce_var 2))))))) (css_one (cs_ret ce_bool)) css_nil)
    (css_cons (cs_if (ct_w (cw_or (ct_cmp op_lt od_lt (ce_cb cd_len cr_lenA (by rfl) T.n_len PySem.boot_len (ca_cons (ce_var 1) ca_nil)) ce_int (nomark _)) (cw_or (ct_cmp op_gt od_gt (ce_cb cd_len cr_lenA (by rfl) T.n_len PySem.boot_len (ca_cons (ce_var 1) ca_nil)) (ce_globI T.c_MOST.choose_spec) (nomark _)) (cw_or1 (ct_cmp (op_neD hr.units) od_ne (ce_cb cd_len cr_lenA (by rfl) T.n_len PySem.boot_len (ca_cons (ce_var 2) ca_nil)) (ce_cb cd_len cr_lenA (by rfl) T.n_len PySem.boot_len (ca_cons (ce_var 1) ca_nil)) (nomark _)))))) (css_one (cs_ret ce_bool)) css_nil)
    (css_cons (cs_if (ct_not (ct_val (ce_cb cd_all (cr_all rfl) (by rfl) T.n_all (by decide +kernel) (ca_cons (ce_lst (cl_comp rfl nd (own := [("behind", 3)]) (ci_seqS (ce_var 1)) (blkOk_by (own := [("behind", 3)]) (N := N_is_skin) (sc := defScope s_is_skin) (by decide +kernel)) (fun _ _ _ _ _ => (cg_name (i := 3) nd)) (fun _ _ _ _ _ => cts_nil) (fun _ _ _ _ _ => (ce_callC c_is_whole hr (by decide) passF (cr_cons (ce_var 3) cr_nil))))) ca_nil)))) (css_one (cs_ret ce_bool)) css_nil)
    (css_cons (cs_if (ct_not (ct_val (ce_cb cd_all (cr_all rfl) (by rfl) T.n_all (by decide +kernel) (ca_cons (ce_lst (cl_comp rfl nd (own := [("mate", 4)]) (ci_seqS (ce_var 2)) (blkOk_by (own := [("mate", 4)]) (N := N_is_skin) (sc := defScope s_is_skin) (by decide +kernel)) (fun _ _ _ _ _ => (cg_name (i := 4) nd)) (fun _ _ _ _ _ => cts_nil) (fun _ _ _ _ _ => (ce_or (ce_cmp op_isA od_is (ce_var 4) ce_none (nomark _)) (ce_one (ce_callC c_is_whole hr (by decide) passF (cr_cons (ce_var 4) cr_nil))))))) ca_nil)))) (css_one (cs_ret ce_bool)) css_nil)
    (css_one (cs_ret (ce_cmp op_isA od_is (ce_callC c_broken hr (by decide) tk (cr_cons (ce_var 1) (cr_cons (ce_var 2) cr_nil))) ce_none (nomark _))))))))))
theorem sc__law_take : FnScope N__law_take P__law_take (defScope s__law_take) := ⟨rfl, rfl, rfl, by decide +kernel, rfl, by decide +kernel, by decide +kernel⟩
theorem ok__law_take (T : Txt K mg)  : Cal P w K mg base 1 "_law_take" 2 f__law_take := by
  refine cal_of (k := 0) T.d__law_take T.g__law_take sc__law_take (by decide) (fun _ _ _ _ _ _ us hl => match us, hl with | [_, _], _ => rfl) fun cdv A outer s H E hr => ?_
  have nd := sc__law_take.nd
  exact (css_cons (cs_if (ct_cmp op_gt od_gt (ce_ixN 0 ce_int (fun _ _ => rfl)) ce_int (nomark _)) (css_cons (cs_set (i := 2) nd (ce_bin op_mod od_mod (ce_ixN 0 ce_int (fun _ _ => rfl)) (ce_var 1)))
    (css_cons (cs_setO 0 ce_int (ce_bin op_fdivW od_fdiv (ce_ixN 0 ce_int (fun _ _ => rfl)) (ce_var 1)))
    (css_one (cs_ret (ce_var 2))))) css_nil)
    (css_cons (cs_setO 0 ce_int (ce_bin op_mod od_mod (ce_bin op_mulAT od_mulT (ce_ixN 0 ce_int (fun _ _ => rfl)) ce_int) ce_int))
    (css_one (cs_ret (ce_bin op_mod od_mod (ce_bin op_fdivW od_fdiv (ce_bin op_mod od_mod (ce_bin op_mulAT od_mulT (ce_ixN 0 ce_int (fun _ _ => rfl)) (ce_ixN 0 ce_int (fun _ _ => rfl))) ce_int) ce_int) (ce_var 1))))))
theorem sc__law_odd : FnScope N__law_odd P__law_odd (defScope s__law_odd) := ⟨rfl, rfl, rfl, by decide +kernel, rfl, by decide +kernel, by decide +kernel⟩
theorem ok__law_odd (T : Txt K mg) (c__law_take : Cal P w K mg base 1 "_law_take" 2 f__law_take) : Cal P w K mg base 2 "_law_odd" 1 f__law_odd := by
  refine cal_of (k := 1) T.d__law_odd T.g__law_odd sc__law_odd (by decide) (fun _ _ _ _ _ _ us hl => match us, hl with | [_], _ => rfl) fun cdv A outer s H E hr => ?_
  have nd := sc__law_odd.nd
  exact (css_cons (cs_set (i := 1) nd (ce_lst (cl_lst (ca_cons ce_neg (ca_cons ce_int (ca_cons ce_int (ca_cons ce_int (ca_cons ce_int (ca_cons ce_int (ca_cons ce_bool (ca_cons ce_bool (ca_cons ce_none (ca_cons ce_str (ca_cons ce_str (ca_cons (ce_tup ca_nil) (ca_cons (ce_tup (ca_cons ce_int ca_nil)) (ca_cons (ce_tup (ca_cons ce_none ca_nil)) (ca_cons (ce_tup (ca_cons (ce_tup (ca_cons ce_int ca_nil)) (ca_cons (ce_tup (ca_cons ce_none ca_nil)) ca_nil))) (ca_cons (ce_tup (ca_cons (ce_tup (ca_cons ce_int ca_nil)) (ca_cons (ce_tup (ca_cons ce_int ca_nil)) ca_nil))) (ca_cons (ce_lst (cl_lst (ca_cons ce_int ca_nil))) ca_nil))))))))))))))))))))
    (css_cons (cs_set (i := 1) nd (ce_lst (cl_bin op_catR ol_cat (ce_var 1) (ce_lst (cl_lst (ca_cons (ce_tup (ca_cons (ce_tup ca_nil) (ca_cons (ce_tup ca_nil) ca_nil))) (ca_cons (ce_tup (ca_cons (ce_lst (cl_lst (ca_cons ce_int ca_nil))) (ca_cons (ce_tup (ca_cons ce_none ca_nil)) ca_nil))) (ca_cons (ce_tup (ca_cons (ce_tup (ca_cons ce_int ca_nil)) (ca_cons (ce_lst (cl_lst (ca_cons ce_none ca_nil))) ca_nil))) (ca_cons (ce_tup (ca_cons (ce_tup (ca_cons ce_int (ca_cons ce_int ca_nil))) (ca_cons (ce_tup (ca_cons ce_int (ca_cons ce_int ca_nil))) ca_nil))) (ca_cons (ce_tup (ca_cons (ce_tup (ca_cons ce_int (ca_cons ce_int ca_nil))) (ca_cons (ce_tup (ca_cons ce_int (ca_cons ce_int ca_nil))) ca_nil))) (ca_cons (ce_tup (ca_cons (ce_tup (ca_cons ce_int (ca_cons ce_int ca_nil))) (ca_cons (ce_tup (ca_cons ce_int ca_nil)) ca_nil))) ca_nil)))))))))))
    (css_one (cs_ret (ce_ixN 1 (ce_callC c__law_take hr (by decide) tk (cr_lend 0 (cr_cons (ce_cb cd_len cr_lenA (by rfl) T.n_len PySem.boot_len (ca_cons (ce_var 1) ca_nil)) cr_nil))) (fun _ _ => rfl))))))
theorem sc__law_replaced : FnScope N__law_replaced P__law_replaced (defScope s__law_replaced) := ⟨rfl, rfl, rfl, by decide +kernel, rfl, by decide +kernel, by decide +kernel⟩
theorem ok__law_replaced (T : Txt K mg) (c__law_take : Cal P w K mg base 1 "_law_take" 2 f__law_take) (c__law_odd : Cal P w K mg base 2 "_law_odd" 1 f__law_odd) : Cal P w K mg base 67 "_law_replaced" 3 (f__law_replaced 64) := by
  suffices h : ∀ j, Cal P w K mg base (2 + j + 1) "_law_replaced" 3 (f__law_replaced j) from h 64
  intro j
  induction j with
  | zero => exact cal_of (k := 2) T.d__law_replaced T.g__law_replaced sc__law_replaced (by decide) (fun _ _ _ _ _ _ us hl => match us, hl with | [_, _, _], _ => rfl) fun cdv A outer s H E hr => css_stuck
  | succ j c_self =>
  refine cal_of (k := 2 + j + 1) T.d__law_replaced T.g__law_replaced sc__law_replaced (by decide) (fun _ _ _ _ _ _ us hl => match us, hl with | [_, _, _], _ => rfl) fun cdv A outer s H E hr => ?_
  have nd := sc__law_replaced.nd
  exact (css_cons (cs_if (ct_w (cw_or (ct_cmp (op_eqD hr.units) od_eq (ce_var 2) ce_int (nomark _)) (cw_or (ct_not (ct_val (ce_isi "tuple" (by decide +kernel) T.n_tuple T.n_isinstance (ce_var 1)))) (cw_or (ct_cmp (op_eqD hr.units) od_eq (ce_var 1) (ce_tup ca_nil) (nomark _)) (cw_or1 (ct_cmp (op_eqD hr.units) od_eq (ce_callC c__law_take hr (by omega) tk (cr_lend 0 (cr_cons ce_int cr_nil))) ce_int (nomark _))))))) (css_one (cs_ret (ce_callC c__law_odd hr (by omega) tk (cr_lend 0 cr_nil)))) css_nil)
    (css_cons (cs_set (i := 3) nd (ce_callC c__law_take hr (by omega) tk (cr_lend 0 (cr_cons (ce_cb cd_len cr_lenA (by rfl) T.n_len PySem.boot_len (ca_cons (ce_var 1) ca_nil)) cr_nil))))
    (css_cons (cs_set (i := 4) nd (ce_callC c__law_take hr (by omega) tk (cr_lend 0 (cr_cons ce_int cr_nil))))
    (css_cons (cs_if (ct_cmp (op_eqD hr.units) od_eq (ce_var 4) ce_int (nomark _)) (css_one (cs_ret (ce_bin op_addA od_add (ce_sl (ce_var 1) co_none (co_some (ce_var 3))) (ce_sl (ce_var 1) (co_some (ce_bin op_addA od_add (ce_var 3) ce_int)) co_none)))) css_nil)
    (css_cons (cs_if (ct_cmp (op_eqD hr.units) od_eq (ce_var 4) ce_int (nomark _)) (css_one (cs_ret (ce_bin op_addA od_add (ce_bin op_addA od_add (ce_sl (ce_var 1) co_none (co_some (ce_var 3))) (ce_tup (ca_cons (ce_ixN 1 (ce_var 3) (fun _ _ => rfl)) ca_nil))) (ce_sl (ce_var 1) (co_some (ce_var 3)) co_none)))) css_nil)
    (css_cons (cs_if (ct_cmp (op_eqD hr.units) od_eq (ce_var 4) ce_int (nomark _)) (css_one (cs_ret (ce_lst (cl_ct cd_list call_list_of (by rfl) T.n_list (by decide +kernel) (ca_cons (ce_var 1) ca_nil))))) css_nil)
    (css_cons (cs_if (ct_cmp (op_eqD hr.units) od_eq (ce_var 4) ce_int (nomark _)) (css_one (cs_ret (ce_bin op_addA od_add (ce_bin op_addA od_add (ce_sl (ce_var 1) co_none (co_some (ce_var 3))) (ce_revT (ce_sl (ce_var 1) (co_some (ce_var 3)) (co_some (ce_bin op_addA od_add (ce_var 3) ce_int))))) (ce_sl (ce_var 1) (co_some (ce_bin op_addA od_add (ce_var 3) ce_int)) co_none)))) css_nil)
    (css_one (cs_ret (ce_bin op_addA od_add (ce_bin op_addA od_add (ce_sl (ce_var 1) co_none (co_some (ce_var 3))) (ce_tup (ca_cons (ce_callC c_self hr (by omega) tk (cr_lend 0 (cr_cons (ce_ixN 1 (ce_var 3) (fun _ _ => rfl)) (cr_cons (ce_bin op_sub od_sub (ce_var 2) ce_int) cr_nil)))) ca_nil))) (ce_sl (ce_var 1) (co_some (ce_bin op_addA od_add (ce_var 3) ce_int)) co_none)))))))))))
theorem sc__law_bag : FnScope N__law_bag P__law_bag (defScope s__law_bag) := ⟨rfl, rfl, rfl, by decide +kernel, rfl, by decide +kernel, by decide +kernel⟩
theorem ok__law_bag (T : Txt K mg)  : Cal P w K mg base 1 "_law_bag" 2 f__law_bag := by
  refine cal_of (k := 0) T.d__law_bag T.g__law_bag sc__law_bag (by decide) (fun _ _ _ _ _ _ us hl => match us, hl with | [_, _], _ => rfl) fun cdv A outer s H E hr => ?_
  have nd := sc__law_bag.nd
  exact (css_cons (cs_set (i := 2) nd ce_int)
    (css_cons (cs_if (ct_cmp op_lt od_lt (ce_var 1) (ce_cb cd_len cr_lenA (by rfl) T.n_len PySem.boot_len (ca_cons (ce_var 0) ca_nil)) (nomark _)) (css_one (cs_set (i := 2) nd (ce_bin op_mod od_mod (ce_ixN 0 (ce_var 1) (fun _ _ => rfl)) (ce_bin op_mulAT od_mulT (ce_bin op_pow od_pow ce_int ce_int) (ce_bin op_pow od_pow ce_int ce_int))))) css_nil)
    (css_cons (cs_if (ct_cmp op_lt od_lt (ce_var 2) (ce_bin op_pow od_pow ce_int ce_int) (nomark _)) (css_one (cs_retL (cl_lst (ca_cons ce_int (ca_cons (ce_bin op_addA od_add ce_int (ce_bin op_mod od_mod (ce_bin op_addA od_add (ce_bin op_mulAT od_mulT (ce_var 2) ce_int) (ce_bin op_mulAT od_mulT ce_int (ce_var 1))) ce_int)) ca_nil))))) css_nil)
    (css_one (cs_retL (cl_lst (ca_cons (ce_var 2) (ca_cons (ce_bin op_addA od_add ce_int (ce_bin op_mod od_mod (ce_bin op_addA od_add (ce_var 2) (ce_var 1)) ce_int)) ca_nil))))))))
theorem sc__law_skin : FnScope N__law_skin P__law_skin (defScope s__law_skin) := ⟨rfl, rfl, rfl, by decide +kernel, rfl, by decide +kernel, by decide +kernel⟩
theorem ok__law_skin (T : Txt K mg) (c__law_take : Cal P w K mg base 1 "_law_take" 2 f__law_take) : Cal P w K mg base 2 "_law_skin" 2 f__law_skin := by
  refine cal_of (k := 1) T.d__law_skin T.g__law_skin sc__law_skin (by decide) (fun _ _ _ _ _ _ us hl => match us, hl with | [_, _], _ => rfl) fun cdv A outer s H E hr => ?_
  have nd := sc__law_skin.nd
  exact (css_cons (cs_set (i := 2) nd (ce_bin op_addA od_add ce_int (ce_callC c__law_take hr (by decide) tk (cr_lend 0 (cr_cons (ce_var 1) cr_nil)))))
    (css_cons (cs_setL (i := 3) nd (cl_lst ca_nil))
    (css_cons (cs_for hp rfl (ci_range1 T.n_range (ca_cons (ce_var 2) ca_nil)) (cg_name (i := 4) nd) (css_one (cs_drop (ce_mo 3 om_insert PySem.F.slot_list_insert PySem.F.type_list_insert mt_insert (ca_cons (ce_callC c__law_take hr (by decide) tk (cr_lend 0 (cr_cons (ce_bin op_addA od_add (ce_var 4) ce_int) cr_nil))) (ca_cons (ce_var 4) ca_nil))))))
    (css_cons (cs_setL (i := 5) nd (cl_rep (cl_lst (ca_cons ce_int ca_nil)) (ce_var 2)))
    (css_cons (cs_set (i := 6) nd (ce_ix ix_seq od_ix (ce_lst (cl_lst (ca_cons (ce_bin op_addA od_add ce_int (ce_callC c__law_take hr (by decide) tk (cr_lend 0 (cr_cons ce_int cr_nil)))) (ca_cons ce_int (ca_cons (ce_var 2) ca_nil))))) (ce_callC c__law_take hr (by decide) tk (cr_lend 0 (cr_cons ce_int cr_nil))) (fun _ _ => rfl)))
    (css_cons (cs_set (i := 7) nd (ce_lst (cl_listA 3 T.n_list)))
    (css_cons (cs_while FUEL hp (ct_cmp (op_neD hr.units) od_ne (ce_var 7) (ce_lst (cl_lst ca_nil)) (nomark _)) (css_cons (cs_set (i := 8) nd (ce_cb cd_min (call_min2 rfl) (by rfl) T.n_min (by decide +kernel) (ca_cons (ce_cb cd_len cr_lenA (by rfl) T.n_len PySem.boot_len (ca_cons (ce_var 7) ca_nil)) (ca_cons (ce_ix ix_seq od_ix (ce_lst (cl_lst (ca_cons (ce_var 6) (ca_cons (ce_bin op_addA od_add ce_int (ce_callC c__law_take hr (by decide) tk (cr_lend 0 (cr_cons (ce_var 6) cr_nil)))) ca_nil)))) (ce_callC c__law_take hr (by decide) tk (cr_lend 0 (cr_cons ce_int cr_nil))) (fun _ _ => rfl)) ca_nil))))
    (css_cons (cs_set (i := 9) nd (ce_sl (ce_var 7) co_none (co_some (ce_var 8))))
    (css_cons (cs_set (i := 7) nd (ce_sl (ce_var 7) (co_some (ce_var 8)) co_none))
    (css_one (cs_for hp rfl (ci_range1 T.n_range (ca_cons (ce_var 8) ca_nil)) (cg_name (i := 10) nd) (css_one (cs_setO 5 (ce_ixN 9 (ce_bin op_sub od_sub (ce_var 10) ce_int) (fun _ _ => rfl)) (ce_ixN 9 (ce_var 10) (fun _ _ => rfl))))))))))
    (css_cons (cs_setL (i := 11) nd (cl_rep (cl_lst (ca_cons ce_none ca_nil)) (ce_var 2)))
    (css_cons (cs_set (i := 12) nd (ce_ix ix_seq od_ix (ce_lst (cl_lst (ca_cons ce_int (ca_cons ce_int (ca_cons ce_int ca_nil))))) (ce_callC c__law_take hr (by decide) tk (cr_lend 0 (cr_cons ce_int cr_nil))) (fun _ _ => rfl)))
    (css_cons (cs_setL (i := 13) nd (cl_listRg rfl T.n_list T.n_range (ce_var 2)))
    (css_cons (cs_while FUEL hp (ct_cmp op_gt od_gt (ce_lenO 13 T.n_len) ce_int (nomark _)) (css_cons (cs_set (i := 14) nd (ce_mo 13 om_popAt PySem.F.slot_list_pop PySem.F.type_list_pop mt_popAt (ca_cons (ce_callC c__law_take hr (by decide) tk (cr_lend 0 (cr_cons (ce_lenO 13 T.n_len) cr_nil))) ca_nil)))
    (css_cons (cs_set (i := 15) nd (ce_mo 13 om_popAt PySem.F.slot_list_pop PySem.F.type_list_pop mt_popAt (ca_cons (ce_callC c__law_take hr (by decide) tk (cr_lend 0 (cr_cons (ce_lenO 13 T.n_len) cr_nil))) ca_nil)))
    (css_one (cs_if (ct_cmp op_gt od_gt (ce_callC c__law_take hr (by decide) tk (cr_lend 0 (cr_cons (ce_var 12) cr_nil))) ce_int (nomark _)) (css_cons (cs_setO 11 (ce_var 14) (ce_var 15))
    (css_one (cs_setO 11 (ce_var 15) (ce_var 14)))) css_nil)))))
    (css_one (cs_ret (ce_tup (ca_cons (ce_tupO 5 T.n_tuple) (ca_cons (ce_tupO 11 T.n_tuple) ca_nil))))))))))))))))
theorem sc__law_broken : FnScope N__law_broken P__law_broken (defScope s__law_broken) := ⟨rfl, rfl, rfl, by decide +kernel, rfl, by decide +kernel, by decide +kernel⟩
theorem ok__law_broken (T : Txt K mg)  : Cal P w K mg base 1 "_law_broken" 2 f__law_broken := by
  refine cal_of (k := 0) T.d__law_broken T.g__law_broken sc__law_broken (by decide) (fun _ _ _ _ _ _ us hl => match us, hl with | [_, _], _ => rfl) fun cdv A outer s H E hr => ?_
  have nd := sc__law_broken.nd
  exact (css_cons (cs_set (i := 2) nd (ce_cb cd_len cr_lenA (by rfl) T.n_len PySem.boot_len (ca_cons (ce_var 0) ca_nil)))
    (css_cons (cs_for hp rfl (ci_range1 T.n_range (ca_cons (ce_var 2) ca_nil)) (cg_name (i := 3) nd) (css_cons (cs_if (ct_w (cw_or (ct_not (ct_chain op_le od_le op_lt od_lt ce_int (ce_ixN 0 (ce_var 3) (fun _ _ => rfl)) (ce_var 2))) (cw_or1 (ct_cmp op_inA od_inS (ce_ixN 0 (ce_var 3) (fun _ _ => rfl)) (ce_sl (ce_var 0) co_none (co_some (ce_var 3))) (by rfl))))) (css_one (cs_ret (ce_var 3))) css_nil)
    (css_cons (cs_set (i := 4) nd (ce_ixN 1 (ce_var 3) (fun _ _ => rfl)))
    (css_one (cs_if (ct_w (cw_and (ct_cmp op_isntA od_isnt (ce_var 4) ce_none (nomark _)) (cw_and1 (ct_w (cw_or (ct_not (ct_chain op_le od_le op_lt od_lt ce_int (ce_var 4) (ce_var 2))) (cw_or (ct_cmp (op_eqD hr.units) od_eq (ce_var 4) (ce_var 3) (nomark _)) (cw_or1 (ct_cmp (op_neD hr.units) od_ne (ce_ixN 1 (ce_var 4) (fun _ _ => rfl)) (ce_var 3) (nomark _))))))))) (css_one (cs_ret (ce_var 3))) css_nil)))))
    (css_one (cs_ret ce_none))))
theorem sc__law_is_skin : FnScope N__law_is_skin P__law_is_skin (defScope s__law_is_skin) := ⟨rfl, rfl, rfl, by decide +kernel, rfl, by decide +kernel, by decide +kernel⟩
theorem ok__law_is_skin (T : Txt K mg) (c__law_broken : Cal P w K mg base 1 "_law_broken" 2 f__law_broken) : Cal P w K mg base 2 "_law_is_skin" 1 f__law_is_skin := by
  refine cal_of (k := 1) T.d__law_is_skin T.g__law_is_skin sc__law_is_skin (by decide) (fun _ _ _ _ _ _ us hl => match us, hl with | [_], _ => rfl) fun cdv A outer s H E hr => ?_
  have nd := sc__law_is_skin.nd
  exact (css_cons (cs_if (ct_w (cw_or (ct_not (ct_val (ce_isi "tuple" (by decide +kernel) T.n_tuple T.n_isinstance (ce_var 0)))) (cw_or (ct_cmp (op_neD hr.units) od_ne (ce_cb cd_len cr_lenA (by rfl) T.n_len PySem.boot_len (ca_cons (ce_var 0) ca_nil)) ce_int (nomark _)) (cw_or1 (ct_not (ct_val (ce_cb cd_all (cr_all rfl) (by rfl) T.n_all (by decide +kernel) (ca_cons (ce_lst (cl_comp rfl nd (own := [("part", 3)]) (ci_seqS (ce_var 0)) (blkOk_by (own := [("part", 3)]) (N := N__law_is_skin) (sc := defScope s__law_is_skin) (by decide +kernel)) (fun _ _ _ _ _ => (cg_name (i := 3) nd)) (fun _ _ _ _ _ => cts_nil) (fun _ _ _ _ _ => (ce_isi "tuple" (by decide +kernel) T.n_tuple T.n_isinstance (ce_var 3))))) ca_nil)))))))) (css_one (cs_ret ce_bool)) css_nil)
    (css_cons (cs_set (i := 1) nd (ce_cb cd_len cr_lenA (by rfl) T.n_len PySem.boot_len (ca_cons (ce_ixN 0 ce_int (fun _ _ => rfl)) ca_nil)))
    (css_cons (cs_if (ct_w (cw_or (ct_cmp op_lt od_lt (ce_var 1) ce_int (nomark _)) (cw_or (ct_cmp op_gt od_gt (ce_var 1) ce_int (nomark _)) (cw_or1 (ct_cmp (op_neD hr.units) od_ne (ce_cb cd_len cr_lenA (by rfl) T.n_len PySem.boot_len (ca_cons (ce_ixN 0 ce_int (fun _ _ => rfl)) ca_nil)) (ce_var 1) (nomark _)))))) (css_one (cs_ret ce_bool)) css_nil)
    (css_cons (cs_for hp rfl (ci_seqS (ce_bin op_addA od_add (ce_ixN 0 ce_int (fun _ _ => rfl)) (ce_ct cd_tup call_tuple_ofF (by rfl) T.n_tuple (by decide +kernel) (ca_cons (ce_lst (cl_comp rfl nd (own := [("mate", 4)]) (ci_seqS (ce_ixN 0 ce_int (fun _ _ => rfl))) (blkOk_by (own := [("mate", 4)]) (N := N__law_is_skin) (sc := defScope s__law_is_skin) (by decide +kernel)) (fun _ _ _ _ _ => (cg_name (i := 4) nd)) (fun _ _ _ _ _ => (cts_one (ct_cmp op_isntA od_isnt (ce_var 4) ce_none (nomark _)))) (fun _ _ _ _ _ => (ce_var 4)))) ca_nil)))) (cg_name (i := 2) nd) (css_one (cs_if (ct_w (cw_or (ct_not (ct_val (ce_isi "int" (by decide +kernel) T.n_int T.n_isinstance (ce_var 2)))) (cw_or1 (ct_val (ce_isi "bool" (by decide +kernel) T.n_bool T.n_isinstance (ce_var 2)))))) (css_one (cs_ret ce_bool)) css_nil)))
    (css_one (cs_ret (ce_cmp op_isA od_is (ce_callC c__law_broken hr (by decide) tk (cr_cons (ce_ixN 0 ce_int (fun _ _ => rfl)) (cr_cons (ce_ixN 0 ce_int (fun _ _ => rfl)) cr_nil))) ce_none (nomark _))))))))
theorem sc__law_truths : FnScope N__law_truths P__law_truths (defScope s__law_truths) := ⟨rfl, rfl, rfl, by decide +kernel, rfl, by decide +kernel, by decide +kernel⟩
theorem ok__law_truths (T : Txt K mg)  : Cal P w K mg base 1 "_law_truths" 1 f__law_truths := by
  refine cal_of (k := 0) T.d__law_truths T.g__law_truths sc__law_truths (by decide) (fun _ _ _ _ _ _ us hl => match us, hl with | [_], _ => rfl) fun cdv A outer s H E hr => ?_
  have nd := sc__law_truths.nd
  exact (css_one (cs_ret (ce_ct cd_tup call_tuple_ofF (by rfl) T.n_tuple (by decide +kernel) (ca_cons (ce_lst (cl_comp rfl nd (own := [("one", 1)]) (ci_seqS (ce_var 0)) (blkOk_by (own := [("one", 1)]) (N := N__law_truths) (sc := defScope s__law_truths) (by decide +kernel)) (fun _ _ _ _ _ => (cg_name (i := 1) nd)) (fun _ _ _ _ _ => cts_nil) (fun _ _ _ _ _ => (ce_if (ct_cmp op_inA od_inS (ce_var 1) (ce_tup (ca_cons ce_int (ca_cons ce_int ca_nil))) (by rfl)) (ce_cmp (op_eqD hr.units) od_eq (ce_var 1) ce_int (nomark _)) (ce_var 1))))) ca_nil))))
theorem sc_law : FnScope N_law P_law (defScope s_law) := ⟨rfl, rfl, rfl, by decide +kernel, rfl, by decide +kernel, by decide +kernel⟩
theorem ok_law (T : Txt K mg) (c__law_bag : Cal P w K mg base 1 "_law_bag" 2 f__law_bag) (c__law_skin : Cal P w K mg base 2 "_law_skin" 2 f__law_skin) (c__law_replaced : Cal P w K mg base 67 "_law_replaced" 3 (f__law_replaced 64)) (c__law_take : Cal P w K mg base 1 "_law_take" 2 f__law_take) (c_is_skin : Cal P w K mg base 2 "is_skin" 1 f_is_skin) (c__law_odd : Cal P w K mg base 2 "_law_odd" 1 f__law_odd) (c__law_truths : Cal P w K mg base 1 "_law_truths" 1 f__law_truths) (c__law_is_skin : Cal P w K mg base 2 "_law_is_skin" 1 f__law_is_skin) {fd : FuncData} (F : FnT K "law" s_law fd) : FnOk P w K mg base (L2N.CX P w) 68 (He.ga K "law") fd P_law (spD K mg 1 f_law) := by
  refine fn_bodyD (k := 67) F sc_law (by decide) fun cdv A outer s H E hr => ?_
  have nd := sc_law.nd
  exact (css_cons (cs_for hp rfl (ci_range1 T.n_range (ca_cons (ce_bin op_addA od_add ce_int (ce_cb cd_min (call_min2 rfl) (by rfl) T.n_min (by decide +kernel) (ca_cons (ce_cb cd_len cr_lenA (by rfl) T.n_len PySem.boot_len (ca_cons (ce_var 0) ca_nil)) (ca_cons ce_int ca_nil)))) ca_nil)) (cg_name (i := 1) nd) (css_cons (cs_setL (i := 2) nd (cl_callC c__law_bag hr (by decide) tk (cr_cons (ce_var 0) (cr_cons (ce_var 1) cr_nil))))
    (css_cons (cs_set (i := 3) nd (ce_callC c__law_skin hr (by decide) tk (cr_lend 2 (cr_cons (ce_ix ix_seq od_ix (ce_lst (cl_lst (ca_cons ce_int (ca_cons ce_int ca_nil)))) (ce_ct cd_int call_int1 (by rfl) T.n_int (by decide +kernel) (ca_cons (ce_cmp (op_eqD hr.units) od_eq (ce_callC c__law_take hr (by decide) tk (cr_lend 2 (cr_cons ce_int cr_nil))) ce_int (nomark _)) ca_nil)) (fun _ _ => rfl)) cr_nil))))
    (css_cons (cs_if (ct_w (cw_or (ct_cmp op_isntA od_isnt (ce_callC c_is_skin hr (by decide) tk (cr_cons (ce_var 3) cr_nil)) ce_bool (nomark _)) (cw_or1 (ct_cmp op_isntA od_isnt (ce_callC c_is_skin hr (by decide) tk (cr_cons (ce_tup (ca_cons (ce_callC c__law_truths hr (by decide) tk (cr_cons (ce_ixN 3 ce_int (fun _ _ => rfl)) cr_nil)) (ca_cons (ce_ixN 3 ce_int (fun _ _ => rfl)) ca_nil))) cr_nil)) ce_bool (nomark _))))) (css_one (cs_ret ce_bool)) css_nil)
    (css_cons (cs_if (ct_cmp (op_neD hr.units) od_ne (ce_callC c_is_skin hr (by decide) tk (cr_cons (ce_tup (ca_cons (ce_ixN 3 ce_int (fun _ _ => rfl)) (ca_cons (ce_callC c__law_truths hr (by decide) tk (cr_cons (ce_ixN 3 ce_int (fun _ _ => rfl)) cr_nil)) ca_nil))) cr_nil)) (ce_and (ce_cmp op_notInA od_notInS ce_int (ce_ixN 3 ce_int (fun _ _ => rfl)) (by rfl)) (ce_one (ce_cmp op_notInA od_notInS ce_int (ce_ixN 3 ce_int (fun _ _ => rfl)) (by rfl)))) (nomark _)) (css_one (cs_ret ce_bool)) css_nil)
    (css_cons (cs_set (i := 4) nd (ce_callC c__law_replaced hr (by decide) tk (cr_lend 2 (cr_cons (ce_var 3) (cr_cons ce_int cr_nil)))))
    (css_cons (cs_if (ct_cmp (op_eqD hr.units) od_eq (ce_callC c__law_take hr (by decide) tk (cr_lend 2 (cr_cons ce_int cr_nil))) ce_int (nomark _)) (css_one (cs_set (i := 4) nd (ce_callC c__law_replaced hr (by decide) tk (cr_lend 2 (cr_cons (ce_var 4) (cr_cons ce_int cr_nil)))))) css_nil)
    (css_one (cs_for hp rfl (ci_seqS (ce_tup (ca_cons (ce_var 4) (ca_cons (ce_callC c__law_odd hr (by decide) tk (cr_lend 2 cr_nil)) ca_nil)))) (cg_name (i := 5) nd) (css_cons (cs_set (i := 6) nd (ce_callC c_is_skin hr (by decide) tk (cr_cons (ce_var 5) cr_nil)))
    (css_one (cs_if (ct_w (cw_or (ct_not (ct_val (ce_isi "bool" (by decide +kernel) T.n_bool T.n_isinstance (ce_var 6)))) (cw_or1 (ct_cmp (op_neD hr.units) od_ne (ce_var 6) (ce_callC c__law_is_skin hr (by decide) tk (cr_cons (ce_var 5) cr_nil)) (nomark _))))) (css_one (cs_ret ce_bool)) css_nil))))))))))))
    (css_cons (cs_setL (i := 2) nd (cl_callC c__law_bag hr (by decide) tk (cr_cons (ce_var 0) (cr_cons ce_int cr_nil))))
    (css_cons (cs_set (i := 7) nd (ce_bin op_addA od_add ce_int (ce_callC c__law_take hr (by decide) tk (cr_lend 2 (cr_cons ce_int cr_nil)))))
    (css_cons (cs_for hp rfl (ci_seqS (ce_tup (ca_cons ce_int (ca_cons ce_int ca_nil)))) (cg_name (i := 8) nd) (css_cons (cs_set (i := 9) nd (ce_tup (ca_cons (ce_ct cd_tup call_tuple_ofF (by rfl) T.n_tuple (by decide +kernel) (ca_cons (ce_lst (cl_comp rfl nd (own := [("half", 10)]) (ci_range1 T.n_range (ca_cons (ce_var 8) ca_nil)) (blkOk_by (own := [("half", 10)]) (N := N_law) (sc := defScope s_law) (by decide +kernel)) (fun _ _ _ _ _ => (cg_name (i := 10) nd)) (fun _ _ _ _ _ => cts_nil) (fun _ _ _ _ _ => (ce_bin op_mod od_mod (ce_bin op_addA od_add (ce_var 10) (ce_var 7)) (ce_var 8))))) ca_nil)) (ca_cons (ce_bin op_mulAT od_mulT (ce_tup (ca_cons ce_none ca_nil)) (ce_var 8)) ca_nil))))
    (css_one (cs_if (ct_cmp (op_neD hr.units) od_ne (ce_callC c_is_skin hr (by decide) tk (cr_cons (ce_var 9) cr_nil)) (ce_cmp (op_eqD hr.units) od_eq (ce_var 8) ce_int (nomark _)) (nomark _)) (css_one (cs_ret ce_bool)) css_nil))))
    (css_one (cs_ret ce_bool))))))
end
end K01
set_option Elab.async false
set_option linter.all false
set_option maxRecDepth 100000
set_option maxHeartbeats 4000000
namespace K01
open PySem L2 DL LW
theorem txt {K : PySem.W.Frag} {h : Heap} {mg : Str → Option Value} (X : K.In h) (G : h.Ns mainGlobals mg) (c : He.SaysD fa fn K) (e : exB K = true) : Txt K mg where
  d_is_whole := c.def_ 0 (d := defD "is_whole" s_is_whole) rfl
  g_is_whole := He.glo_ok X G (c.fact 0 (f := .glo "is_whole") rfl)
  d_broken := c.def_ 1 (d := defD "broken" s_broken) rfl
  g_broken := He.glo_ok X G (c.fact 1 (f := .glo "broken") rfl)
  d_is_skin := c.def_ 2 (d := defD "is_skin" s_is_skin) rfl
  g_is_skin := He.glo_ok X G (c.fact 2 (f := .glo "is_skin") rfl)
  d__law_take := c.def_ 3 (d := defD "_law_take" s__law_take) rfl
  g__law_take := He.glo_ok X G (c.fact 3 (f := .glo "_law_take") rfl)
  d__law_odd := c.def_ 4 (d := defD "_law_odd" s__law_odd) rfl
  g__law_odd := He.glo_ok X G (c.fact 4 (f := .glo "_law_odd") rfl)
  d__law_replaced := c.def_ 5 (d := defD "_law_replaced" s__law_replaced) rfl
  g__law_replaced := He.glo_ok X G (c.fact 5 (f := .glo "_law_replaced") rfl)
  d__law_bag := c.def_ 6 (d := defD "_law_bag" s__law_bag) rfl
  g__law_bag := He.glo_ok X G (c.fact 6 (f := .glo "_law_bag") rfl)
  d__law_skin := c.def_ 7 (d := defD "_law_skin" s__law_skin) rfl
  g__law_skin := He.glo_ok X G (c.fact 7 (f := .glo "_law_skin") rfl)
  d__law_broken := c.def_ 8 (d := defD "_law_broken" s__law_broken) rfl
  g__law_broken := He.glo_ok X G (c.fact 8 (f := .glo "_law_broken") rfl)
  d__law_is_skin := c.def_ 9 (d := defD "_law_is_skin" s__law_is_skin) rfl
  g__law_is_skin := He.glo_ok X G (c.fact 9 (f := .glo "_law_is_skin") rfl)
  d__law_truths := c.def_ 10 (d := defD "_law_truths" s__law_truths) rfl
  g__law_truths := He.glo_ok X G (c.fact 10 (f := .glo "_law_truths") rfl)
  d_law := c.def_ 11 (d := defD "law" s_law) rfl
  g_law := He.glo_ok X G (c.fact 11 (f := .glo "law") rfl)
  n_all := He.free_ok X G (c.fact 12 (f := .free "all") rfl)
  n_bool := He.free_ok X G (c.fact 13 (f := .free "bool") rfl)
  n_int := He.free_ok X G (c.fact 14 (f := .free "int") rfl)
  n_isinstance := He.free_ok X G (c.fact 15 (f := .free "isinstance") rfl)
  n_len := He.free_ok X G (c.fact 16 (f := .free "len") rfl)
  n_list := He.free_ok X G (c.fact 17 (f := .free "list") rfl)
  n_min := He.free_ok X G (c.fact 18 (f := .free "min") rfl)
  n_range := He.free_ok X G (c.fact 19 (f := .free "range") rfl)
  n_tuple := He.free_ok X G (c.fact 20 (f := .free "tuple") rfl)
  c_MOST := He.int_ok X G (c.fact 21 (f := .int "MOST" 400) rfl)
theorem law_fn {P : Program} {w : World} {K : PySem.W.Frag} {mg : Str → Option Value} {base : Heap} (T : Txt K mg) {fd : FuncData} (F : FnT K "law" s_law fd) : FnOk P w K mg base (L2N.CX P w) 68 (He.ga K "law") fd P_law (spD K mg 1 f_law) := by
  have c_is_whole := ok_is_whole (P := P) (w := w) (base := base) T 
  have c_broken := ok_broken (P := P) (w := w) (base := base) T 
  have c_is_skin := ok_is_skin (P := P) (w := w) (base := base) T c_broken c_is_whole
  have c__law_take := ok__law_take (P := P) (w := w) (base := base) T 
  have c__law_odd := ok__law_odd (P := P) (w := w) (base := base) T c__law_take
  have c__law_replaced := ok__law_replaced (P := P) (w := w) (base := base) T c__law_take c__law_odd
  have c__law_bag := ok__law_bag (P := P) (w := w) (base := base) T 
  have c__law_skin := ok__law_skin (P := P) (w := w) (base := base) T c__law_take
  have c__law_broken := ok__law_broken (P := P) (w := w) (base := base) T 
  have c__law_is_skin := ok__law_is_skin (P := P) (w := w) (base := base) T c__law_broken
  have c__law_truths := ok__law_truths (P := P) (w := w) (base := base) T 
  exact ok_law (P := P) (w := w) (base := base) T c__law_bag c__law_skin c__law_replaced c__law_take c_is_skin c__law_odd c__law_truths c__law_is_skin F
end K01
set_option Elab.async false
set_option linter.all false
set_option maxRecDepth 100000
set_option maxHeartbeats 4000000
namespace LW
open PySem L2 DL
def isIntD : D → Bool
  | .int _ => true
  | .bool _ => true
  | _ => false
def isBoolD : D → Bool
  | .bool _ => true
  | _ => false
def isTupD : D → Bool
  | .tuple _ => true
  | _ => false
theorem isi_of {T : String} {d : D} {b : Bool} (h : kitB (tyD d) T = some b) : isiD T d = some (.bool b) := by
  unfold isiD
  rw [h]
  rfl
theorem isi_int (d : D) : isiD "int" d = some (.bool (isIntD d)) := by
  cases d with
  | none => exact isi_of (show kitB "NoneType" "int" = some false by decide +kernel)
  | bool _ => exact isi_of (show kitB "bool" "int" = some true by decide +kernel)
  | int _ => exact isi_of (show kitB "int" "int" = some true by decide +kernel)
  | str _ => exact isi_of (show kitB "str" "int" = some false by decide +kernel)
  | list _ => exact isi_of (show kitB "list" "int" = some false by decide +kernel)
  | tuple _ => exact isi_of (show kitB "tuple" "int" = some false by decide +kernel)
  | dict _ => exact isi_of (show kitB "dict" "int" = some false by decide +kernel)
theorem isi_bool (d : D) : isiD "bool" d = some (.bool (isBoolD d)) := by
  cases d with
  | none => exact isi_of (show kitB "NoneType" "bool" = some false by decide +kernel)
  | bool _ => exact isi_of (show kitB "bool" "bool" = some true by decide +kernel)
  | int _ => exact isi_of (show kitB "int" "bool" = some false by decide +kernel)
  | str _ => exact isi_of (show kitB "str" "bool" = some false by decide +kernel)
  | list _ => exact isi_of (show kitB "list" "bool" = some false by decide +kernel)
  | tuple _ => exact isi_of (show kitB "tuple" "bool" = some false by decide +kernel)
  | dict _ => exact isi_of (show kitB "dict" "bool" = some false by decide +kernel)
theorem isi_tup (d : D) : isiD "tuple" d = some (.bool (isTupD d)) := by
  cases d with
  | none => exact isi_of (show kitB "NoneType" "tuple" = some false by decide +kernel)
  | bool _ => exact isi_of (show kitB "bool" "tuple" = some false by decide +kernel)
  | int _ => exact isi_of (show kitB "int" "tuple" = some false by decide +kernel)
  | str _ => exact isi_of (show kitB "str" "tuple" = some false by decide +kernel)
  | list _ => exact isi_of (show kitB "list" "tuple" = some false by decide +kernel)
  | tuple _ => exact isi_of (show kitB "tuple" "tuple" = some true by decide +kernel)
  | dict _ => exact isi_of (show kitB "dict" "tuple" = some false by decide +kernel)
theorem divOk_of {m : Int} (h : 0 < m) (h2 : m < 2 ^ 64) : divOk m = true := by
  unfold divOk
  have h3 : m.natAbs < 2 ^ 64 := by omega
  have h4 : m.natAbs < 2 ^ 4000 := Nat.lt_of_lt_of_le h3 (Nat.pow_le_pow_right (by decide) (by decide))
  rw [decide_eq_true h, decide_eq_true h4]
  rfl
theorem mulOk_r {i j : Int} (h1 : -(2 ^ 64) < j) (h2 : j < 2 ^ 64) : mulOk i j = true := by
  unfold mulOk
  rw [decide_eq_true h1, decide_eq_true h2]
  simp
theorem mulOk_l {i j : Int} (h1 : -(2 ^ 64) < i) (h2 : i < 2 ^ 64) : mulOk i j = true := by
  unfold mulOk
  rw [decide_eq_true h1, decide_eq_true h2]
  simp
def T18 : Int := 10 ^ 18
def T120 : Int := 10 ^ 60 * 10 ^ 60
theorem T120_pos : 0 < T120 := by decide +kernel
theorem powOk60 : powOk 10 60 = true := by decide +kernel
theorem powOk18 : powOk 10 18 = true := by decide +kernel
theorem mulOk60 : mulOk ((10 : Int) ^ (60 : Int).toNat) ((10 : Int) ^ (60 : Int).toNat) = true := by decide +kernel
end LW
set_option Elab.async false
set_option linter.all false
set_option maxRecDepth 100000
set_option maxHeartbeats 4000000
namespace DL
open PySem L2
def np : Sl → Bool
  | .p _ => false
  | _ => true
def Fl.out (args : DEnv) : Fl → Fo
  | .nx e => .ok .none (outsOf args e)
  | .rt d e => .ok d (outsOf args e)
  | .rl xs e => .okl xs (outsOf args e)
  | .ex x e => .ex x (outsOf args e)
  | _ => .stuck
theorem bodyF_ap (n : Nat) (ds : DS) (args : DEnv) : bodyF n ds args = (ds (args ++ List.replicate (n - args.length) Sl.no)).out args := by
  unfold bodyF
  cases ds (args ++ List.replicate (n - args.length) Sl.no) <;> rfl
end DL
namespace LW
open PySem L2 DL
def shD (k : Nat) (d : D) : Prop := d.canLay0 = true ∧ d.depth ≤ k
def shA (k : Nat) (xs : List D) : Prop := ∀ x, x ∈ xs → shD k x
theorem shA_lay {k : Nat} : ∀ {xs : List D}, shA k xs → PyData.canLayAll0 xs = true ∧ PyData.depthAll xs ≤ k
  | [], _ => ⟨rfl, Nat.zero_le _⟩
  | x :: xs, h => by
    have a := h x (List.mem_cons_self ..)
    have b := shA_lay (xs := xs) fun y hy => h y (List.mem_cons_of_mem _ hy)
    simp only [PyData.canLayAll0, PyData.depthAll, Bool.and_eq_true]
    exact ⟨⟨a.1, b.1⟩, Nat.max_le.2 ⟨a.2, b.2⟩⟩
theorem shD_tup {k : Nat} {xs : List D} (h : shA k xs) : shD (k + 1) (.tuple xs) := by
  obtain ⟨a, b⟩ := shA_lay h
  exact ⟨by simpa [PyData.canLay0] using a, by simp [PyData.depth]; exact b⟩
theorem shD_lst {k : Nat} {xs : List D} (h : shA k xs) : shD (k + 1) (.list xs) := by
  obtain ⟨a, b⟩ := shA_lay h
  exact ⟨by simpa [PyData.canLay0] using a, by simp [PyData.depth]; exact b⟩
theorem shD_int (k : Nat) (i : Int) : shD k (.int i) := ⟨rfl, by simp [PyData.depth]⟩
theorem shD_bool (k : Nat) (i : Bool) : shD k (.bool i) := ⟨rfl, by simp [PyData.depth]⟩
theorem shD_none (k : Nat) : shD k .none := ⟨rfl, by simp [PyData.depth]⟩
theorem shD_up {k m : Nat} (hk : k ≤ m) {d : D} (h : shD k d) : shD m d := ⟨h.1, Nat.le_trans h.2 hk⟩
theorem shaped_of {k : Nat} (hk : k ≤ 64) {d : D} (h : shD k d) : SeqAt.shaped d = true := by
  unfold SeqAt.shaped
  simp [h.1]
  exact Nat.le_trans h.2 hk
theorem dEq_of {k : Nat} (hk : k ≤ 64) {a b : D} (ha : shD k a) (hb : shD k b) : dEq a b = some (.bool (PyData.eqv a b)) := by
  unfold dEq
  rw [if_pos ⟨shaped_of hk ha, shaped_of hk hb⟩]
theorem dNe_of {k : Nat} (hk : k ≤ 64) {a b : D} (ha : shD k a) (hb : shD k b) : dNe a b = some (.bool (!PyData.eqv a b)) := by
  unfold dNe
  rw [if_pos ⟨shaped_of hk ha, shaped_of hk hb⟩]
@[simp] theorem dEq_int (i j : Int) : dEq (.int i) (.int j) = some (.bool (decide (i = j))) := by
  rw [dEq_of (k := 0) (by decide) (shD_int ..) (shD_int ..)]
  simp [PyData.eqv]
  rfl
@[simp] theorem dNe_int (i j : Int) : dNe (.int i) (.int j) = some (.bool (!decide (i = j))) := by
  rw [dNe_of (k := 0) (by decide) (shD_int ..) (shD_int ..)]
  simp [PyData.eqv]
  rfl
@[simp] theorem dNe_bool (i j : Bool) : dNe (.bool i) (.bool j) = some (.bool (i != j)) := by
  rw [dNe_of (k := 0) (by decide) (shD_bool ..) (shD_bool ..)]
  simp only [PyData.eqv, bne]
def nD (k : Nat) : D := .int (k : Int)
def nsD (L : List Nat) : List D := L.map nD
def oD : Option Nat → D
  | none => .none
  | some k => nD k
def osD (L : List (Option Nat)) : List D := L.map oD
@[simp] theorem nsD_len (L : List Nat) : (nsD L).length = L.length := by simp [nsD]
@[simp] theorem osD_len (L : List (Option Nat)) : (osD L).length = L.length := by simp [osD]
@[simp] theorem nsD_empty (L : List Nat) : (nsD L).isEmpty = L.isEmpty := by cases L <;> rfl
theorem nsD_get (L : List Nat) (i : Nat) : (nsD L)[i]? = (L[i]?).map nD := by simp [nsD]
theorem ixN_of {n k : Nat} (h : k < n) : ixN n (k : Int) = some k := by
  unfold ixN
  rw [if_pos (by omega), if_pos (by omega)]
  simp
theorem seqIx_of {n k : Nat} (h : k < n) : seqIndex? (k : Int) n = some k := (ixN_seq (ixN_of h)).1
theorem atI_k {xs : List D} {k : Nat} {d : D} (h : xs[k]? = some d) : atI xs (k : Int) = some d := atI_nat h
/-- the one told ahead in a row that comes round -/
def prevOf (p : List Nat) (i : Nat) : Nat := if i = 0 then p.getD (p.length - 1) 0 else p.getD (i - 1) 0
theorem atI_prev {p : List Nat} {i : Nat} (h : i < p.length) : atI (nsD p) ((i : Int) - 1) = some (nD (prevOf p i)) := by
  unfold prevOf
  by_cases c : i = 0
  · subst c
    rw [if_pos rfl]
    unfold atI ixN
    have h1 : ¬ (0 ≤ ((0 : Nat) : Int) - 1) := by omega
    have h2 : -((nsD p).length : Int) ≤ ((0 : Nat) : Int) - 1 := by rw [nsD_len]; omega
    rw [if_neg h1, if_pos h2]
    have h3 : (((0 : Nat) : Int) - 1 + ((nsD p).length : Int)).toNat = p.length - 1 := by rw [nsD_len]; omega
    rw [h3]
    show (nsD p)[p.length - 1]? = _
    rw [nsD_get, List.getElem?_eq_getElem (by omega : p.length - 1 < p.length)]
    simp [List.getD, List.getElem?_eq_getElem (by omega : p.length - 1 < p.length)]
  · rw [if_neg c]
    have h3 : (i : Int) - 1 = ((i - 1 : Nat) : Int) := by omega
    rw [h3]
    refine atI_k ?_
    rw [nsD_get, List.getElem?_eq_getElem (by omega : i - 1 < p.length)]
    simp [List.getD, List.getElem?_eq_getElem (by omega : i - 1 < p.length)]
theorem prev_mem {p : List Nat} {i : Nat} (h : i < p.length) : prevOf p i ∈ p := by
  unfold prevOf
  split
  · simp [List.getD, List.getElem?_eq_getElem (by omega : p.length - 1 < p.length)]
  · simp [List.getD, List.getElem?_eq_getElem (by omega : i - 1 < p.length)]
theorem getD_inj {p : List Nat} (hn : p.Nodup) {i j : Nat} (hi : i < p.length) (hj : j < p.length) (h : p.getD i 0 = p.getD j 0) : i = j := by
  simp [List.getD, List.getElem?_eq_getElem hi, List.getElem?_eq_getElem hj] at h
  have pw := List.pairwise_iff_getElem.1 hn
  rcases Nat.lt_trichotomy i j with c | c | c
  · exact absurd h (pw i j hi hj c)
  · exact c
  · exact absurd h.symm (pw j i hj hi c)
theorem prev_inj {p : List Nat} (hn : p.Nodup) {i j : Nat} (hi : i < p.length) (hj : j < p.length) (h : prevOf p i = prevOf p j) : i = j := by
  unfold prevOf at h
  by_cases c : i = 0
  · rw [if_pos c] at h
    by_cases d : j = 0
    · omega
    · rw [if_neg d] at h
      have := getD_inj hn (by omega) (by omega) h
      omega
  · rw [if_neg c] at h
    by_cases d : j = 0
    · rw [if_pos d] at h
      have := getD_inj hn (by omega) (by omega) h
      omega
    · rw [if_neg d] at h
      have := getD_inj hn (by omega) (by omega) h
      omega
/-- a row that was told to come round, does -/
theorem round_perm {p on : List Nat} (hn : p.Nodup) (h : ∀ i, i < p.length → on[prevOf p i]? = some (p.getD i 0)) : (p.map fun x => on.getD x 0).Perm p := by
  have e : (p.map fun x => on.getD x 0) = p.drop 1 ++ p.take 1 := by
    apply List.ext_getElem
    · simp; omega
    · intro j h1 h2
      simp only [List.length_map] at h1
      rw [List.getElem_map]
      by_cases c : j + 1 < p.length
      · have := h (j + 1) c
        unfold prevOf at this
        rw [if_neg (by omega), Nat.add_sub_cancel] at this
        simp only [List.getD, List.getElem?_eq_getElem h1, List.getElem?_eq_getElem c, Option.getD_some] at this
        rw [List.getElem_append_left (by simp; omega)]
        simp only [List.getD, this, Option.getD_some, List.getElem_drop]
        congr 1
        omega
      · have := h 0 (by omega)
        unfold prevOf at this
        rw [if_pos rfl] at this
        have e1 : p.length - 1 = j := by omega
        rw [e1] at this
        simp only [List.getD, List.getElem?_eq_getElem h1, Option.getD_some] at this
        rw [List.getElem?_eq_getElem (show 0 < p.length by omega), Option.getD_some] at this
        rw [List.getElem_append_right (by simp; omega)]
        simp only [List.getD, this, Option.getD_some, List.getElem_take]
        congr 1
        simp
        omega
  rw [e]
  have := List.perm_append_comm (l₁ := p.drop 1) (l₂ := p.take 1)
  rw [List.take_append_drop] at this
  exact this
theorem map_range_getD (on : List Nat) : (List.range on.length).map (fun x => on.getD x 0) = on := by
  apply List.ext_getElem
  · simp
  · intro i h1 h2
    simp [List.getD, List.getElem?_eq_getElem h2]
structure SkinP (n : Nat) (on : List Nat) (ms : List (Option Nat)) : Prop where
  perm : on.Perm (List.range n)
  len : ms.length = n
  mate : ∀ i j : Nat, ms[i]? = some (some j) → j < n ∧ j ≠ i ∧ ms[j]? = some (some i)
structure SkM (n : Nat) (ms : List (Option Nat)) (wt : List Nat) : Prop where
  len : ms.length = n
  nod : wt.Nodup
  lew : wt.length ≤ n
  lone : ∀ x, x ∈ wt → x < n ∧ ms[x]? = some none
  mate : ∀ i j : Nat, ms[i]? = some (some j) → j < n ∧ j ≠ i ∧ ms[j]? = some (some i)
theorem SkM.put {n : Nat} {ms : List (Option Nat)} {wt : List Nat} (h : SkM n ms wt) {a b : Nat} (ha : a ∉ wt) (hb : b ∉ wt) (hab : a ≠ b) (la : a < n) (lb : b < n) (na : ms[a]? = some none) (nb : ms[b]? = some none) : SkM n ((ms.set a (some b)).set b (some a)) wt where
  len := by simp [h.len]
  nod := h.nod
  lew := h.lew
  lone := fun x hx => by
    have := h.lone x hx
    refine ⟨this.1, ?_⟩
    have xb : b ≠ x := fun e => hb (by rw [e]; exact hx)
    have xa : a ≠ x := fun e => ha (by rw [e]; exact hx)
    rw [List.getElem?_set_ne xb, List.getElem?_set_ne xa]
    exact this.2
  mate := fun i j hij => by
    have l1 : a < ms.length := by rw [h.len]; exact la
    have l2 : b < (ms.set a (some b)).length := by simp [h.len, lb]
    by_cases c : i = b
    · subst c
      rw [List.getElem?_set_self l2] at hij
      cases hij
      refine ⟨la, hab, ?_⟩
      rw [List.getElem?_set_ne (Ne.symm hab), List.getElem?_set_self l1]
    · rw [List.getElem?_set_ne (Ne.symm c)] at hij
      by_cases d : i = a
      · subst d
        rw [List.getElem?_set_self l1] at hij
        cases hij
        exact ⟨lb, Ne.symm c, by rw [List.getElem?_set_self l2]⟩
      · rw [List.getElem?_set_ne (Ne.symm d)] at hij
        obtain ⟨x, y, z⟩ := h.mate i j hij
        have ja : j ≠ a := fun e => by rw [e, na] at z; cases z
        have jb : j ≠ b := fun e => by rw [e, nb] at z; cases z
        refine ⟨x, y, ?_⟩
        rw [List.getElem?_set_ne (Ne.symm jb), List.getElem?_set_ne (Ne.symm ja)]
        exact z
theorem SkM.drop {n : Nat} {ms : List (Option Nat)} {wt : List Nat} (h : SkM n ms wt) (k : Nat) : SkM n ms (wt.eraseIdx k) :=
  ⟨h.len, h.nod.sublist (List.eraseIdx_sublist _ _), Nat.le_trans (List.eraseIdx_sublist _ _).length_le h.lew, fun x hx => h.lone x ((List.eraseIdx_sublist _ _).subset hx), h.mate⟩
theorem erase_out {wt : List Nat} (h : wt.Nodup) {k : Nat} (hk : k < wt.length) : wt[k] ∉ wt.eraseIdx k := fun hx => by
  rw [List.mem_eraseIdx_iff_getElem] at hx
  obtain ⟨i, hi, hik, e⟩ := hx
  have pw := List.pairwise_iff_getElem.1 h
  rcases Nat.lt_or_gt_of_ne hik with c | c
  · exact pw i k hi hk c e
  · exact pw k i hk hi c e.symm
end LW
set_option Elab.async false
set_option linter.all false
set_option autoImplicit false
namespace NT
open PySem L2 DL LW
inductive N (α : Type) where
  | ok (a : α)
  | ex (x : Xc)
  | stuck
inductive Ct (σ l ρ : Type) where
  | nx (s : σ)
  | rt (r : ρ)
  | bk (s : l)
  | ct (s : l)
  | ex (x : Xc)
  | stuck
section
variable {α β σ τ l ρ : Type}
def N.bd (m : N α) (k : α → N β) : N β := match m with
  | .ok a => k a
  | .ex x => .ex x
  | .stuck => .stuck
def N.ct (m : N α) (k : α → Ct σ l ρ) : Ct σ l ρ := match m with
  | .ok a => k a
  | .ex x => .ex x
  | .stuck => .stuck
def Ct.sq (m : Ct σ l ρ) (k : σ → Ct τ l ρ) : Ct τ l ρ := match m with
  | .nx s => k s
  | .rt r => .rt r
  | .bk s => .bk s
  | .ct s => .ct s
  | .ex x => .ex x
  | .stuck => .stuck
/-- a def's answer: what it returns -/
def Ct.fn (m : Ct σ l ρ) : N ρ := match m with
  | .rt r => .ok r
  | .ex x => .ex x
  | _ => .stuck
/-- the answer of a def that returns nothing: what it leaves -/
def Ct.fp (m : Ct ρ l ρ) : N ρ := match m with
  | .nx r => .ok r
  | .rt r => .ok r
  | .ex x => .ex x
  | _ => .stuck
def ofO (o : Option α) : N α := match o with
  | some a => .ok a
  | none => .stuck
def gd (b : Bool) : N Unit := match b with
  | true => .ok ()
  | false => .stuck
def optC {γ : Type} (x : Option α) (a : γ) (b : α → γ) : γ := match x with
  | none => a
  | some y => b y
@[simp] theorem bd_ok (a : α) (k : α → N β) : (N.ok a).bd k = k a := rfl
@[simp] theorem bd_ex (x : Xc) (k : α → N β) : (N.ex x : N α).bd k = .ex x := rfl
@[simp] theorem bd_stuck (k : α → N β) : (N.stuck : N α).bd k = .stuck := rfl
@[simp] theorem ct_ok (a : α) (k : α → Ct σ l ρ) : (N.ok a).ct k = k a := rfl
@[simp] theorem ct_ex (x : Xc) (k : α → Ct σ l ρ) : (N.ex x : N α).ct k = .ex x := rfl
@[simp] theorem ct_stuck (k : α → Ct σ l ρ) : (N.stuck : N α).ct k = .stuck := rfl
@[simp] theorem sq_nx (s : σ) (k : σ → Ct τ l ρ) : (Ct.nx s : Ct σ l ρ).sq k = k s := rfl
@[simp] theorem sq_rt (s : ρ) (k : σ → Ct τ l ρ) : (Ct.rt s : Ct σ l ρ).sq k = .rt s := rfl
@[simp] theorem sq_bk (s : l) (k : σ → Ct τ l ρ) : (Ct.bk s : Ct σ l ρ).sq k = .bk s := rfl
@[simp] theorem sq_ct (s : l) (k : σ → Ct τ l ρ) : (Ct.ct s : Ct σ l ρ).sq k = .ct s := rfl
@[simp] theorem sq_ex (s : Xc) (k : σ → Ct τ l ρ) : (Ct.ex s : Ct σ l ρ).sq k = .ex s := rfl
@[simp] theorem sq_stuck (k : σ → Ct τ l ρ) : (Ct.stuck : Ct σ l ρ).sq k = .stuck := rfl
@[simp] theorem sq_Nct (m : N α) (k : α → Ct σ l ρ) (j : σ → Ct τ l ρ) : (m.ct k).sq j = m.ct fun a => (k a).sq j := by cases m <;> rfl
@[simp] theorem fn_rt (r : ρ) : (Ct.rt r : Ct σ l ρ).fn = .ok r := rfl
@[simp] theorem fn_ex (r : Xc) : (Ct.ex r : Ct σ l ρ).fn = .ex r := rfl
@[simp] theorem fn_stuck : (Ct.stuck : Ct σ l ρ).fn = .stuck := rfl
@[simp] theorem fn_Nct (m : N α) (k : α → Ct σ l ρ) : (m.ct k).fn = m.bd fun a => (k a).fn := by cases m <;> rfl
@[simp] theorem fp_rt (r : ρ) : (Ct.rt r : Ct ρ l ρ).fp = .ok r := rfl
@[simp] theorem fp_nx (r : ρ) : (Ct.nx r : Ct ρ l ρ).fp = .ok r := rfl
@[simp] theorem fp_ex (r : Xc) : (Ct.ex r : Ct ρ l ρ).fp = .ex r := rfl
@[simp] theorem fp_stuck : (Ct.stuck : Ct ρ l ρ).fp = .stuck := rfl
@[simp] theorem fp_Nct (m : N α) (k : α → Ct ρ l ρ) : (m.ct k).fp = m.bd fun a => (k a).fp := by cases m <;> rfl
@[simp] theorem ofO_some (a : α) : ofO (some a) = .ok a := rfl
@[simp] theorem ofO_none : ofO (none : Option α) = .stuck := rfl
@[simp] theorem gd_true : gd true = .ok () := rfl
@[simp] theorem gd_false : gd false = .stuck := rfl
@[simp] theorem optC_none {γ : Type} (a : γ) (b : α → γ) : optC none a b = a := rfl
@[simp] theorem optC_some {γ : Type} (x : α) (a : γ) (b : α → γ) : optC (some x) a b = b x := rfl
@[simp] theorem fn_ite (c : Prop) [Decidable c] (a b : Ct σ l ρ) : (if c then a else b).fn = if c then a.fn else b.fn := by split <;> rfl
@[simp] theorem fp_ite (c : Prop) [Decidable c] (a b : Ct ρ l ρ) : (if c then a else b).fp = if c then a.fp else b.fp := by split <;> rfl
@[simp] theorem sq_ite (c : Prop) [Decidable c] (a b : Ct σ l ρ) (k : σ → Ct τ l ρ) : (if c then a else b).sq k = if c then a.sq k else b.sq k := by split <;> rfl
@[simp] theorem fn_opt (x : Option α) (a : Ct σ l ρ) (b : α → Ct σ l ρ) : (optC x a b).fn = optC x a.fn fun y => (b y).fn := by cases x <;> rfl
@[simp] theorem sq_opt (x : Option α) (a : Ct σ l ρ) (b : α → Ct σ l ρ) (k : σ → Ct τ l ρ) : (optC x a b).sq k = optC x (a.sq k) fun y => (b y).sq k := by cases x <;> rfl
def Ct.again (r : Ct σ σ ρ) (k : σ → Ct σ l ρ) : Ct σ l ρ := match r with
  | .nx s => k s
  | .ct s => k s
  | .bk s => .nx s
  | .rt r => .rt r
  | .ex x => .ex x
  | .stuck => .stuck
def forC (body : α → σ → Ct σ σ ρ) : List α → σ → Ct σ l ρ
  | [], s => .nx s
  | a :: as, s => (body a s).again (forC body as)
def whileC (t : σ → N Bool) (body : σ → Ct σ σ ρ) : Nat → σ → Ct σ l ρ
  | 0, _ => .stuck
  | n + 1, s => (t s).ct fun b => if b = true then (body s).again (whileC t body n) else .nx s
@[simp] theorem again_nx (s : σ) (k : σ → Ct σ l ρ) : (Ct.nx s : Ct σ σ ρ).again k = k s := rfl
@[simp] theorem again_ct (s : σ) (k : σ → Ct σ l ρ) : (Ct.ct s : Ct σ σ ρ).again k = k s := rfl
@[simp] theorem again_bk (s : σ) (k : σ → Ct σ l ρ) : (Ct.bk s : Ct σ σ ρ).again k = .nx s := rfl
@[simp] theorem again_rt (s : ρ) (k : σ → Ct σ l ρ) : (Ct.rt s : Ct σ σ ρ).again k = .rt s := rfl
@[simp] theorem again_ex (s : Xc) (k : σ → Ct σ l ρ) : (Ct.ex s : Ct σ σ ρ).again k = .ex s := rfl
@[simp] theorem again_stuck (k : σ → Ct σ l ρ) : (Ct.stuck : Ct σ σ ρ).again k = .stuck := rfl
@[simp] theorem forC_nil (body : α → σ → Ct σ σ ρ) (s : σ) : (forC body [] s : Ct σ l ρ) = .nx s := rfl
@[simp] theorem forC_cons (body : α → σ → Ct σ σ ρ) (a : α) (as : List α) (s : σ) : (forC body (a :: as) s : Ct σ l ρ) = (body a s).again (forC body as) := rfl
/-- a loop that goes through -/
theorem forC_ok {body : α → σ → Ct σ σ ρ} (I : Nat → σ → Prop) : ∀ (as : List α) (n : Nat) (s : σ), I n s → (∀ i a s, as[i]? = some a → I (n + i) s → ∃ s', (body a s = .nx s' ∨ body a s = .ct s') ∧ I (n + i + 1) s') → ∃ s', (forC body as s : Ct σ l ρ) = .nx s' ∧ I (n + as.length) s'
  | [], n, s, h0, _ => ⟨s, rfl, h0⟩
  | a :: as, n, s, h0, h => by
    obtain ⟨s1, e, h1⟩ := h 0 a s rfl h0
    obtain ⟨s2, e2, h2⟩ := forC_ok I as (n + 1) s1 h1 fun i a s hi hp => by
      have := h (i + 1) a s (by simpa using hi) (by rw [show n + (i + 1) = n + 1 + i by omega]; exact hp)
      rw [show n + 1 + i + 1 = n + (i + 1) + 1 by omega]
      exact this
    refine ⟨s2, ?_, by rw [List.length_cons, show n + (as.length + 1) = n + 1 + as.length by omega]; exact h2⟩
    rw [forC_cons]
    rcases e with e | e <;> rw [e] <;> exact e2
theorem for_ok {body : α → σ → Ct σ σ ρ} (I : Nat → σ → Prop) (as : List α) (s : σ) (h0 : I 0 s) (h : ∀ i a s, as[i]? = some a → I i s → ∃ s', (body a s = .nx s' ∨ body a s = .ct s') ∧ I (i + 1) s') : ∃ s', (forC body as s : Ct σ l ρ) = .nx s' ∧ I as.length s' := by
  have := forC_ok (l := l) I as 0 s h0 (fun i a s hi hp => by rw [Nat.zero_add] at hp ⊢; exact h i a s hi hp)
  rwa [Nat.zero_add] at this
/-- a loop that may end early: by what it returns -/
theorem forC_ret {body : α → σ → Ct σ σ ρ} (I : Nat → σ → Prop) (R : ρ → Prop) : ∀ (as : List α) (n : Nat) (s : σ), I n s → (∀ i a s, as[i]? = some a → I (n + i) s → (∃ s', (body a s = .nx s' ∨ body a s = .ct s') ∧ I (n + i + 1) s') ∨ ∃ r, body a s = .rt r ∧ R r) → (∃ s', (forC body as s : Ct σ l ρ) = .nx s' ∧ I (n + as.length) s') ∨ ∃ r, (forC body as s : Ct σ l ρ) = .rt r ∧ R r
  | [], n, s, h0, _ => .inl ⟨s, rfl, h0⟩
  | a :: as, n, s, h0, h => by
    rcases h 0 a s rfl h0 with ⟨s1, e, h1⟩ | ⟨r, e, hr⟩
    · have ih := forC_ret I R as (n + 1) s1 h1 fun i a s hi hp => by
        have := h (i + 1) a s (by simpa using hi) (by rw [show n + (i + 1) = n + 1 + i by omega]; exact hp)
        rw [show n + 1 + i + 1 = n + (i + 1) + 1 by omega]
        exact this
      have e3 : (forC body (a :: as) s : Ct σ l ρ) = forC body as s1 := by
        rw [forC_cons]
        rcases e with e | e <;> rw [e] <;> rfl
      rw [e3, List.length_cons, show n + (as.length + 1) = n + 1 + as.length by omega]
      exact ih
    · right
      refine ⟨r, ?_, hr⟩
      rw [forC_cons, e]
      rfl
theorem for_ret {body : α → σ → Ct σ σ ρ} (I : Nat → σ → Prop) (R : ρ → Prop) (as : List α) (s : σ) (h0 : I 0 s) (h : ∀ i a s, as[i]? = some a → I i s → (∃ s', (body a s = .nx s' ∨ body a s = .ct s') ∧ I (i + 1) s') ∨ ∃ r, body a s = .rt r ∧ R r) : (∃ s', (forC body as s : Ct σ l ρ) = .nx s' ∧ I as.length s') ∨ ∃ r, (forC body as s : Ct σ l ρ) = .rt r ∧ R r := by
  have := forC_ret (l := l) I R as 0 s h0 (fun i a s hi hp => by rw [Nat.zero_add] at hp ⊢; exact h i a s hi hp)
  rwa [Nat.zero_add] at this
/-- a while loop: m tells how often it goes on at most -/
theorem while_ok {t : σ → N Bool} {body : σ → Ct σ σ ρ} (I : Nat → σ → Prop) (Z : σ → Prop) : ∀ (f m : Nat) (s : σ), m < f → I m s → (∀ m s, I m s → (t s = .ok false ∧ Z s) ∨ (t s = .ok true ∧ ∃ s' k, (body s = .nx s' ∨ body s = .ct s') ∧ k < m ∧ I k s')) → ∃ s', (whileC t body f s : Ct σ l ρ) = .nx s' ∧ Z s'
  | 0, m, s, hm, _, _ => by omega
  | f + 1, m, s, hm, h0, h => by
    rcases h m s h0 with ⟨e, z⟩ | ⟨e, s', k, e2, hk, hI⟩
    · exact ⟨s, by simp [whileC, e], z⟩
    · obtain ⟨s2, e3, z⟩ := while_ok I Z f k s' (by omega) hI h
      refine ⟨s2, ?_, z⟩
      rcases e2 with e2 | e2 <;> simp [whileC, e, e2, e3]
def compN (f : α → N (Option β)) : List α → N (List β)
  | [] => .ok []
  | a :: as => match f a with
    | .ok none => compN f as
    | .ok (some b) => match compN f as with
      | .ok bs => .ok (b :: bs)
      | _ => .stuck
    | _ => .stuck
@[simp] theorem compN_nil (f : α → N (Option β)) : compN f [] = .ok [] := rfl
end
abbrev eI : Int → D := PyData.int
abbrev eB : Bool → D := PyData.bool
abbrev eS : Str → D := PyData.str
abbrev eD (d : D) : D := d
abbrev eU (_ : Unit) : D := PyData.none
section
variable {α β γ δ : Type}
def eO (f : α → D) : Option α → D
  | none => .none
  | some a => f a
abbrev eLs (f : α → D) (xs : List α) : D := .list (xs.map f)
abbrev eTs (f : α → D) (xs : List α) : D := .tuple (xs.map f)
abbrev eP2 (f : α → D) (g : β → D) (p : α × β) : D := .tuple [f p.1, g p.2]
abbrev eP3 (f : α → D) (g : β → D) (h : γ → D) (p : α × β × γ) : D := .tuple [f p.1, g p.2.1, h p.2.2]
abbrev eKv (f : α → D) (g : β → D) (kvs : List (α × β)) : List (D × D) := kvs.map fun p => (f p.1, g p.2)
end
/-- equality of what is written is equality -/
class EqE {α : Type} (f : α → D) : Prop where
  eq : ∀ a b, PyData.eqv (f a) (f b) = true ↔ a = b
/-- what is written can be compared -/
class ShE {α : Type} (f : α → D) (k : outParam Nat) : Prop where
  sh : ∀ a, shD k (f a)
class NnE {α : Type} (f : α → D) : Prop where
  nn : ∀ a, f a ≠ .none
class FlE {α : Type} (f : α → D) : Prop where
  fl : ∀ a, flatD (f a) = true
instance : NnE eI := ⟨fun _ h => by cases h⟩
instance : NnE eB := ⟨fun _ h => by cases h⟩
instance : NnE eS := ⟨fun _ h => by cases h⟩
instance {α : Type} {f : α → D} : NnE (eLs f) := ⟨fun _ h => by cases h⟩
instance {α : Type} {f : α → D} : NnE (eTs f) := ⟨fun _ h => by cases h⟩
instance {α β : Type} {f : α → D} {g : β → D} : NnE (eP2 f g) := ⟨fun _ h => by cases h⟩
instance : FlE eI := ⟨fun _ => rfl⟩
instance : FlE eB := ⟨fun _ => rfl⟩
instance : FlE eS := ⟨fun _ => rfl⟩
instance {α : Type} {f : α → D} [h : FlE f] : FlE (eO f) := ⟨fun a => by cases a; rfl; exact h.fl _⟩
instance : EqE eI := ⟨fun a b => by simp [PyData.eqv, eI]⟩
instance : EqE eB := ⟨fun a b => by simp [PyData.eqv, eB]⟩
instance : EqE eU := ⟨fun a b => by simp [PyData.eqv, eU]⟩
instance : EqE eS := ⟨fun a b => by simp [PyData.eqv, eS]⟩
instance : ShE eI 0 := ⟨fun a => shD_int 0 a⟩
instance : ShE eB 0 := ⟨fun a => shD_bool 0 a⟩
instance : ShE eU 0 := ⟨fun a => shD_none 0⟩
theorem eqv_none {d : D} (h : d ≠ .none) : PyData.eqv .none d = false ∧ PyData.eqv d .none = false := by cases d <;> first | (exact absurd rfl h) | (simp [PyData.eqv])
instance {α : Type} {f : α → D} [h : EqE f] [n : NnE f] : EqE (eO f) := ⟨fun a b => by
  cases a <;> cases b
  · simp [eO, PyData.eqv]
  · simp [eO, (eqv_none (n.nn _)).1]
  · simp [eO, (eqv_none (n.nn _)).2]
  · simp [eO, h.eq]⟩
instance {α : Type} {f : α → D} {k : Nat} [h : ShE f k] : ShE (eO f) k := ⟨fun a => by
  cases a
  · exact shD_none k
  · exact h.sh _⟩
theorem eqvAll_map {α : Type} {f : α → D} [h : EqE f] : ∀ (xs ys : List α), PyData.eqvAll (xs.map f) (ys.map f) = true ↔ xs = ys
  | [], [] => by simp [PyData.eqvAll]
  | [], _ :: _ => by simp [PyData.eqvAll]
  | _ :: _, [] => by simp [PyData.eqvAll]
  | x :: xs, y :: ys => by simp [PyData.eqvAll, h.eq, eqvAll_map xs ys]
theorem shA_map {α : Type} {f : α → D} {k : Nat} [h : ShE f k] (xs : List α) : shA k (xs.map f) := fun x hx => by
  obtain ⟨a, _, rfl⟩ := List.mem_map.1 hx
  exact h.sh a
instance {α : Type} {f : α → D} [h : EqE f] : EqE (eLs f) := ⟨fun a b => by simp [PyData.eqv, eqvAll_map]⟩
instance {α : Type} {f : α → D} [h : EqE f] : EqE (eTs f) := ⟨fun a b => by simp [PyData.eqv, eqvAll_map]⟩
instance {α : Type} {f : α → D} {k : Nat} [h : ShE f k] : ShE (eLs f) (k + 1) := ⟨fun a => shD_lst (shA_map a)⟩
instance {α : Type} {f : α → D} {k : Nat} [h : ShE f k] : ShE (eTs f) (k + 1) := ⟨fun a => shD_tup (shA_map a)⟩
theorem shA_cons {k : Nat} {x : D} {xs : List D} (h : shD k x) (g : shA k xs) : shA k (x :: xs) := fun y hy => by
  rcases List.mem_cons.1 hy with rfl | hy
  · exact h
  · exact g y hy
theorem shA_nil {k : Nat} : shA k [] := fun _ h => absurd h List.not_mem_nil
instance {α β : Type} {f : α → D} {g : β → D} [h : EqE f] [i : EqE g] : EqE (eP2 f g) := ⟨fun a b => by
  obtain ⟨a1, a2⟩ := a
  obtain ⟨b1, b2⟩ := b
  simp [PyData.eqv, PyData.eqvAll, h.eq, i.eq]⟩
instance {α β : Type} {f : α → D} {g : β → D} {k m : Nat} [h : ShE f k] [i : ShE g m] : ShE (eP2 f g) (max k m + 1) := ⟨fun a => shD_tup (shA_cons (shD_up (by omega) (h.sh _)) (shA_cons (shD_up (by omega) (i.sh _)) shA_nil))⟩
instance {α β γ : Type} {f : α → D} {g : β → D} {e : γ → D} [h : EqE f] [i : EqE g] [j : EqE e] : EqE (eP3 f g e) := ⟨fun a b => by
  obtain ⟨a1, a2, a3⟩ := a
  obtain ⟨b1, b2, b3⟩ := b
  simp [PyData.eqv, PyData.eqvAll, h.eq, i.eq, j.eq]⟩
instance {α β γ : Type} {f : α → D} {g : β → D} {e : γ → D} {k m n : Nat} [h : ShE f k] [i : ShE g m] [j : ShE e n] : ShE (eP3 f g e) (max k (max m n) + 1) := ⟨fun a => shD_tup (shA_cons (shD_up (by omega) (h.sh _)) (shA_cons (shD_up (by omega) (i.sh _)) (shA_cons (shD_up (by omega) (j.sh _)) shA_nil)))⟩
theorem eq_typed {α : Type} [DecidableEq α] {f : α → D} {k : Nat} [h : EqE f] [s : ShE f k] (a b : α) (hk : k ≤ 64 := by decide) : dEq (f a) (f b) = some (.bool (decide (a = b))) := by
  rw [dEq_of hk (s.sh a) (s.sh b)]
  congr 2
  rw [Bool.eq_iff_iff, h.eq, decide_eq_true_eq]
theorem ne_typed {α : Type} [DecidableEq α] {f : α → D} {k : Nat} [h : EqE f] [s : ShE f k] (a b : α) (hk : k ≤ 64 := by decide) : dNe (f a) (f b) = some (.bool (!decide (a = b))) := by
  rw [dNe_of hk (s.sh a) (s.sh b)]
  congr 3
  rw [Bool.eq_iff_iff, h.eq, decide_eq_true_eq]
theorem any_typed {α : Type} [DecidableEq α] {f : α → D} [h : EqE f] (xs : List α) (a : α) : ((xs.map f).any fun z => PyData.eqv z (f a)) = decide (a ∈ xs) := by
  rw [Bool.eq_iff_iff, List.any_eq_true, decide_eq_true_eq]
  constructor
  · rintro ⟨d, hd, e⟩
    obtain ⟨b, hb, rfl⟩ := List.mem_map.1 hd
    rw [h.eq] at e
    exact e ▸ hb
  · exact fun hm => ⟨f a, List.mem_map.2 ⟨a, hm, rfl⟩, (h.eq a a).2 rfl⟩
theorem all_flat {α : Type} {f : α → D} [h : FlE f] (xs : List α) : (xs.map f).all flatD = true := by
  rw [List.all_map]
  exact List.all_eq_true.2 fun a _ => h.fl a
def memB {α : Type} [DecidableEq α] (a : α) (xs : List α) : Bool := decide (a ∈ xs)
@[simp] theorem memB_eq {α : Type} [DecidableEq α] (a : α) (xs : List α) : memB a xs = decide (a ∈ xs) := rfl
theorem in_tup {α : Type} [DecidableEq α] {f : α → D} [h : EqE f] [g : FlE f] (a : α) (xs : List α) : dIn (f a) (eTs f xs) = some (.bool (memB a xs)) := by
  show (if (flatD (f a) && (xs.map f).all flatD) = true then some (PyData.bool ((xs.map f).any fun z => PyData.eqv z (f a))) else none) = _
  rw [g.fl, all_flat, any_typed]
  rfl
theorem nin_tup {α : Type} [DecidableEq α] {f : α → D} [h : EqE f] [g : FlE f] (a : α) (xs : List α) : dNotIn (f a) (eTs f xs) = some (.bool (!memB a xs)) := by
  show (if (flatD (f a) && (xs.map f).all flatD) = true then some (PyData.bool (!(xs.map f).any fun z => PyData.eqv z (f a))) else none) = _
  rw [g.fl, all_flat, any_typed]
  rfl
theorem atI_map {α : Type} (f : α → D) (xs : List α) (i : Int) : atI (xs.map f) i = (atI xs i).map f := by
  unfold atI
  rw [List.length_map]
  cases ixN xs.length i <;> simp
end NT
set_option Elab.async false
set_option linter.all false
set_option autoImplicit false
namespace NT
open PySem L2 DL LW
/-- what is known of a slot: it is so; it may be stored to; it holds nothing of its own -/
inductive Sp where
  | is (s : Sl)
  | np
  | nw
def Sp.ok : Sp → Sl → Prop
  | .is s, t => t = s
  | .np, t => DL.np t = true
  | .nw, t => t.own = false
abbrev Sps := List Sp
structure Fits (c : Sps) (e : DEnv) : Prop where
  len : c.length = e.length
  at_ : ∀ (i : Nat) x t, c[i]? = some x → e[i]? = some t → x.ok t
theorem Fits.get {c : Sps} {e : DEnv} (h : Fits c e) {i : Nat} {x : Sp} (hc : c[i]? = some x) : ∃ t, e[i]? = some t ∧ x.ok t := by
  have l := (List.getElem?_eq_some_iff.mp hc).1
  have l2 : i < e.length := by rw [← h.len]; exact l
  exact ⟨e[i], List.getElem?_eq_getElem l2, h.at_ i x _ hc (List.getElem?_eq_getElem l2)⟩
theorem Fits.is {c : Sps} {e : DEnv} (h : Fits c e) {i : Nat} {s : Sl} (hc : c[i]? = some (.is s)) : e[i]? = some s := by
  obtain ⟨t, a, b⟩ := h.get hc
  rw [a]
  exact congrArg _ b
theorem Fits.set {c : Sps} {e : DEnv} (h : Fits c e) (i : Nat) {x : Sp} {t : Sl} (hx : x.ok t) : Fits (c.set i x) (e.set i t) := by
  refine ⟨by simp [h.len], fun j y u hy hu => ?_⟩
  by_cases q : i = j
  · subst q
    have l1 : i < c.length := by have := (List.getElem?_eq_some_iff.mp hy).1; simpa using this
    have l2 : i < e.length := by rw [← h.len]; exact l1
    rw [List.getElem?_set_self l1] at hy
    rw [List.getElem?_set_self l2] at hu
    cases hy; cases hu
    exact hx
  · rw [List.getElem?_set_ne q] at hy hu
    exact h.at_ j y u hy hu
/-- less is known -/
def Wk : Sp → Sp → Prop
  | x, .is s => x = .is s
  | .is s, .np => DL.np s = true
  | .is s, .nw => s.own = false
  | .np, .np => True
  | .nw, .np => True
  | .nw, .nw => True
  | .np, .nw => False
def Sub : Sps → Sps → Prop
  | [], [] => True
  | x :: c, y :: d => Wk x y ∧ Sub c d
  | _, _ => False
theorem Wk.ok {x y : Sp} {t : Sl} (h : Wk x y) (a : x.ok t) : y.ok t := by
  cases y with
  | is s => have : x = .is s := by cases x <;> exact h
            rw [this] at a; exact a
  | np =>
    cases x with
    | is s => exact (show t = s from a) ▸ h
    | np => exact a
    | nw =>
      cases t with
      | p xs => exact absurd a (by intro z; cases z)
      | _ => rfl
  | nw =>
    cases x with
    | is s => exact (show t = s from a) ▸ h
    | np => exact h.elim
    | nw => exact a
theorem Sub.len : ∀ {c d : Sps}, Sub c d → c.length = d.length
  | [], [], _ => rfl
  | _ :: _, _ :: _, h => by rw [List.length_cons, List.length_cons, Sub.len h.2]
  | [], _ :: _, h => h.elim
  | _ :: _, [], h => h.elim
theorem Sub.at_ : ∀ {c d : Sps}, Sub c d → ∀ (i : Nat) y, d[i]? = some y → ∃ x, c[i]? = some x ∧ Wk x y
  | [], [], _, i, y, h => by simp at h
  | x :: c, y :: d, h, 0, z, hz => by simp at hz; subst hz; exact ⟨x, rfl, h.1⟩
  | x :: c, y :: d, h, i + 1, z, hz => by simpa using Sub.at_ h.2 i z (by simpa using hz)
  | [], _ :: _, h, _, _, _ => h.elim
  | _ :: _, [], h, _, _, _ => h.elim
theorem Fits.sub {c d : Sps} {e : DEnv} (h : Fits c e) (s : Sub c d) : Fits d e :=
  ⟨by rw [← s.len]; exact h.len, fun i y t hy ht => by
    obtain ⟨x, hx, w⟩ := s.at_ i y hy
    exact w.ok (h.at_ i x t hx ht)⟩
structure Qs (σ l ρ : Type) where
  nx : σ → DEnv → Prop
  lp : l → DEnv → Prop
  rt : ρ → D → DEnv → Prop
  rl : ρ → List D → DEnv → Prop
  ex : DEnv → Prop
section
variable {α β σ τ l ρ : Type}
def R (m : Ct σ l ρ) (f : Fl) (Q : Qs σ l ρ) : Prop := match m with
  | .nx s => ∃ e, f = .nx e ∧ Q.nx s e
  | .rt r => (∃ d e, f = .rt d e ∧ Q.rt r d e) ∨ ∃ d e, f = .rl d e ∧ Q.rl r d e
  | .bk s => ∃ e, f = .bk e ∧ Q.lp s e
  | .ct s => ∃ e, f = .ct e ∧ Q.lp s e
  | .ex x => ∃ e, f = .ex x e ∧ Q.ex e
  | .stuck => True
def RS (c : Sps) (f : DEnv → Fl) (m : Ct σ l ρ) (Q : Qs σ l ρ) : Prop := ∀ e, Fits c e → R m (f e) Q
def FK {A : Type} (de : DEnv → Rs A) (k : A → DEnv → Fl) : DEnv → Fl := fun e => (de e).fl k
/-- a pure form -/
def EP {A : Type} (c : Sps) (de : DEnv → Rs A) (d : A) : Prop := ∀ e, Fits c e → de e = .ok d e
variable {c : Sps} {m : Ct σ l ρ} {Q : Qs σ l ρ}
theorem rk_pure {A : Type} {de : DEnv → Rs A} {k : A → DEnv → Fl} {d : A} (h : EP c de d) (g : RS c (k d) m Q) : RS c (FK de k) m Q := fun e he => by
  show R m ((de e).fl k) Q
  rw [h e he]
  exact g e he
theorem rk_put {A : Type} {o : Option A} {z : A} {k : A → DEnv → Fl} (h : o = some z) (g : RS c (k z) m Q) : RS c (FK (put o) k) m Q := fun e he => by
  show R m ((put o e).fl k) Q
  rw [h]
  exact g e he
/-- a partial operation -/
theorem rk_opt {A : Type} {o : Option A} {n : N α} {f : α → A} {k : A → DEnv → Fl} {M : α → Ct σ l ρ} (h : ∀ a, n = .ok a → o = some (f a)) (hx : ∀ x, n ≠ .ex x) (g : ∀ a, RS c (k (f a)) (M a) Q) : RS c (FK (put o) k) (n.ct M) Q := fun e he => by
  show R (n.ct M) ((put o e).fl k) Q
  cases q : n with
  | ok a => rw [h a q]; exact g a e he
  | ex x => exact absurd q (hx x)
  | stuck => exact trivial
theorem fl_bind {A B : Type} (r : Rs A) (f : A → DEnv → Rs B) (k : B → DEnv → Fl) : (r.bind f).fl k = r.fl fun a e => (f a e).fl k := by cases r <;> rfl
theorem rk_bin {da db : DE} {f : D → D → Option D} {k : D → DEnv → Fl} (g : RS c (FK da fun x => FK db fun y => FK (put (f x y)) k) m Q) : RS c (FK (eBin f da db) k) m Q := fun e he => by
  have := g e he
  unfold FK at this ⊢
  unfold eBin
  simp only [fl_bind] at this ⊢
  exact this
theorem rk_cb {da : DA} {f : List D → Option D} {k : D → DEnv → Fl} (g : RS c (FK da fun x => FK (put (f x)) k) m Q) : RS c (FK (eCB f da) k) m Q := fun e he => by
  have := g e he
  unfold FK at this ⊢
  unfold eCB
  simp only [fl_bind] at this ⊢
  exact this
theorem rk_cl {da : DA} {f : List D → Option (List D)} {k : List D → DEnv → Fl} (g : RS c (FK da fun x => FK (put (f x)) k) m Q) : RS c (FK (eCL f da) k) m Q := fun e he => by
  have := g e he
  unfold FK at this ⊢
  unfold eCL
  simp only [fl_bind] at this ⊢
  exact this
theorem rk_binL {da db : DE} {f : D → D → Option (List D)} {k : List D → DEnv → Fl} (g : RS c (FK da fun x => FK db fun y => FK (put (f x y)) k) m Q) : RS c (FK (eBinL f da db) k) m Q := fun e he => by
  have := g e he
  unfold FK at this ⊢
  unfold eBinL
  simp only [fl_bind] at this ⊢
  exact this
theorem rk_anil {k : List D → DEnv → Fl} (g : RS c (k []) m Q) : RS c (FK aNil k) m Q := g
theorem rk_acons {de : DE} {da : DA} {k : List D → DEnv → Fl} (g : RS c (FK de fun x => FK da fun xs => k (x :: xs)) m Q) : RS c (FK (aCons de da) k) m Q := fun e he => by
  have := g e he
  unfold FK at this ⊢
  unfold aCons
  simp only [fl_bind] at this ⊢
  exact this
theorem rk_conv {f f' : DEnv → Fl} (h : ∀ e, f e = f' e) (g : RS c f' m Q) : RS c f m Q := fun e he => by rw [h e]; exact g e he
theorem rk_tup {da : DA} {k : D → DEnv → Fl} (g : RS c (FK da fun xs => FK (put (if xs.length ≤ 100000 then some (PyData.tuple xs) else none)) k) m Q) : RS c (FK (eTup da) k) m Q := rk_conv (fun e => by
  unfold FK eTup
  cases da e with
  | ok xs e1 =>
    show (if xs.length ≤ 100000 then Rs.ok (PyData.tuple xs) e1 else .stuck).fl k = (put (if xs.length ≤ 100000 then some (PyData.tuple xs) else none) e1).fl k
    split <;> rfl
  | ex _ _ => rfl
  | stuck => rfl) g
theorem rk_lst {da : DA} {k : List D → DEnv → Fl} (g : RS c (FK da fun xs => FK (put (if xs.length ≤ 100000 then some xs else none)) k) m Q) : RS c (FK (lLst da) k) m Q := rk_conv (fun e => by
  unfold FK lLst
  cases da e with
  | ok xs e1 =>
    show (if xs.length ≤ 100000 then Rs.ok xs e1 else .stuck).fl k = (put (if xs.length ≤ 100000 then some xs else none) e1).fl k
    split <;> rfl
  | ex _ _ => rfl
  | stuck => rfl) g
theorem rk_elst {da : DA} {k : D → DEnv → Fl} (g : RS c (FK da fun xs => k (.list xs)) m Q) : RS c (FK (eLst da) k) m Q := fun e he => by
  have := g e he
  unfold FK at this ⊢
  unfold eLst
  simp only [fl_bind] at this ⊢
  exact this
end
end NT
set_option Elab.async false
set_option linter.all false
set_option autoImplicit false
namespace NT
open PySem L2 DL LW
section
variable {c : Sps} {A B : Type}
theorem ep_var {i : Nat} {d : D} (h : c[i]? = some (.is (.v d)) := by rfl) : EP c (eVar i) d := fun e he => by
  unfold eVar
  rw [he.is h]
theorem ep_C {d : D} : EP c (eC d) d := fun _ _ => rfl
theorem ep_bin {da db : DE} {f : D → D → Option D} {x y z : D} (ha : EP c da x) (hb : EP c db y) (hf : f x y = some z := by rfl) : EP c (eBin f da db) z := fun e he => by
  unfold eBin
  rw [ha e he, bind_ok, hb e he, bind_ok, hf]
  rfl
theorem ep_cb {da : DA} {f : List D → Option D} {x : List D} {z : D} (ha : EP c da x) (hf : f x = some z := by rfl) : EP c (eCB f da) z := fun e he => by
  unfold eCB
  rw [ha e he, bind_ok, hf]
  rfl
theorem ep_anil : EP c aNil [] := fun _ _ => rfl
theorem ep_acons {de : DE} {da : DA} {x : D} {xs : List D} (ha : EP c de x) (hb : EP c da xs) : EP c (aCons de da) (x :: xs) := fun e he => by
  unfold aCons
  rw [ha e he, bind_ok, hb e he]
  rfl
theorem ep_tup {da : DA} {xs : List D} (ha : EP c da xs) (h : Nat.ble xs.length 100000 = true := by rfl) : EP c (eTup da) (.tuple xs) := fun e he => by
  unfold eTup
  rw [ha e he, bind_ok, if_pos (Nat.le_of_ble_eq_true h)]
theorem ep_lst {da : DA} {xs : List D} (ha : EP c da xs) (h : Nat.ble xs.length 100000 = true := by rfl) : EP c (lLst da) xs := fun e he => by
  unfold lLst
  rw [ha e he, bind_ok, if_pos (Nat.le_of_ble_eq_true h)]
theorem ep_elst {da : DA} {xs : List D} (ha : EP c da xs) : EP c (eLst da) (.list xs) := fun e he => by
  unfold eLst
  rw [ha e he, bind_ok]
theorem ep_tst {de : DE} {b : Bool} (ha : EP c de (.bool b)) : EP c (tTst de) b := fun e he => by
  unfold tTst
  rw [ha e he, bind_ok]
theorem ep_notT {t : DT} {b : Bool} (ha : EP c t b) : EP c (tNotD t) (!b) := fun e he => by
  unfold tNotD
  rw [ha e he, bind_ok]
theorem ep_orT {t u : DT} {a b : Bool} (ha : EP c t a) (hb : EP c u b) : EP c (tOrD t u) (a || b) := fun e he => by
  unfold tOrD
  rw [ha e he, bind_ok]
  cases a
  · exact hb e he
  · rfl
theorem ep_not {da : DE} {b : Bool} (ha : EP c da (.bool b)) : EP c (eNot da) (.bool (!b)) := fun e he => by
  unfold eNot
  rw [ha e he, bind_ok]
theorem ep_and {da db : DE} {a b : Bool} (ha : EP c da (.bool a)) (hb : EP c db (.bool b)) : EP c (eAnd da db) (.bool (a && b)) := fun e he => by
  unfold eAnd
  rw [ha e he, bind_ok]
  cases a
  · rfl
  · exact hb e he
theorem ep_if {α : Type} {f : α → D} {t : DT} {da db : DE} {b : Bool} {x y : α} (ht : EP c t b) (ha : EP c da (f x)) (hb : EP c db (f y)) : EP c (eIf t da db) (f (if b = true then x else y)) := fun e he => by
  unfold eIf
  rw [ht e he, bind_ok]
  cases b
  · exact hb e he
  · exact ha e he
def slotD (c : Sps) (i : Nat) : Option D := match c[i]? with
  | some (.is (.v d)) => some d
  | some (.is (.l xs)) => some (.list xs)
  | some (.is (.p xs)) => some (.list xs)
  | _ => none
def slotL (c : Sps) (i : Nat) : Option (List D) := match c[i]? with
  | some (.is (.l xs)) => some xs
  | some (.is (.p xs)) => some xs
  | some (.is (.v (.list xs))) => some xs
  | _ => none
theorem slotD_at {i : Nat} {d : D} (h : slotD c i = some d) {e : DEnv} (he : Fits c e) : known i e = true ∧ ∀ k, ixAt i k e = put (dIx d k) e := by
  unfold slotD at h
  split at h <;> cases h
  all_goals
    rename_i q
    have := he.is q
    exact ⟨by unfold known; rw [this], fun k => by unfold ixAt; rw [this]⟩
theorem slotL_at {i : Nat} {xs : List D} (h : slotL c i = some xs) {e : DEnv} (he : Fits c e) : seeL i e = some xs := by
  unfold slotL at h
  split at h <;> cases h
  all_goals
    rename_i q
    have := he.is q
    unfold seeL
    rw [this]
theorem ep_ixN {i : Nat} {db : DE} {d k z : D} (hb : EP c db k) (hf : dIx d k = some z := by rfl) (h : slotD c i = some d := by rfl) : EP c (eIxN i db) z := fun e he => by
  obtain ⟨a, b⟩ := slotD_at h he
  unfold eIxN
  rw [a, if_pos rfl, hb e he, bind_ok, b, hf]
  rfl
theorem ep_lenO {α : Type} {f : α → D} {xs : List α} {i : Nat} (h : slotL c i = some (xs.map f) := by rfl) : EP c (eLenO i) (eI xs.length) := fun e he => by
  unfold eLenO
  rw [slotL_at h he]
  simp
theorem ep_tupO {xs : List D} {i : Nat} (h : slotL c i = some xs := by rfl) : EP c (eTupO i) (.tuple xs) := fun e he => by
  unfold eTupO
  rw [slotL_at h he]
theorem ep_isi {T : String} {de : DE} {d : D} {b : Bool} (ha : EP c de d) (h : isiD T d = some (.bool b)) : EP c (eIsi T de) (.bool b) := fun e he => by
  unfold eIsi
  rw [ha e he, bind_ok, h]
  rfl
theorem ep_chain {f g : D → D → Option D} {da db dc : DE} {x y z : D} {a b : Bool} (ha : EP c da x) (hb : EP c db y) (hc : EP c dc z) (h1 : f x y = some (.bool a) := by rfl) (h2 : g y z = some (.bool b) := by rfl) : EP c (eChain f g da db dc) (.bool (a && b)) := fun e he => by
  unfold eChain
  rw [ha e he, bind_ok, hb e he, bind_ok, h1]
  cases a
  · rfl
  · show (dc e).bind _ = _
    rw [hc e he, bind_ok, h2]
    rfl
def EPp (c : Sps) (p : Pt) (o : Option Int) : Prop := ∀ e, Fits c e → p.run e = .ok o e
theorem ep_ptN : EPp c .no none := fun _ _ => rfl
theorem ep_ptS {de : DE} {i : Int} (h : EP c de (.int i)) : EPp c (.of de) (some i) := fun e he => by
  unfold Pt.run
  simp only [h e he]
  rfl
theorem ep_sl {de : DE} {p q : Pt} {d z : D} {lo hi : Option Int} (ha : EP c de d) (hp : EPp c p lo) (hq : EPp c q hi) (h : dSl d lo hi = some z := by rfl) : EP c (eSl de p q) z := fun e he => by
  unfold eSl
  rw [ha e he, bind_ok, hp e he, bind_ok, hq e he, bind_ok, h]
  rfl
end
section
variable {κ β : Type} [DecidableEq κ]
def dget (kvs : List (κ × β)) (k : κ) : Option β := (kvs.find? fun p => decide (p.1 = k)).map (·.2)
def dhas (kvs : List (κ × β)) (k : κ) : Bool := kvs.any fun p => decide (p.1 = k)
def dput (kvs : List (κ × β)) (k : κ) (v : β) : List (κ × β) := if dhas kvs k then kvs.map fun p => if p.1 = k then (p.1, v) else p else kvs ++ [(k, v)]
/-- keys of a kind -/
class KeyE (f : κ → D) where
  key : κ → Key
  keyOf : ∀ k, DL.keyOf (f k) = some (key k)
  kEq : ∀ a k, DL.kEq (f a) (key k) = decide (a = k)
  kD : ∀ k, DL.kD (key k) = f k
end
instance : KeyE eI where
  key := .inl
  keyOf := fun _ => rfl
  kEq := fun a k => by simp [DL.kEq, Bool.beq_eq_decide_eq]
  kD := fun _ => rfl
instance : KeyE eS where
  key := .inr
  keyOf := fun _ => rfl
  kEq := fun a k => by simp [DL.kEq, Bool.beq_eq_decide_eq]
  kD := fun _ => rfl
section
variable {κ β : Type} [DecidableEq κ] {f : κ → D} {g : β → D} [ke : KeyE f]
theorem valD_typed (kvs : List (κ × β)) (k : κ) : valD (eKv f g kvs) (ke.key k) = (dget kvs k).map g := by
  unfold valD dget
  induction kvs with
  | nil => rfl
  | cons p r ih =>
    simp only [List.map_cons, List.find?_cons, ke.kEq]
    cases decide (p.1 = k)
    · exact ih
    · rfl
theorem has_typed (kvs : List (κ × β)) (k : κ) : (valD (eKv f g kvs) (ke.key k)).isSome = dhas kvs k := by
  rw [valD_typed]
  unfold dget dhas
  induction kvs with
  | nil => rfl
  | cons p r ih =>
    simp only [List.find?_cons, List.any_cons]
    cases decide (p.1 = k)
    · simpa using ih
    · rfl
theorem putD_typed (kvs : List (κ × β)) (k : κ) (v : β) : putD (eKv f g kvs) (ke.key k) (g v) = eKv f g (dput kvs k v) := by
  unfold putD dput
  have e : ((eKv f g kvs).any fun kv => kEq kv.1 (ke.key k)) = dhas kvs k := by
    unfold dhas
    rw [List.any_map]
    congr 1
    funext p
    exact ke.kEq _ _
  rw [e]
  cases dhas kvs k with
  | true =>
    rw [if_pos rfl, if_pos rfl]
    show List.map _ (List.map _ kvs) = List.map _ (List.map _ kvs)
    rw [List.map_map, List.map_map]
    apply List.map_congr_left
    intro p _
    simp only [Function.comp, ke.kEq, decide_eq_true_eq]
    split <;> rfl
  | false =>
    rw [if_neg (by decide), if_neg (by decide), ke.kD]
    show List.map _ kvs ++ _ = List.map _ (kvs ++ _)
    rw [List.map_append]
    rfl
end
section
variable {c : Sps}
def slotM (c : Sps) (i : Nat) : Option (List (D × D)) := match c[i]? with
  | some (.is (.m xs)) => some xs
  | some (.is (.v (.dict xs))) => some xs
  | _ => none
theorem slotM_at {i : Nat} {xs : List (D × D)} (h : slotM c i = some xs) {e : DEnv} (he : Fits c e) : seeM i e = some xs ∧ known i e = true := by
  unfold slotM at h
  split at h <;> cases h
  all_goals
    rename_i q
    have := he.is q
    exact ⟨by unfold seeM; rw [this], by unfold known; rw [this]⟩
variable {κ β : Type} [DecidableEq κ] {f : κ → D} {g : β → D} [ke : KeyE f] {kvs : List (κ × β)} {k : κ} {i : Nat} {dk : DE}
theorem ep_inM (hk : EP c dk (f k)) (h : slotM c i = some (eKv f g kvs) := by rfl) : EP c (eInM dk i) (.bool (dhas kvs k)) := fun e he => by
  unfold eInM
  rw [hk e he, bind_ok, (slotM_at h he).1, ke.keyOf]
  simp only [has_typed]
end
section
variable {α β σ τ l ρ : Type} {c : Sps} {m : Ct σ l ρ} {Q : Qs σ l ρ}
def boolOf : D → Option Bool
  | .bool b => some b
  | _ => none
theorem rk_tst {de : DE} {k : Bool → DEnv → Fl} (g : RS c (FK de fun d => FK (put (boolOf d)) k) m Q) : RS c (FK (tTst de) k) m Q := rk_conv (fun e => by
  unfold FK tTst
  cases de e with
  | ok d e1 => cases d <;> rfl
  | ex _ _ => rfl
  | stuck => rfl) g
theorem rk_notT {t : DT} {k : Bool → DEnv → Fl} (g : RS c (FK t fun b => k (!b)) m Q) : RS c (FK (tNotD t) k) m Q := rk_conv (fun e => by
  unfold FK tNotD
  cases t e <;> rfl) g
def ifF (b : Bool) (f g : DEnv → Fl) : DEnv → Fl := match b with
  | true => f
  | false => g
theorem rk_ifF {b : Bool} {f g : DEnv → Fl} {m1 m2 : Ct σ l ρ} (h1 : RS c f m1 Q) (h2 : RS c g m2 Q) : RS c (ifF b f g) (if b = true then m1 else m2) Q := by
  cases b
  · exact h2
  · exact h1
theorem rk_andT {t u : DT} {k : Bool → DEnv → Fl} (g : RS c (FK t fun b => ifF b (FK u k) (k false)) m Q) : RS c (FK (tAndD t u) k) m Q := rk_conv (fun e => by
  unfold FK tAndD
  cases t e with
  | ok b e1 => cases b <;> rfl
  | ex _ _ => rfl
  | stuck => rfl) g
theorem rk_orT {t u : DT} {k : Bool → DEnv → Fl} (g : RS c (FK t fun b => ifF b (k true) (FK u k)) m Q) : RS c (FK (tOrD t u) k) m Q := rk_conv (fun e => by
  unfold FK tOrD
  cases t e with
  | ok b e1 => cases b <;> rfl
  | ex _ _ => rfl
  | stuck => rfl) g
theorem rk_or {da db : DE} {k : D → DEnv → Fl} (g : RS c (FK da fun x => FK (put (boolOf x)) fun b => ifF b (k (.bool true)) (FK db k)) m Q) : RS c (FK (eOr da db) k) m Q := rk_conv (fun e => by
  unfold FK eOr
  cases da e with
  | ok d e1 => cases d <;> first | rfl | (rename_i b; cases b <;> rfl)
  | ex _ _ => rfl
  | stuck => rfl) g
theorem rk_ptN {k : Option Int → DEnv → Fl} (g : RS c (k none) m Q) : RS c (FK (Pt.run .no) k) m Q := g
def intOf : D → Option Int
  | .int i => some i
  | _ => none
theorem rk_ptS {de : DE} {k : Option Int → DEnv → Fl} (g : RS c (FK de fun d => FK (put (intOf d)) fun i => k (some i)) m Q) : RS c (FK (Pt.run (.of de)) k) m Q := rk_conv (fun e => by
  unfold FK Pt.run
  simp only
  cases de e with
  | ok d e1 => cases d <;> rfl
  | ex _ _ => rfl
  | stuck => rfl) g
theorem rk_sl {de : DE} {p q : Pt} {k : D → DEnv → Fl} (g : RS c (FK de fun d => FK p.run fun lo => FK q.run fun hi => FK (put (dSl d lo hi)) k) m Q) : RS c (FK (eSl de p q) k) m Q := rk_conv (fun e => by
  unfold FK eSl
  simp only [fl_bind]) g
def knownC (c : Sps) (i : Nat) : Bool := match c[i]? with
  | some (.is .no) => false
  | some (.is _) => true
  | _ => false
theorem knownC_at {i : Nat} (h : knownC c i = true) {e : DEnv} (he : Fits c e) : known i e = true := by
  unfold knownC at h
  split at h <;> first | cases h | skip
  rename_i s hn q
  have := he.is q
  unfold known
  rw [this]
  cases s <;> first | rfl | (exact (hn q).elim) | (exact (hn rfl).elim)
theorem rk_ixN {i : Nat} {db : DE} {k : D → DEnv → Fl} (g : RS c (FK db fun kk => FK (ixAt i kk) k) m Q) (h : knownC c i = true := by rfl) : RS c (FK (eIxN i db) k) m Q := fun e he => by
  have := g e he
  unfold FK at this ⊢
  unfold eIxN
  rw [knownC_at h he, if_pos rfl, fl_bind]
  exact this
theorem rk_ixAt {i : Nat} {kk d : D} {k : D → DEnv → Fl} (g : RS c (FK (put (dIx d kk)) k) m Q) (h : slotD c i = some d := by rfl) : RS c (FK (ixAt i kk) k) m Q := fun e he => by
  have := g e he
  unfold FK at this ⊢
  rw [(slotD_at h he).2]
  exact this
def idx (xs : List α) (i : Int) : N α := ofO (atI xs i)
theorem ofO_ex {o : Option α} (x : Xc) : ofO o ≠ .ex x := by cases o <;> exact fun h => by cases h
theorem ofO_ok {o : Option α} {a : α} (h : ofO o = .ok a) : o = some a := by cases o <;> cases h; rfl
theorem rk_ixT {f : α → D} {xs : List α} {i : Int} {k : D → DEnv → Fl} {M : α → Ct σ l ρ} (g : ∀ a, RS c (k (f a)) (M a) Q) : RS c (FK (put (dIx (eTs f xs) (.int i))) k) ((idx xs i).ct M) Q :=
  rk_opt (f := f) (fun a h => by show atI (xs.map f) i = _; rw [atI_map, ofO_ok h]; rfl) (fun x => ofO_ex x) g
theorem rk_ixL {f : α → D} {xs : List α} {i : Int} {k : D → DEnv → Fl} {M : α → Ct σ l ρ} (g : ∀ a, RS c (k (f a)) (M a) Q) : RS c (FK (put (dIx (eLs f xs) (.int i))) k) ((idx xs i).ct M) Q :=
  rk_opt (f := f) (fun a h => by show atI (xs.map f) i = _; rw [atI_map, ofO_ok h]; rfl) (fun x => ofO_ex x) g
def unw (x : Option α) : N α := ofO x
theorem rk_gd {A : Type} {p : Prop} [Decidable p] {a : A} {k : A → DEnv → Fl} {M : Ct σ l ρ} (g : RS c (k a) M Q) : RS c (FK (put (if p then some a else none)) k) ((gd (decide p)).ct fun _ => M) Q := fun e he => by
  unfold FK
  by_cases h : p
  · rw [if_pos h, decide_eq_true h]; exact g e he
  · rw [if_neg h, decide_eq_false h]; exact trivial
def catG (xs ys : List α) : N Unit := gd (decide (xs.length + ys.length ≤ 100000))
theorem rk_catL {f : α → D} {xs ys : List α} {k : List D → DEnv → Fl} {M : Ct σ l ρ} (g : RS c (k ((xs ++ ys).map f)) M Q) : RS c (FK (put (dCat (eLs f xs) (eLs f ys))) k) ((catG xs ys).ct fun _ => M) Q := by
  show RS c (FK (put (if (xs.map f).length + (ys.map f).length ≤ 100000 then some (xs.map f ++ ys.map f) else none)) k) _ Q
  rw [List.length_map, List.length_map, ← List.map_append]
  exact rk_gd g
noncomputable def mulN (i j : Int) : N Int := @ite _ (mulOk i j = true) (Classical.propDecidable _) (.ok (i * j)) .stuck
noncomputable def divN (i j : Int) : N Int := @ite _ (divOk j = true) (Classical.propDecidable _) (.ok (i / j)) .stuck
noncomputable def modN (i j : Int) : N Int := if 0 < j then .ok (i % j) else .stuck
noncomputable def powN (i j : Int) : N Int := @ite _ (powOk i j = true) (Classical.propDecidable _) (.ok (i ^ j.toNat)) .stuck
theorem rk_op2 {op : D → D → Option D} {p : Prop} {d1 d2 : Decidable p} {i j r : Int} {k : D → DEnv → Fl} {M : Int → Ct σ l ρ} (ho : op (.int i) (.int j) = @ite _ p d1 (some (.int r)) none) (g : ∀ z, RS c (k (eI z)) (M z) Q) : RS c (FK (put (op (.int i) (.int j))) k) ((@ite _ p d2 (NT.N.ok r) .stuck).ct M) Q := by
  rw [ho]
  by_cases h : p
  · rw [if_pos h, if_pos h]; exact g r
  · rw [if_neg h, if_neg h]; exact fun _ _ => trivial
theorem rk_mul {i j : Int} {k : D → DEnv → Fl} {M : Int → Ct σ l ρ} (g : ∀ z, RS c (k (eI z)) (M z) Q) : RS c (FK (put (dMul (eI i) (eI j))) k) ((mulN i j).ct M) Q := rk_op2 rfl g
theorem rk_div {i j : Int} {k : D → DEnv → Fl} {M : Int → Ct σ l ρ} (g : ∀ z, RS c (k (eI z)) (M z) Q) : RS c (FK (put (dFdiv (eI i) (eI j))) k) ((divN i j).ct M) Q := rk_op2 rfl g
theorem rk_mod {i j : Int} {k : D → DEnv → Fl} {M : Int → Ct σ l ρ} (g : ∀ z, RS c (k (eI z)) (M z) Q) : RS c (FK (put (dMod (eI i) (eI j))) k) ((modN i j).ct M) Q := rk_op2 rfl g
theorem rk_pow {i j : Int} {k : D → DEnv → Fl} {M : Int → Ct σ l ρ} (g : ∀ z, RS c (k (eI z)) (M z) Q) : RS c (FK (put (dPow (eI i) (eI j))) k) ((powN i j).ct M) Q := rk_op2 rfl g
/-- one of these: data compared -/
def eqN (x y : D) : N Bool := if SeqAt.shaped x = true ∧ SeqAt.shaped y = true then .ok (PyData.eqv x y) else .stuck
theorem rk_eqD {x y : D} {k : D → DEnv → Fl} {M : Bool → Ct σ l ρ} (g : ∀ b, RS c (k (eB b)) (M b) Q) : RS c (FK (put (dEq x y)) k) ((eqN x y).ct M) Q := by
  unfold dEq eqN
  by_cases h : SeqAt.shaped x = true ∧ SeqAt.shaped y = true
  · rw [if_pos h, if_pos h]; exact g _
  · rw [if_neg h, if_neg h]; exact fun _ _ => trivial
/-- any operation on data -/
theorem rk_anyD {A : Type} {o : Option A} {k : A → DEnv → Fl} {M : A → Ct σ l ρ} (g : ∀ a, RS c (k a) (M a) Q) : RS c (FK (put o) k) ((ofO o).ct M) Q := rk_opt (f := id) (fun a h => ofO_ok h) (fun x => ofO_ex x) g
def rgI (lo hi : Int) : List Int := (List.range (hi - lo).toNat).map fun k => lo + (k : Nat)
theorem rgI_D (lo hi : Int) : rngD lo hi = (rgI lo hi).map eI := by
  unfold rngD rgI
  rw [List.map_map]
  rfl
noncomputable def rngN (j : Int) : N (List Int) := if I62 j then .ok (rgI 0 j) else .stuck
noncomputable def rngL (j : Int) : N (List Int) := if IRg j then .ok (rgI 0 j) else .stuck
theorem rk_rng {da : DA} {j : Int} {k : List D → DEnv → Fl} {M : List Int → Ct σ l ρ} (ha : EP c da [eI j]) (g : ∀ xs : List Int, RS c (k (xs.map eI)) (M xs) Q) : RS c (FK (iRng1 da) k) ((rngN j).ct M) Q := fun e he => by
  unfold FK DL.iRng1 rngN
  rw [ha e he, bind_ok]
  simp only [int1]
  by_cases h : I62 j
  · rw [if_pos h, if_pos h, rgI_D]; exact g _ e he
  · rw [if_neg h, if_neg h]; exact trivial
theorem rk_lrng {de : DE} {j : Int} {k : List D → DEnv → Fl} {M : List Int → Ct σ l ρ} (ha : EP c de (eI j)) (g : ∀ xs : List Int, RS c (k (xs.map eI)) (M xs) Q) : RS c (FK (lRange1 de) k) ((rngL j).ct M) Q := fun e he => by
  unfold FK lRange1 rngL
  rw [ha e he, bind_ok]
  simp only
  by_cases h : IRg j
  · rw [if_pos h, if_pos h, rgI_D]; exact g _ e he
  · rw [if_neg h, if_neg h]; exact trivial
/-- [x] * n -/
noncomputable def repN (a : α) (n : Int) : N (List α) := if I63 n ∧ n.toNat ≤ 100000 then .ok (List.replicate n.toNat a) else .stuck
theorem rep_1 (x : D) (n : Int) : repD [x] n = List.replicate n.toNat x := by
  unfold repD
  induction n.toNat with
  | zero => rfl
  | succ n ih => rw [List.replicate_succ, List.flatten_cons, ih]; rfl
theorem rk_rep {f : α → D} {dl : DA} {dk : DE} {a : α} {n : Int} {k : List D → DEnv → Fl} {M : List α → Ct σ l ρ} (hl : EP c dl [f a]) (hk : EP c dk (eI n)) (g : ∀ xs : List α, RS c (k (xs.map f)) (M xs) Q) : RS c (FK (lRep dl dk) k) ((repN a n).ct M) Q := fun e he => by
  unfold FK lRep repN
  rw [hl e he, bind_ok, hk e he, bind_ok]
  simp only [List.length_singleton, Nat.one_mul]
  by_cases h : I63 n ∧ n.toNat ≤ 100000
  · rw [if_pos h, if_pos h, rep_1, ← List.map_replicate]; exact g _ e he
  · rw [if_neg h, if_neg h]; exact trivial
end
end NT
set_option Elab.async false
set_option linter.all false
set_option autoImplicit false
namespace NT
open PySem L2 DL LW
section
variable {α β σ τ l ρ : Type} {c : Sps} {m : Ct σ l ρ} {Q : Qs σ l ρ}
def getC (c : Sps) (i : Nat) : Option (List D) := match c[i]? with
  | some (.is (.l xs)) => some xs
  | some (.is (.p xs)) => some xs
  | _ => none
def reC (c : Sps) (i : Nat) (ys : List D) : Sps := match c[i]? with
  | some (.is (.l _)) => c.set i (.is (.l ys))
  | some (.is (.p _)) => c.set i (.is (.p ys))
  | _ => c
theorem getC_at {i : Nat} {xs : List D} (h : getC c i = some xs) {e : DEnv} (he : Fits c e) : getL i e = some xs ∧ ∀ ys, Fits (reC c i ys) (putL i ys e) := by
  unfold getC at h
  split at h <;> cases h
  all_goals
    rename_i q
    have := he.is q
    refine ⟨by unfold getL; rw [this], fun ys => ?_⟩
    unfold reC putL
    rw [this, q]
    exact he.set i rfl
def moK (i : Nat) (f : List D → List D → Option (D × List D)) (args : List D) (k : D → DEnv → Fl) : DEnv → Fl := fun e => match getL i e with
  | some xs => match f xs args with
    | some (z, ys) => k z (putL i ys e)
    | none => .stuck
  | none => .stuck
theorem rk_mo {i : Nat} {f : List D → List D → Option (D × List D)} {da : DA} {k : D → DEnv → Fl} {xs : List D} (g : RS c (FK da fun args => moK i f args k) m Q) (h : getC c i = some xs := by rfl) : RS c (FK (eMO i f da) k) m Q := fun e he => by
  have := g e he
  unfold FK at this ⊢
  unfold eMO
  rw [(getC_at h he).1, if_pos (by rfl)]
  have e2 : ∀ args e1, (match getL i e1 with
      | some xs => match f xs args with
        | some (z, ys) => Rs.ok z (putL i ys e1)
        | none => .stuck
      | none => .stuck).fl k = moK i f args k e1 := fun args e1 => by
    unfold moK
    cases getL i e1 with
    | none => rfl
    | some xs =>
      dsimp only
      cases f xs args <;> rfl
  have e3 := funext fun a => funext (e2 a)
  rw [fl_bind]
  rw [← e3] at this
  exact this
theorem rk_moX {i : Nat} {f : List D → List D → Option (D × List D)} {args : List D} {k : D → DEnv → Fl} {fe : α → D} {xs : List α} {n : N β} {v : β → D} {ys : β → List α} {M : β → Ct σ l ρ} (hf : ∀ a, n = .ok a → f (xs.map fe) args = some (v a, (ys a).map fe)) (hx : ∀ x, n ≠ .ex x) (g : ∀ a, RS (reC c i ((ys a).map fe)) (k (v a)) (M a) Q) (h : getC c i = some (xs.map fe) := by rfl) : RS c (moK i f args k) (n.ct M) Q := fun e he => by
  unfold moK
  obtain ⟨h1, h2⟩ := getC_at h he
  rw [h1]
  cases q : n with
  | ok a => simp only [hf a q]; exact g a _ (h2 _)
  | ex x => exact absurd q (hx x)
  | stuck => exact trivial
def appN (xs : List α) (a : α) : N (List α) := if xs.length < 100000 then .ok (xs ++ [a]) else .stuck
noncomputable def popAtN (xs : List α) (i : Int) : N (α × List α) := if I63 i then match seqIndex? i xs.length with
    | some k => match xs[k]? with
      | some y => .ok (y, xs.eraseIdx k)
      | none => .stuck
    | none => .stuck
  else .stuck
noncomputable def insN (xs : List α) (i : Int) (a : α) : N (List α) := if xs.length < 100000 ∧ 0 ≤ i ∧ I63 i then .ok (xs.take i.toNat ++ [a] ++ xs.drop i.toNat) else .stuck
theorem map_eraseIdx (f : α → β) : ∀ (xs : List α) (k : Nat), (xs.map f).eraseIdx k = (xs.eraseIdx k).map f
  | [], k => rfl
  | x :: xs, 0 => rfl
  | x :: xs, k + 1 => by simp [map_eraseIdx f xs k]
theorem rk_popAt {fe : α → D} {xs : List α} {i : Nat} {j : Int} {k : D → DEnv → Fl} {M : α × List α → Ct σ l ρ} (g : ∀ p : α × List α, RS (reC c i (p.2.map fe)) (k (fe p.1)) (M p) Q) (h : getC c i = some (xs.map fe) := by rfl) : RS c (moK i mPopAt [eI j] k) ((popAtN xs j).ct M) Q :=
  rk_moX (v := fun p => fe p.1) (ys := fun p => p.2) (fun p hp => by
    unfold popAtN at hp
    by_cases q : I63 j
    case neg => rw [if_neg q] at hp; cases hp
    rw [if_pos q] at hp
    cases q2 : seqIndex? j xs.length with
    | none => rw [q2] at hp; cases hp
    | some n =>
    rw [q2] at hp
    simp only at hp
    cases q3 : xs[n]? with
    | none => rw [q3] at hp; cases hp
    | some y =>
    rw [q3] at hp
    cases hp
    show (if I63 j then (match seqIndex? j (xs.map fe).length with
      | some k => match (xs.map fe)[k]? with
        | some y => some (y, (xs.map fe).eraseIdx k)
        | none => none
      | none => none) else none) = _
    rw [if_pos q, List.length_map, q2]
    simp only [List.getElem?_map, q3, Option.map_some]
    rw [map_eraseIdx]) (fun x => by
    unfold popAtN
    by_cases q : I63 j
    case neg => rw [if_neg q]; exact fun h => by cases h
    rw [if_pos q]
    cases seqIndex? j xs.length with
    | none => exact fun h => by cases h
    | some n => simp only; cases xs[n]? <;> exact fun h => by cases h) g h
theorem rk_ins {fe : α → D} {xs : List α} {a : α} {i : Nat} {j : Int} {k : D → DEnv → Fl} {M : List α → Ct σ l ρ} (g : ∀ ys, RS (reC c i (ys.map fe)) (k .none) (M ys) Q) (h : getC c i = some (xs.map fe) := by rfl) : RS c (moK i mInsert [eI j, fe a] k) ((insN xs j a).ct M) Q :=
  rk_moX (v := fun _ => .none) (ys := id) (fun ys hy => by
    unfold insN at hy
    split at hy <;> cases hy
    rename_i q
    show (if (xs.map fe).length < 100000 ∧ 0 ≤ j ∧ I63 j then some (PyData.none, (xs.map fe).take j.toNat ++ [fe a] ++ (xs.map fe).drop j.toNat) else none) = _
    rw [List.length_map, if_pos q]
    simp [List.map_take, List.map_drop]) (fun x => by unfold insN; split <;> exact fun h => by cases h) g h
def stb (c : Sps) (i : Nat) : Bool := match c[i]? with
  | some (.is s) => DL.np s
  | some _ => true
  | none => false
theorem stb_at {i : Nat} (h : stb c i = true) {e : DEnv} (he : Fits c e) (s : Sl) : setV i s e = some (e.set i s) := by
  have go : ∀ t, e[i]? = some t → DL.np t = true → setV i s e = some (e.set i s) := fun t h1 h2 => by
    unfold setV
    rw [h1]
    cases t <;> first | rfl | cases h2
  unfold stb at h
  split at h
  · rename_i q; exact go _ (he.is q) h
  · rename_i x hx q
    obtain ⟨t, a, b⟩ := he.get q
    refine go t a ?_
    cases x with
    | is s => exact absurd rfl (hx s)
    | np => exact b
    | nw => cases t with
      | p xs => exact absurd b (by intro z; cases z)
      | _ => rfl
  · cases h
/-- a target -/
def GS (c : Sps) (g : DG) (d : D) (c' : Sps) : Prop := ∀ e, Fits c e → ∃ e', g d e = some e' ∧ Fits c' e'
theorem gs_N {i : Nat} {d : D} (h : stb c i = true := by rfl) : GS c (gN i) d (c.set i (.is (.v d))) := fun e he => ⟨_, stb_at h he _, he.set i rfl⟩
def GSs (c : Sps) (gs : List DG) (ds : List D) (c' : Sps) : Prop := ∀ e, Fits c e → ∃ e', gsN gs ds e = some e' ∧ Fits c' e'
theorem gss_nil : GSs c [] [] c := fun e he => ⟨e, rfl, he⟩
theorem gss_cons {g : DG} {gs : List DG} {d : D} {ds : List D} {c1 c2 : Sps} (h : GS c g d c1) (h2 : GSs c1 gs ds c2) : GSs c (g :: gs) (d :: ds) c2 := fun e he => by
  obtain ⟨e1, a, b⟩ := h e he
  obtain ⟨e2, a2, b2⟩ := h2 e1 b
  exact ⟨e2, by unfold gsN; rw [a]; exact a2, b2⟩
theorem gs_T {gs : List DG} {ds : List D} {c' : Sps} (h : GSs c gs ds c') : GS c (gT gs) (.tuple ds) c' := fun e he => h e he
def asgK (g : DG) (b : DS) (d : D) : DEnv → Fl := fun e => (match g d e with
  | some e2 => Fl.nx e2
  | none => .stuck).seq b
theorem rs_asg {de : DE} {g : DG} {b : DS} (h : RS c (FK de (asgK g b)) m Q) : RS c (sSeq (sAsg de g) b) m Q := rk_conv (fun e => by
  unfold FK sSeq sAsg
  cases de e <;> rfl) h
theorem rk_asg {g : DG} {d : D} {b : DS} {c' : Sps} (hg : GS c g d c') (h : RS c' b m Q) : RS c (asgK g b d) m Q := fun e he => by
  obtain ⟨e', a, f⟩ := hg e he
  unfold asgK
  rw [a]
  exact h e' f
theorem rk_asgN {i : Nat} {d : D} {b : DS} (h : RS (c.set i (.is (.v d))) b m Q) (hs : stb c i = true := by rfl) : RS c (asgK (gN i) b d) m Q := rk_asg (gs_N hs) h
def asgLK (i : Nat) (b : DS) (xs : List D) : DEnv → Fl := fun e => (match setV i (.l xs) e with
  | some e2 => Fl.nx e2
  | none => .stuck).seq b
theorem rs_asgL {dl : DA} {i : Nat} {b : DS} (h : RS c (FK dl (asgLK i b)) m Q) : RS c (sSeq (sAsgL i dl) b) m Q := rk_conv (fun e => by
  unfold FK sSeq sAsgL
  cases dl e <;> rfl) h
theorem rk_asgL {i : Nat} {xs : List D} {b : DS} (h : RS (c.set i (.is (.l xs))) b m Q) (hs : stb c i = true := by rfl) : RS c (asgLK i b xs) m Q := fun e he => by
  unfold asgLK
  rw [stb_at hs he]
  exact h _ (he.set i rfl)
def asgMK (i : Nat) (b : DS) (xs : List (D × D)) : DEnv → Fl := fun e => (match setV i (.m xs) e with
  | some e2 => Fl.nx e2
  | none => .stuck).seq b
theorem rs_asgM {dm : DM} {i : Nat} {b : DS} (h : RS c (FK dm (asgMK i b)) m Q) : RS c (sSeq (sAsgM i dm) b) m Q := rk_conv (fun e => by
  unfold FK sSeq sAsgM
  cases dm e <;> rfl) h
theorem rk_asgM {i : Nat} {xs : List (D × D)} {b : DS} (h : RS (c.set i (.is (.m xs))) b m Q) (hs : stb c i = true := by rfl) : RS c (asgMK i b xs) m Q := fun e he => by
  unfold asgMK
  rw [stb_at hs he]
  exact h _ (he.set i rfl)
theorem ep_dict0 : EP c lDict0 [] := fun _ _ => rfl
def knK (i : Nat) (f : DEnv → Fl) : DEnv → Fl := fun e => if known i e = true then f e else .stuck
theorem rk_kn {i : Nat} {f : DEnv → Fl} (g : RS c f m Q) (h : knownC c i = true := by rfl) : RS c (knK i f) m Q := fun e he => by
  unfold knK
  rw [knownC_at h he, if_pos rfl]
  exact g e he
def setK (i : Nat) (v kk : D) (b : DS) : DEnv → Fl := fun e2 => (match getL i e2, kk with
  | some xs, .int n => match ixN xs.length n with
    | some j => Fl.nx (putL i (xs.set j v) e2)
    | none => .stuck
  | _, _ => .stuck).seq b
theorem rs_setO {i : Nat} {dk dv : DE} {b : DS} (g : RS c (FK dv fun v => knK i (FK dk fun kk => setK i v kk b)) m Q) : RS c (sSeq (sSetO i dk dv) b) m Q := rk_conv (fun e => by
  unfold FK sSeq sSetO
  cases dv e with
  | ok v e1 =>
    simp only [fl_ok, knK]
    cases known i e1
    · rfl
    · simp only [if_true]
      cases dk e1 <;> rfl
  | ex _ _ => rfl
  | stuck => rfl) g
def setN (xs : List α) (n : Int) (a : α) : N (List α) := match ixN xs.length n with
  | some j => .ok (xs.set j a)
  | none => .stuck
theorem rk_set {i : Nat} {fe : α → D} {a : α} {n : Int} {xs : List α} {b : DS} {M : List α → Ct σ l ρ} (g : ∀ ys : List α, RS (reC c i (ys.map fe)) b (M ys) Q) (h : getC c i = some (xs.map fe) := by rfl) : RS c (setK i (fe a) (eI n) b) ((setN xs n a).ct M) Q := fun e he => by
  obtain ⟨h1, h2⟩ := getC_at h he
  unfold setK setN
  rw [h1]
  simp only [List.length_map]
  cases ixN xs.length n with
  | none => exact trivial
  | some j => simp only [← List.map_set]; exact g _ _ (h2 _)
def putMK (i : Nat) (v kk : D) (b : DS) : DEnv → Fl := fun e2 => (match getM i e2, DL.keyOf kk with
  | some xs, some a => if xs.length < 100000 then Fl.nx (e2.set i (.m (putD xs a v))) else .stuck
  | _, _ => .stuck).seq b
theorem rs_putM {i : Nat} {dk dv : DE} {b : DS} (g : RS c (FK dv fun v => knK i (FK dk fun kk => putMK i v kk b)) m Q) : RS c (sSeq (sPutM i dk dv) b) m Q := rk_conv (fun e => by
  unfold FK sSeq sPutM
  cases dv e with
  | ok v e1 =>
    simp only [fl_ok, knK]
    cases known i e1
    · rfl
    · simp only [if_true]
      cases dk e1 <;> rfl
  | ex _ _ => rfl
  | stuck => rfl) g
def putN {κ : Type} [DecidableEq κ] (kvs : List (κ × β)) (k : κ) (v : β) : N (List (κ × β)) := if kvs.length < 100000 then .ok (dput kvs k v) else .stuck
theorem rk_putM {κ : Type} [DecidableEq κ] {f : κ → D} [ke : KeyE f] {g : β → D} {i : Nat} {kk : κ} {v : β} {kvs : List (κ × β)} {b : DS} {M : List (κ × β) → Ct σ l ρ} (h : ∀ kvs' : List (κ × β), RS (c.set i (.is (.m (eKv f g kvs')))) b (M kvs') Q) (hc : c[i]? = some (.is (.m (eKv f g kvs))) := by rfl) : RS c (putMK i (g v) (f kk) b) ((putN kvs kk v).ct M) Q := fun e he => by
  unfold putMK putN getM
  rw [he.is hc, ke.keyOf]
  simp only [List.length_map, putD_typed]
  split
  · exact h _ _ (he.set i rfl)
  · exact trivial
theorem rs_last {a : DS} (h : RS c (sSeq a sNx) m Q) : RS c a m Q := rk_conv (fun e => by
  unfold sSeq
  cases a e <;> rfl) h
theorem rs_nx {s : σ} (h : ∀ e, Fits c e → Q.nx s e) : RS c sNx (.nx s) Q := fun e he => ⟨e, rfl, h e he⟩
def retK (d : D) : DEnv → Fl := fun e => .rt d e
def retL (d : List D) : DEnv → Fl := fun e => .rl d e
def retT (b : Bool) : DEnv → Fl := fun e => .rt (.bool b) e
theorem rs_ret {de : DE} {b : DS} (h : RS c (FK de retK) m Q) : RS c (sSeq (sRet de) b) m Q := rk_conv (fun e => by
  unfold FK sSeq sRet
  cases de e <;> rfl) h
theorem rs_retL {de : DA} {b : DS} (h : RS c (FK de retL) m Q) : RS c (sSeq (sRetL de) b) m Q := rk_conv (fun e => by
  unfold FK sSeq sRetL
  cases de e <;> rfl) h
theorem rk_ret {d : D} {r : ρ} (h : ∀ e, Fits c e → Q.rt r d e) : RS c (retK d) (.rt r : Ct σ l ρ) Q := fun e he => .inl ⟨d, e, rfl, h e he⟩
theorem rk_retL {d : List D} {r : ρ} (h : ∀ e, Fits c e → Q.rl r d e) : RS c (retL d) (.rt r : Ct σ l ρ) Q := fun e he => .inr ⟨d, e, rfl, h e he⟩
theorem rk_retT {b : Bool} {r : ρ} (h : ∀ e, Fits c e → Q.rt r (.bool b) e) : RS c (retT b) (.rt r : Ct σ l ρ) Q := fun e he => .inl ⟨_, e, rfl, h e he⟩
theorem rs_drop {de : DE} {b : DS} (h : RS c (FK de fun _ => b) m Q) : RS c (sSeq (sDrop de) b) m Q := rk_conv (fun e => by
  unfold FK sSeq sDrop
  cases de e <;> rfl) h
theorem rs_if {t : DT} {a b r : DS} (h : RS c (FK t fun z => ifF z (sSeq a r) (sSeq b r)) m Q) : RS c (sSeq (sIf t a b) r) m Q := rk_conv (fun e => by
  unfold FK sSeq sIf
  cases t e with
  | ok z e1 => cases z <;> rfl
  | ex _ _ => rfl
  | stuck => rfl) h
theorem rs_if0 {t : DT} {a b : DS} (h : RS c (FK t fun z => ifF z a b) m Q) : RS c (sIf t a b) m Q := rk_conv (fun e => by
  unfold FK sIf
  cases t e with
  | ok z e1 => cases z <;> rfl
  | ex _ _ => rfl
  | stuck => rfl) h
theorem rs_nxs {b : DS} (h : RS c b m Q) : RS c (sSeq sNx b) m Q := h
theorem rs_opt {x : Option α} {cc : Option α → Sps} {f : Option α → DEnv → Fl} {QQ : Option α → Qs σ l ρ} {A : Ct σ l ρ} {B : α → Ct σ l ρ} (h0 : RS (cc none) (f none) A (QQ none)) (h1 : ∀ y, RS (cc (some y)) (f (some y)) (B y) (QQ (some y))) : RS (cc x) (f x) (optC x A B) (QQ x) := by
  cases x
  · exact h0
  · exact h1 _
theorem rs_seq {a b : DS} {m1 : Ct τ l ρ} {K : τ → Ct σ l ρ} {c1 : τ → Sps} (h : RS c a m1 { nx := fun s e => Fits (c1 s) e, lp := Q.lp, rt := Q.rt, rl := Q.rl, ex := Q.ex }) (h2 : ∀ s, RS (c1 s) b (K s) Q) : RS c (sSeq a b) (m1.sq K) Q := fun e he => by
  have h' := h e he
  unfold sSeq
  cases m1 with
  | nx s => obtain ⟨e1, q, f⟩ := h'; rw [q]; exact h2 s e1 f
  | rt r =>
    rcases h' with ⟨d, e1, q, f⟩ | ⟨d, e1, q, f⟩
    · rw [q]; exact .inl ⟨d, e1, rfl, f⟩
    · rw [q]; exact .inr ⟨d, e1, rfl, f⟩
  | bk s => obtain ⟨e1, q, f⟩ := h'; rw [q]; exact ⟨e1, rfl, f⟩
  | ct s => obtain ⟨e1, q, f⟩ := h'; rw [q]; exact ⟨e1, rfl, f⟩
  | ex s => obtain ⟨e1, q, f⟩ := h'; rw [q]; exact ⟨e1, rfl, f⟩
  | stuck => exact trivial
/-- loops -/
theorem forD_R {fe : α → D} {g : DG} {body : DS} {nb : α → σ → Ct σ σ ρ} {c0 : σ → Sps} {c1 : α → σ → Sps} (hg : ∀ a s, GS (c0 s) g (fe a) (c1 a s)) (hb : ∀ a s, RS (c1 a s) body (nb a s) { nx := fun s e => Fits (c0 s) e, lp := fun s e => Fits (c0 s) e, rt := Q.rt, rl := Q.rl, ex := Q.ex }) : ∀ (xs : List α) (s : σ), RS (c0 s) (forD g body (xs.map fe)) (forC nb xs s) { Q with nx := fun s e => Fits (c0 s) e }
  | [], s => fun e he => ⟨e, rfl, he⟩
  | a :: as, s => fun e he => by
    obtain ⟨e1, q, f1⟩ := hg a s e he
    have h' := hb a s e1 f1
    have ih := forD_R hg hb as
    show R ((nb a s).again (forC nb as)) (match g (fe a) e with
      | none => .stuck
      | some e1 => (body e1).turn (forD g body (as.map fe))) _
    rw [q]
    show R ((nb a s).again (forC nb as)) ((body e1).turn (forD g body (as.map fe))) _
    cases w : nb a s with
    | nx s => rw [w] at h'; obtain ⟨e2, q, f⟩ := h'; rw [q]; exact ih s e2 f
    | ct s => rw [w] at h'; obtain ⟨e2, q, f⟩ := h'; rw [q]; exact ih s e2 f
    | bk s => rw [w] at h'; obtain ⟨e2, q, f⟩ := h'; rw [q]; exact ⟨e2, rfl, f⟩
    | rt r =>
      rw [w] at h'
      rcases h' with ⟨d, e2, q, f⟩ | ⟨d, e2, q, f⟩
      · rw [q]; exact .inl ⟨d, e2, rfl, f⟩
      · rw [q]; exact .inr ⟨d, e2, rfl, f⟩
    | ex s => rw [w] at h'; obtain ⟨e2, q, f⟩ := h'; rw [q]; exact ⟨e2, rfl, f⟩
    | stuck => exact trivial
theorem rs_forK {di : DA} {g : DG} {body b : DS} (h : RS c (FK di fun ds => sSeq (forD g body ds) b) m Q) : RS c (sSeq (sFor di g body) b) m Q := rk_conv (fun e => by
  unfold FK sSeq sFor
  cases di e <;> rfl) h
theorem rs_for {fe : α → D} {g : DG} {body b : DS} {nb : α → τ → Ct τ τ ρ} {c0 : τ → Sps} {c1 : α → τ → Sps} {xs : List α} {s0 : τ} {K : τ → Ct σ l ρ} (hs : Sub c (c0 s0)) (hg : ∀ a s, GS (c0 s) g (fe a) (c1 a s)) (hb : ∀ a s, RS (c1 a s) body (nb a s) { nx := fun s e => Fits (c0 s) e, lp := fun s e => Fits (c0 s) e, rt := Q.rt, rl := Q.rl, ex := Q.ex }) (h : ∀ s, RS (c0 s) b (K s) Q) : RS c (sSeq (forD g body (xs.map fe)) b) ((forC nb xs s0).sq K) Q :=
  rs_seq (c1 := c0) (fun e he => forD_R (Q := { nx := fun s e => Fits (c0 s) e, lp := Q.lp, rt := Q.rt, rl := Q.rl, ex := Q.ex }) hg hb xs s0 e (he.sub hs)) h
theorem whileD_R {t : DT} {body : DS} {nt : σ → N Bool} {nb : σ → Ct σ σ ρ} {c0 : σ → Sps} (ht : ∀ s, RS (c0 s) (FK t retT) ((nt s).ct fun b => (.rt b : Ct Unit Unit Bool)) { nx := fun _ _ => False, lp := fun _ _ => False, rt := fun b d e => d = .bool b ∧ Fits (c0 s) e, rl := fun _ _ _ => False, ex := Q.ex }) (hb : ∀ s, RS (c0 s) body (nb s) { nx := fun s e => Fits (c0 s) e, lp := fun s e => Fits (c0 s) e, rt := Q.rt, rl := Q.rl, ex := Q.ex }) : ∀ (n : Nat) (s : σ), RS (c0 s) (whileD t body n) (whileC nt nb n s) { Q with nx := fun s e => Fits (c0 s) e }
  | 0, s => fun e he => trivial
  | n + 1, s => fun e he => by
    have h1 := ht s e he
    unfold FK at h1
    show R ((nt s).ct fun b => if b = true then (nb s).again (whileC nt nb n) else .nx s) ((t e).fl fun b e1 => if b = true then (body e1).turn (whileD t body n) else .nx e1) _
    cases w : nt s with
    | stuck => exact trivial
    | ex x =>
      rw [w] at h1
      obtain ⟨e', q, f⟩ := h1
      cases w2 : t e with
      | ok b e1 => rw [w2] at q; cases q
      | ex x e1 => rw [w2] at q; cases q; exact ⟨_, rfl, f⟩
      | stuck => rw [w2] at q; cases q
    | ok b =>
      rw [w] at h1
      rcases h1 with ⟨d, e', q, f1, f2⟩ | ⟨d, e', q, f⟩
      · cases w2 : t e with
        | ex x e1 => rw [w2] at q; cases q
        | stuck => rw [w2] at q; cases q
        | ok b2 e1 =>
          rw [w2] at q
          have q1 : PyData.bool b2 = d := by injection q
          have q2 : e1 = e' := by injection q
          subst q2
          subst q1
          have q3 : b2 = b := by injection f1
          subst q3
          show R (if b2 = true then (nb s).again (whileC nt nb n) else .nx s) (if b2 = true then (body e1).turn (whileD t body n) else .nx e1) _
          cases b2 with
          | false => exact ⟨e1, rfl, f2⟩
          | true =>
            rw [if_pos rfl, if_pos rfl]
            have h' := hb s e1 f2
            have ih := whileD_R ht hb n
            cases w : nb s with
            | nx s => rw [w] at h'; obtain ⟨e2, q, f⟩ := h'; rw [q]; exact ih s e2 f
            | ct s => rw [w] at h'; obtain ⟨e2, q, f⟩ := h'; rw [q]; exact ih s e2 f
            | bk s => rw [w] at h'; obtain ⟨e2, q, f⟩ := h'; rw [q]; exact ⟨e2, rfl, f⟩
            | rt r =>
              rw [w] at h'
              rcases h' with ⟨d, e2, q, f⟩ | ⟨d, e2, q, f⟩
              · rw [q]; exact .inl ⟨d, e2, rfl, f⟩
              · rw [q]; exact .inr ⟨d, e2, rfl, f⟩
            | ex s => rw [w] at h'; obtain ⟨e2, q, f⟩ := h'; rw [q]; exact ⟨e2, rfl, f⟩
            | stuck => exact trivial
      · exact f.elim
theorem rs_while {t : DT} {body b : DS} {n : Nat} {nt : τ → N Bool} {nb : τ → Ct τ τ ρ} {c0 : τ → Sps} {s0 : τ} {K : τ → Ct σ l ρ} (hs : Sub c (c0 s0)) (ht : ∀ s, RS (c0 s) (FK t retT) ((nt s).ct fun b => (.rt b : Ct Unit Unit Bool)) { nx := fun _ _ => False, lp := fun _ _ => False, rt := fun b d e => d = .bool b ∧ Fits (c0 s) e, rl := fun _ _ _ => False, ex := Q.ex }) (hb : ∀ s, RS (c0 s) body (nb s) { nx := fun s e => Fits (c0 s) e, lp := fun s e => Fits (c0 s) e, rt := Q.rt, rl := Q.rl, ex := Q.ex }) (h : ∀ s, RS (c0 s) b (K s) Q) : RS c (sSeq (whileD t body n) b) ((whileC nt nb n s0).sq K) Q :=
  rs_seq (c1 := c0) (fun e he => whileD_R (Q := { nx := fun s e => Fits (c0 s) e, lp := Q.lp, rt := Q.rt, rl := Q.rl, ex := Q.ex }) ht hb n s0 e (he.sub hs)) h
end
end NT
set_option Elab.async false
set_option linter.all false
set_option autoImplicit false
namespace NT
open PySem L2 DL LW
section
variable {α β σ τ l ρ : Type} {c : Sps} {m : Ct σ l ρ} {Q : Qs σ l ρ}
abbrev QV (v : β → D) (c' : β → Sps) (ex : DEnv → Prop) : Qs Unit Unit β := { nx := fun _ _ => False, lp := fun _ _ => False, rt := fun r d e => d = v r ∧ Fits (c' r) e, rl := fun _ _ _ => False, ex := ex }
theorem rk_unit {de : DE} {k : D → DEnv → Fl} {mu : Ct Unit Unit β} {v : β → D} {c' : β → Sps} {M : β → Ct σ l ρ} (hu : RS c (FK de retK) mu (QV v c' Q.ex)) (g : ∀ r, RS (c' r) (k (v r)) (M r) Q) : RS c (FK de k) (mu.fn.ct M) Q := fun e he => by
  have h := hu e he
  unfold FK at h ⊢
  cases mu with
  | nx s => obtain ⟨_, _, f⟩ := h; exact f.elim
  | bk s => obtain ⟨_, _, f⟩ := h; exact f.elim
  | ct s => obtain ⟨_, _, f⟩ := h; exact f.elim
  | stuck => exact trivial
  | ex x =>
    obtain ⟨e', q, f⟩ := h
    cases w : de e with
    | ok d e1 => rw [w] at q; cases q
    | ex y e1 => rw [w] at q; cases q; exact ⟨_, rfl, f⟩
    | stuck => rw [w] at q; cases q
  | rt r =>
    rcases h with ⟨d, e', q, f1, f2⟩ | ⟨_, _, _, f⟩
    · cases w : de e with
      | ok d e1 =>
        rw [w] at q
        cases q
        rw [f1]
        exact g r _ f2
      | ex y e1 => rw [w] at q; cases q
      | stuck => rw [w] at q; cases q
    · exact f.elim
theorem rk_unitT {de : DT} {k : Bool → DEnv → Fl} {mu : Ct Unit Unit β} {v : β → Bool} {c' : β → Sps} {M : β → Ct σ l ρ} (hu : RS c (FK de retT) mu (QV (fun r => .bool (v r)) c' Q.ex)) (g : ∀ r, RS (c' r) (k (v r)) (M r) Q) : RS c (FK de k) (mu.fn.ct M) Q := fun e he => by
  have h := hu e he
  unfold FK at h ⊢
  cases mu with
  | nx s => obtain ⟨_, _, f⟩ := h; exact f.elim
  | bk s => obtain ⟨_, _, f⟩ := h; exact f.elim
  | ct s => obtain ⟨_, _, f⟩ := h; exact f.elim
  | stuck => exact trivial
  | ex x =>
    obtain ⟨e', q, f⟩ := h
    cases w : de e with
    | ok d e1 => rw [w] at q; cases q
    | ex y e1 => rw [w] at q; cases q; exact ⟨_, rfl, f⟩
    | stuck => rw [w] at q; cases q
  | rt r =>
    rcases h with ⟨d, e', q, f1, f2⟩ | ⟨_, _, _, f⟩
    · cases w : de e with
      | ok d e1 =>
        rw [w] at q
        cases q
        injection f1 with f1
        subst f1
        exact g r _ f2
      | ex y e1 => rw [w] at q; cases q
      | stuck => rw [w] at q; cases q
    · exact f.elim
/-- a test of a while -/
theorem rk_fnrt {v : β → D} {c' : β → Sps} {ex : DEnv → Prop} {f : DEnv → Fl} {mu : Ct Unit Unit β} (h : RS c f mu (QV v c' ex)) : RS c f (mu.fn.ct fun b => (.rt b : Ct Unit Unit β)) { nx := fun _ _ => False, lp := fun _ _ => False, rt := fun b d e => d = v b ∧ Fits (c' b) e, rl := fun _ _ _ => False, ex := ex } := fun e he => by
  have h := h e he
  cases mu with
  | nx s => obtain ⟨_, _, f⟩ := h; exact f.elim
  | bk s => obtain ⟨_, _, f⟩ := h; exact f.elim
  | ct s => obtain ⟨_, _, f⟩ := h; exact f.elim
  | stuck => exact trivial
  | ex x => exact h
  | rt r => exact h
def RF (m : N ρ) (fo : Fo) (v : ρ → D) (outs : ρ → DEnv) : Prop := match m with
  | .ok r => fo = .ok (v r) (outs r)
  | .ex x => ∃ o, fo = .ex x o
  | .stuck => True
def RFl (m : N ρ) (fo : Fo) (v : ρ → List D) (outs : ρ → DEnv) : Prop := match m with
  | .ok r => fo = .okl (v r) (outs r)
  | .ex x => ∃ o, fo = .ex x o
  | .stuck => True
def callK (np : Nat) (F : Df) (k : D → DEnv → Fl) (as : List Ar) : DEnv → Fl := fun e => (if as.length = np then (callD F as e).rs else .stuck).fl k
def callKL (np : Nat) (F : Df) (k : List D → DEnv → Fl) (as : List Ar) : DEnv → Fl := fun e => (if as.length = np then (callD F as e).rl else .stuck).fl k
theorem rk_callN {np : Nat} {F : Df} {da : DAr} {k : D → DEnv → Fl} (g : RS c (FK da (callK np F k)) m Q) : RS c (FK (eCallN np F da) k) m Q := rk_conv (fun e => by
  unfold FK eCallN
  rw [fl_bind]
  rfl) g
theorem rk_callNL {np : Nat} {F : Df} {da : DAr} {k : List D → DEnv → Fl} (g : RS c (FK da (callKL np F k)) m Q) : RS c (FK (lCallN np F da) k) m Q := rk_conv (fun e => by
  unfold FK lCallN
  rw [fl_bind]
  rfl) g
theorem rk_rnil {k : List Ar → DEnv → Fl} (g : RS c (k []) m Q) : RS c (FK rNil k) m Q := g
theorem rk_rcons {de : DE} {da : DAr} {k : List Ar → DEnv → Fl} (g : RS c (FK de fun x => FK da fun xs => k (.d x :: xs)) m Q) : RS c (FK (rCons de da) k) m Q := rk_conv (fun e => by
  unfold FK rCons
  simp only [fl_bind]
  rfl) g
def lentC (c : Sps) (i : Nat) : Bool := match c[i]? with
  | some (.is s) => lentS s
  | _ => false
theorem lentC_at {i : Nat} (h : lentC c i = true) {e : DEnv} (he : Fits c e) : lent i e = true := by
  unfold lentC at h
  split at h
  · rename_i q; have := he.is q; unfold lent; rw [this]; exact h
  · cases h
def lendK (i : Nat) (k : List Ar → DEnv → Fl) (xs : List Ar) : DEnv → Fl := fun e => if lent i e = true then k (.s i :: xs) e else .stuck
theorem rk_lend {i : Nat} {da : DAr} {k : List Ar → DEnv → Fl} (g : RS c (FK da (lendK i k)) m Q) (h : lentC c i = true := by rfl) : RS c (FK (rLendC i da) k) m Q := fun e he => by
  have := g e he
  unfold FK at this ⊢
  unfold rLendC
  rw [lentC_at h he, if_pos rfl]
  cases w : da e with
  | ok xs e1 =>
    rw [w] at this
    show R m ((if lent i e1 = true then Rs.ok (.s i :: xs) e1 else .stuck).fl k) Q
    have h2 : R m (if lent i e1 = true then k (.s i :: xs) e1 else .stuck) Q := this
    cases hl : lent i e1 with
    | true => rw [hl] at h2; exact h2
    | false => rw [hl] at h2; exact h2
  | ex _ _ => rw [w] at this; exact this
  | stuck => rw [w] at this; exact this
theorem rk_lendK {i : Nat} {k : List Ar → DEnv → Fl} {xs : List Ar} (g : RS c (k (.s i :: xs)) m Q) (h : lentC c i = true := by rfl) : RS c (lendK i k xs) m Q := fun e he => by
  unfold lendK
  rw [lentC_at h he, if_pos rfl]
  exact g e he
def toC (c : Sps) : Ar → Sl
  | .d x => .v x
  | .g x => .f x
  | .s i => match c[i]? with
    | some (.is s) => lendS s
    | _ => .no
def lentAll (c : Sps) : List Ar → Bool
  | [] => true
  | .d _ :: as => lentAll c as
  | .g _ :: as => lentAll c as
  | .s i :: as => lentC c i && lentAll c as
theorem toC_at {e : DEnv} (he : Fits c e) : ∀ (as : List Ar), lentAll c as = true → as.map (toSl e) = as.map (toC c)
  | [], _ => rfl
  | .d x :: as, h => by rw [List.map_cons, List.map_cons, toC_at he as h]; rfl
  | .g x :: as, h => by rw [List.map_cons, List.map_cons, toC_at he as h]; rfl
  | .s i :: as, h => by
    have h' : lentC c i = true ∧ lentAll c as = true := by unfold lentAll at h; rwa [Bool.and_eq_true] at h
    rw [List.map_cons, List.map_cons, toC_at he as h'.2]
    congr 1
    have h1 := h'.1
    unfold lentC at h1
    split at h1
    · rename_i q; have := he.is q; simp only [toSl, this, toC, q]
    · cases h1
def convC (c : Sps) (i : Nat) (o : Sl) : Sp := match c[i]? with
  | some (.is s) => .is (conv s o)
  | _ => .np
def setBack (c : Sps) : List Ar → DEnv → Sps
  | .d _ :: as, _ :: os => setBack c as os
  | .g _ :: as, _ :: os => setBack c as os
  | .s i :: as, o :: os => setBack (c.set i (convC c i o)) as os
  | _, _ => c
theorem setBack_len : ∀ (as : List Ar) (os : DEnv) (c : Sps), (setBack c as os).length = c.length
  | [], _, _ => rfl
  | .d _ :: as, [], _ => rfl
  | .g _ :: as, [], _ => rfl
  | .s _ :: as, [], _ => rfl
  | .d _ :: as, _ :: os, c => setBack_len as os c
  | .g _ :: as, _ :: os, c => setBack_len as os c
  | .s i :: as, o :: os, c => by
    show (setBack (c.set i (convC c i o)) as os).length = _
    rw [setBack_len as os, List.length_set]
theorem lookS_none {j : Nat} : ∀ (as : List Ar) (os : DEnv), j ∉ slotsOf as → lookS j as os = none
  | [], _, _ => by simp [lookS]
  | .d _ :: as, [], _ => rfl
  | .g _ :: as, [], _ => rfl
  | .s _ :: as, [], _ => rfl
  | .d _ :: as, _ :: os, h => lookS_none as os (by simpa [slotsOf] using h)
  | .g _ :: as, _ :: os, h => lookS_none as os (by simpa [slotsOf] using h)
  | .s i :: as, o :: os, h => by
    have h' : ¬ j = i ∧ j ∉ slotsOf as := by simpa [slotsOf] using h
    show (if i = j then some o else lookS j as os) = none
    rw [if_neg (fun z => h'.1 z.symm)]
    exact lookS_none as os h'.2
theorem setBack_at : ∀ (as : List Ar) (os : DEnv) (c : Sps) (j : Nat), (slotsOf as).Nodup → (setBack c as os)[j]? = match lookS j as os with
    | some o => (c[j]?).map fun _ => convC c j o
    | none => c[j]?
  | [], os, c, j, _ => by simp [lookS, setBack]
  | .d _ :: as, [], c, j, _ => rfl
  | .g _ :: as, [], c, j, _ => rfl
  | .s _ :: as, [], c, j, _ => rfl
  | .d _ :: as, _ :: os, c, j, h => setBack_at as os c j (by simpa [slotsOf] using h)
  | .g _ :: as, _ :: os, c, j, h => setBack_at as os c j (by simpa [slotsOf] using h)
  | .s i :: as, o :: os, c, j, h => by
    have h' : i ∉ slotsOf as ∧ (slotsOf as).Nodup := by simpa [slotsOf] using h
    show (setBack (c.set i (convC c i o)) as os)[j]? = match (if i = j then some o else lookS j as os) with
      | some o => (c[j]?).map fun _ => convC c j o
      | none => c[j]?
    rw [setBack_at as os _ j h'.2]
    by_cases q : i = j
    · subst q
      rw [if_pos rfl, lookS_none as os h'.1]
      simp only
      by_cases li : i < c.length
      · rw [List.getElem?_set_self li, List.getElem?_eq_getElem li]; rfl
      · rw [List.getElem?_eq_none (by simpa using li), List.getElem?_eq_none (by simpa using li)]; rfl
    · rw [if_neg q]
      have e1 : (c.set i (convC c i o))[j]? = c[j]? := List.getElem?_set_ne q
      cases lookS j as os with
      | none => exact e1
      | some o2 =>
        have e4 : convC (c.set i (convC c i o)) j o2 = convC c j o2 := by
          generalize convC c i o = z at e1 ⊢
          unfold convC
          rw [e1]
        simp only [e4, e1]
theorem back_fits {e : DEnv} (he : Fits c e) {as : List Ar} (hl : lentAll c as = true) (hn : (slotsOf as).Nodup) (os : DEnv) : Fits (setBack c as os) (backD as os e) := by
  refine ⟨by rw [setBack_len, he.len]; simp [backD], fun j x t hx ht => ?_⟩
  rw [setBack_at as os c j hn] at hx
  have ht' : (e[j]?).map (fun s => match lookS j as os with
      | some o => conv s o
      | none => s) = some t := by
    unfold backD at ht
    rw [List.getElem?_mapIdx] at ht
    exact ht
  cases w : lookS j as os with
  | none =>
    rw [w] at hx ht'
    simp only at hx ht'
    have : e[j]? = some t := by simpa using ht'
    exact he.at_ j x t hx this
  | some o =>
    rw [w] at hx ht'
    simp only at hx ht'
    cases q : c[j]? with
    | none => rw [q] at hx; cases hx
    | some y =>
      rw [q] at hx
      have hx' : convC c j o = x := by simpa using hx
      have mem : j ∈ slotsOf as := by
        apply Classical.byContradiction
        intro z
        rw [lookS_none as os z] at w
        cases w
      have lj : lentC c j = true := by
        clear hx ht ht' w hx' q he hn
        induction as with
        | nil => simp [slotsOf] at mem
        | cons a as ih =>
          cases a with
          | d x => exact ih hl (by simpa [slotsOf] using mem)
          | g x => exact ih hl (by simpa [slotsOf] using mem)
          | s i =>
            have h' : lentC c i = true ∧ lentAll c as = true := by unfold lentAll at hl; rwa [Bool.and_eq_true] at hl
            rcases (by simpa [slotsOf] using mem : j = i ∨ j ∈ slotsOf as) with rfl | m
            · exact h'.1
            · exact ih h'.2 m
      unfold lentC at lj
      rw [q] at lj
      unfold convC at hx'
      rw [q] at hx'
      split at lj
      · rename_i z
        cases z
        have := he.is q
        rw [this] at ht'
        simp only [Option.map_some, Option.some.injEq] at ht'
        rw [← hx']
        exact ht'.symm
      · cases lj
def nodupB : List Nat → Bool
  | [] => true
  | x :: xs => !xs.contains x && nodupB xs
theorem nodupB_ok : ∀ {xs : List Nat}, nodupB xs = true → xs.Nodup
  | [], _ => List.nodup_nil
  | x :: xs, h => by
    have h' : (!xs.contains x && nodupB xs) = true := h
    rw [Bool.and_eq_true] at h'
    rw [List.nodup_cons]
    exact ⟨by simpa using h'.1, nodupB_ok h'.2⟩
def noS (as : List Ar) : Bool := as.all fun a => match a with
  | .d _ => true
  | .g _ => true
  | .s _ => false
theorem back_noS {as : List Ar} (h : noS as = true) (os : DEnv) (e : DEnv) : backD as os e = e := by
  have hs : slotsOf as = [] := by
    induction as with
    | nil => rfl
    | cons a as ih =>
      cases a with
      | d x => exact ih (by simpa [noS] using h)
      | g x => exact ih (by simpa [noS] using h)
      | s i => simp [noS] at h
  unfold backD
  apply List.ext_getElem?
  intro j
  rw [List.getElem?_mapIdx, lookS_none as os (by rw [hs]; simp)]
  simp
theorem rk_call {np : Nat} {F : Df} {as : List Ar} {k : D → DEnv → Fl} {args : DEnv} {mF : N β} {v : β → D} {outs : β → DEnv} {M : β → Ct σ l ρ} (hf : RF mF (F args) v outs) (g : ∀ r, RS (setBack c as (outs r)) (k (v r)) (M r) Q) (hx : ∀ e e', Fits c e → (noS as = true → e' = e) → Q.ex e') (ha : as.map (toC c) = args := by rfl) (hl : lentAll c as = true := by rfl) (hn : as.length = np := by rfl) (hd0 : nodupB (slotsOf as) = true := by rfl) : RS c (callK np F k as) (mF.ct M) Q := fun e he => by
  have hd := nodupB_ok hd0
  unfold callK callD
  rw [if_pos hn, if_pos hd, toC_at he as hl, ha]
  cases mF with
  | stuck => exact trivial
  | ok r =>
    have hf' : F args = .ok (v r) (outs r) := hf
    rw [hf']
    exact g r _ (back_fits he hl hd _)
  | ex x =>
    obtain ⟨o, ho⟩ := hf
    rw [ho]
    exact ⟨_, rfl, hx e _ he fun z => back_noS z o e⟩
theorem rk_callL {np : Nat} {F : Df} {as : List Ar} {k : List D → DEnv → Fl} {args : DEnv} {mF : N β} {v : β → List D} {outs : β → DEnv} {M : β → Ct σ l ρ} (hf : RFl mF (F args) v outs) (g : ∀ r, RS (setBack c as (outs r)) (k (v r)) (M r) Q) (hx : ∀ e e', Fits c e → (noS as = true → e' = e) → Q.ex e') (ha : as.map (toC c) = args := by rfl) (hl : lentAll c as = true := by rfl) (hn : as.length = np := by rfl) (hd0 : nodupB (slotsOf as) = true := by rfl) : RS c (callKL np F k as) (mF.ct M) Q := fun e he => by
  have hd := nodupB_ok hd0
  unfold callKL callD
  rw [if_pos hn, if_pos hd, toC_at he as hl, ha]
  cases mF with
  | stuck => exact trivial
  | ok r =>
    have hf' : F args = .okl (v r) (outs r) := hf
    rw [hf']
    exact g r _ (back_fits he hl hd _)
  | ex x =>
    obtain ⟨o, ho⟩ := hf
    rw [ho]
    exact ⟨_, rfl, hx e _ he fun z => back_noS z o e⟩
def slC (c : Sps) (i : Nat) : Sl := match c[i]? with
  | some (.is t) => t
  | _ => .no
def isC (c : Sps) (i : Nat) : Bool := match c[i]? with
  | some (.is _) => true
  | _ => false
def outsC (c : Sps) : Nat → DEnv → DEnv
  | i, s :: r => outOf s (slC c i) :: outsC c (i + 1) r
  | _, [] => []
def lendsC (c : Sps) : Nat → DEnv → Bool
  | i, s :: r => (s.pk == 0 || isC c i) && lendsC c (i + 1) r
  | _, [] => true
theorem outOf_no {s : Sl} (h : s.pk = 0) (t : Sl) : outOf s t = .no := by cases s <;> first | rfl | cases h
theorem slC_at {e : DEnv} (he : Fits c e) {i : Nat} (h : isC c i = true) : e.getD i Sl.no = slC c i := by
  unfold isC at h
  split at h
  · rename_i q
    unfold slC
    simp [List.getD, he.is q, q]
  · cases h
theorem outs_at {e : DEnv} (he : Fits c e) : ∀ (args : DEnv) (i : Nat), lendsC c i args = true → (args.mapIdx fun j a => outOf a (e.getD (i + j) Sl.no)) = outsC c i args
  | [], i, _ => rfl
  | a :: r, i, h => by
    rw [List.mapIdx_cons]
    have h' : (a.pk == 0 || isC c i) = true ∧ lendsC c (i + 1) r = true := by
      have : ((a.pk == 0 || isC c i) && lendsC c (i + 1) r) = true := h
      rwa [Bool.and_eq_true] at this
    have tail : (r.mapIdx fun j a => outOf a (e.getD (i + (j + 1)) Sl.no)) = outsC c (i + 1) r := by
      rw [← outs_at he r (i + 1) h'.2]
      congr 1
      funext j a
      rw [show i + (j + 1) = i + 1 + j by omega]
    show _ :: _ = outOf a (slC c i) :: outsC c (i + 1) r
    rw [tail]
    congr 1
    by_cases z : a.pk = 0
    · rw [outOf_no z, outOf_no z]
    · have := h'.1
      rw [Bool.or_eq_true] at this
      rw [Nat.add_zero, slC_at he (this.resolve_left fun w => z (by simpa using w))]
abbrev QF (args : DEnv) (v : ρ → D) (outs : ρ → DEnv) : Qs Unit Unit ρ := { nx := fun _ _ => False, lp := fun _ _ => False, rt := fun r d e => d = v r ∧ outsOf args e = outs r, rl := fun _ _ _ => False, ex := fun _ => True }
abbrev QFl (args : DEnv) (v : ρ → List D) (outs : ρ → DEnv) : Qs Unit Unit ρ := { nx := fun _ _ => False, lp := fun _ _ => False, rt := fun _ _ _ => False, rl := fun r d e => d = v r ∧ outsOf args e = outs r, ex := fun _ => True }
theorem outs_of {args : DEnv} {o : DEnv} (h : lendsC c 0 args = true) (ho : outsC c 0 args = o) {e : DEnv} (he : Fits c e) : outsOf args e = o := by
  rw [← ho, ← outs_at he args 0 h]
  unfold outsOf
  congr 1
  funext j a
  rw [Nat.zero_add]
theorem fits_init (args : DEnv) (n : Nat) : Fits (args.map Sp.is ++ List.replicate n Sp.nw) (args ++ List.replicate n Sl.no) := by
  refine ⟨by simp, fun i x t hx ht => ?_⟩
  by_cases q : i < args.length
  · rw [List.getElem?_append_left (by simpa using q)] at hx
    rw [List.getElem?_append_left q] at ht
    rw [List.getElem?_map, ht] at hx
    cases hx
    rfl
  · rw [List.getElem?_append_right (by simpa using q)] at hx
    rw [List.getElem?_append_right (by omega)] at ht
    rw [List.getElem?_replicate] at hx ht
    split at hx <;> cases hx
    split at ht <;> cases ht
    rfl
theorem rf_of {n : Nat} {b : DS} {args : DEnv} {c0 : Sps} {m : Ct Unit Unit ρ} {v : ρ → D} {outs : ρ → DEnv} (h : RS c0 b m (QF args v outs)) (hc : args.map Sp.is ++ List.replicate (n - args.length) Sp.nw = c0 := by rfl) : RF m.fn (bodyF n b args) v outs := by
  subst hc
  have h' := h _ (fits_init args (n - args.length))
  rw [bodyF_ap]
  cases m with
  | nx s => obtain ⟨_, _, f⟩ := h'; exact f.elim
  | bk s => obtain ⟨_, _, f⟩ := h'; exact f.elim
  | ct s => obtain ⟨_, _, f⟩ := h'; exact f.elim
  | stuck => exact trivial
  | ex x => obtain ⟨e, q, f⟩ := h'; rw [q]; exact ⟨_, rfl⟩
  | rt r =>
    rcases h' with ⟨d, e', q, f1, f2⟩ | ⟨_, _, _, f⟩
    · rw [q]
      show Fo.ok d (outsOf args e') = .ok (v r) (outs r)
      rw [f1, f2]
    · exact f.elim
theorem rfl_of {n : Nat} {b : DS} {args : DEnv} {c0 : Sps} {m : Ct Unit Unit ρ} {v : ρ → List D} {outs : ρ → DEnv} (h : RS c0 b m (QFl args v outs)) (hc : args.map Sp.is ++ List.replicate (n - args.length) Sp.nw = c0 := by rfl) : RFl m.fn (bodyF n b args) v outs := by
  subst hc
  have h' := h _ (fits_init args (n - args.length))
  rw [bodyF_ap]
  cases m with
  | nx s => obtain ⟨_, _, f⟩ := h'; exact f.elim
  | bk s => obtain ⟨_, _, f⟩ := h'; exact f.elim
  | ct s => obtain ⟨_, _, f⟩ := h'; exact f.elim
  | stuck => exact trivial
  | ex x => obtain ⟨e, q, f⟩ := h'; rw [q]; exact ⟨_, rfl⟩
  | rt r =>
    rcases h' with ⟨_, _, _, f⟩ | ⟨d, e', q, f1, f2⟩
    · exact f.elim
    · rw [q]
      show Fo.okl d (outsOf args e') = .okl (v r) (outs r)
      rw [f1, f2]
end
end NT
set_option Elab.async false
set_option linter.all false
set_option autoImplicit false
namespace NT
open PySem L2 DL LW
section
variable {α β σ τ l ρ : Type} {c : Sps} {m : Ct σ l ρ} {Q : Qs σ l ρ}
def compC (f : α → σ → Ct σ Unit (β × σ)) : List α → σ → N (List β × σ)
  | [], s => .ok ([], s)
  | a :: as, s => match f a s with
    | .nx s1 => compC f as s1
    | .rt p => match compC f as p.2 with
      | .ok q => .ok (p.1 :: q.1, q.2)
      | _ => .stuck
    | _ => .stuck
def compP (f : α → Ct Unit Unit β) : List α → N (List β)
  | [] => .ok []
  | a :: as => match f a with
    | .nx _ => compP f as
    | .rt b => match compP f as with
      | .ok bs => .ok (b :: bs)
      | _ => .stuck
    | _ => .stuck
def lcS (f : α → σ → Ct σ Unit (β × σ)) (xs : List α) (s : σ) : N (List β × σ) := if xs.length ≤ 100000 then compC f xs s else .stuck
def lcP (f : α → Ct Unit Unit β) (xs : List α) : N (List β) := if xs.length ≤ 100000 then compP f xs else .stuck
theorem compP_map {f : α → Ct Unit Unit β} {g : α → β} : ∀ (as : List α), (∀ a, a ∈ as → f a = .rt (g a)) → compP f as = .ok (as.map g)
  | [], _ => rfl
  | a :: as, h => by
    unfold compP
    rw [h a (List.mem_cons_self ..), compP_map as fun b hb => h b (List.mem_cons_of_mem _ hb)]
    rfl
theorem compP_fm {f : α → Ct Unit Unit β} {p : α → Bool} {g : α → β} : ∀ (as : List α), (∀ a, a ∈ as → f a = if p a = true then .rt (g a) else .nx ()) → compP f as = .ok ((as.filter p).map g)
  | [], _ => rfl
  | a :: as, h => by
    unfold compP
    rw [h a (List.mem_cons_self ..), compP_fm as fun b hb => h b (List.mem_cons_of_mem _ hb), List.filter_cons]
    cases p a <;> rfl
theorem lcP_map {f : α → Ct Unit Unit β} {g : α → β} (as : List α) (hl : as.length ≤ 100000) (h : ∀ a, a ∈ as → f a = .rt (g a)) : lcP f as = .ok (as.map g) := by unfold lcP; rw [if_pos hl, compP_map as h]
theorem lcP_fm {f : α → Ct Unit Unit β} {p : α → Bool} {g : α → β} (as : List α) (hl : as.length ≤ 100000) (h : ∀ a, a ∈ as → f a = if p a = true then .rt (g a) else .nx ()) : lcP f as = .ok ((as.filter p).map g) := by unfold lcP; rw [if_pos hl, compP_fm as h]
def wipeC (c : Sps) : List Nat → Sps
  | [] => c
  | v :: vs => (wipeC c vs).set v (.is .no)
def noOwnC (c : Sps) (vs : List Nat) : Bool := vs.all fun i => match c[i]? with
  | some (.is s) => !s.own
  | some .nw => true
  | _ => false
theorem wipe_fits {e : DEnv} (he : Fits c e) : ∀ vs, Fits (wipeC c vs) (wipeD e vs)
  | [] => he
  | v :: vs => (wipe_fits he vs).set v rfl
theorem wipeC_len : ∀ vs, (wipeC c vs).length = c.length
  | [] => rfl
  | v :: vs => by show ((wipeC c vs).set v _).length = _; rw [List.length_set, wipeC_len vs]
theorem wipeC_ne {j : Nat} : ∀ vs, j ∉ vs → (wipeC c vs)[j]? = c[j]?
  | [], _ => rfl
  | v :: vs, h => by
    have h' : ¬ j = v ∧ j ∉ vs := by simpa using h
    show ((wipeC c vs).set v _)[j]? = _
    rw [List.getElem?_set_ne (fun z => h'.1 z.symm), wipeC_ne vs h'.2]
theorem noOwnC_at {e : DEnv} (he : Fits c e) {vs : List Nat} (h : noOwnC c vs = true) : noOwn e vs = true := by
  unfold noOwn
  unfold noOwnC at h
  rw [List.all_eq_true] at h ⊢
  intro i hi
  have := h i hi
  cases q : c[i]? with
  | none => rw [q] at this; cases this
  | some x =>
    rw [q] at this
    obtain ⟨t, a, b⟩ := he.get q
    rw [a]
    cases x with
    | is s => exact (show t = s from b) ▸ this
    | nw => have b' : t.own = false := b; simp [b']
    | np => cases this
theorem mergeD_len (e1 e2 : DEnv) : ∀ vs, (mergeD e1 e2 vs).length = e2.length
  | [] => rfl
  | v :: vs => by show ((mergeD e1 e2 vs).set v _).length = _; rw [List.length_set, mergeD_len e1 e2 vs]
theorem mergeD_ne (e1 e2 : DEnv) {j : Nat} : ∀ vs, j ∉ vs → (mergeD e1 e2 vs)[j]? = e2[j]?
  | [], _ => rfl
  | v :: vs, h => by
    have h' : ¬ j = v ∧ j ∉ vs := by simpa using h
    show ((mergeD e1 e2 vs).set v _)[j]? = _
    rw [List.getElem?_set_ne (fun z => h'.1 z.symm), mergeD_ne e1 e2 vs h'.2]
theorem mergeD_mem (e1 e2 : DEnv) {j : Nat} {t : Sl} : ∀ vs, j ∈ vs → (mergeD e1 e2 vs)[j]? = some t → t = e1.getD j .no
  | [], h, _ => by simp at h
  | v :: vs, h, q => by
    have q' : ((mergeD e1 e2 vs).set v (e1.getD v .no))[j]? = some t := q
    by_cases z : v = j
    · subst z
      have l : v < (mergeD e1 e2 vs).length := by have := (List.getElem?_eq_some_iff.mp q').1; simpa using this
      rw [List.getElem?_set_self l] at q'
      exact (Option.some.inj q').symm
    · rw [List.getElem?_set_ne z] at q'
      exact mergeD_mem e1 e2 vs (by rcases List.mem_cons.1 h with h | h; exact absurd h.symm z; exact h) q'
theorem merge_fits {c' : Sps} {e1 e2 : DEnv} {vs : List Nat} (h1 : Fits c e1) (h2 : Fits (wipeC c' vs) e2) (hv : vs.map (fun v => c'[v]?) = vs.map (fun v => c[v]?)) : Fits c' (mergeD e1 e2 vs) := by
  refine ⟨by rw [mergeD_len, ← h2.len, wipeC_len], fun j x t hx ht => ?_⟩
  by_cases q : j ∈ vs
  · have e := mergeD_mem e1 e2 vs q ht
    have hx' : c[j]? = some x := by
      have := List.map_inj_left.1 hv j q
      rw [← this]; exact hx
    obtain ⟨u, a, b⟩ := h1.get hx'
    have : e1.getD j .no = u := by simp [List.getD, a]
    rw [e, this]
    exact b
  · rw [mergeD_ne e1 e2 vs q] at ht
    refine h2.at_ j x t ?_ ht
    rw [wipeC_ne vs q]
    exact hx
def compK (t : DT) (el : DE) : DEnv → Fl := FK t fun b => ifF b (FK el retK) sNx
def lcK (g : DG) (t : DT) (el : DE) (vs : List Nat) (k : List D → DEnv → Fl) (ds : List D) : DEnv → Fl := fun e1 => (if ds.length ≤ 100000 ∧ noOwn e1 vs = true then match compD g t el vs ds (wipeD e1 vs) with
    | .ok ys e2 => Rs.ok ys (mergeD e1 e2 vs)
    | _ => .stuck
  else .stuck).fl k
theorem rk_lc {di : DA} {g : DG} {t : DT} {el : DE} {vs : List Nat} {k : List D → DEnv → Fl} (h : RS c (FK di (lcK g t el vs k)) m Q) : RS c (FK (lComp di g t el vs) k) m Q := rk_conv (fun e => by
  unfold FK lComp
  rw [fl_bind]
  rfl) h
theorem compK_at {t : DT} {el : DE} {e : DEnv} : compK t el e = match t e with
    | .ok true e1 => (match el e1 with
      | .ok d e2 => .rt d e2
      | .ex x e2 => .ex x e2
      | .stuck => .stuck)
    | .ok false e1 => .nx e1
    | .ex x e1 => .ex x e1
    | .stuck => .stuck := by
  unfold compK FK
  cases t e with
  | ok b e1 =>
    cases b
    · rfl
    · show (el e1).fl retK = (match el e1 with
        | .ok d e2 => Fl.rt d e2
        | .ex x e2 => .ex x e2
        | .stuck => .stuck)
      cases el e1 <;> rfl
  | ex _ _ => rfl
  | stuck => rfl
abbrev QC (fb : β → D) (c' : σ → Sps) : Qs σ Unit (β × σ) := { nx := fun s e => Fits (c' s) e, lp := fun _ _ => False, rt := fun p d e => d = fb p.1 ∧ Fits (c' p.2) e, rl := fun _ _ _ => False, ex := fun _ => True }
theorem compD_R {fe : α → D} {fb : β → D} {g : DG} {t : DT} {el : DE} {vs : List Nat} {cs : σ → Sps} {ca : α → σ → Sps} {nb : α → σ → Ct σ Unit (β × σ)} (hg : ∀ a s, GS (wipeC (cs s) vs) g (fe a) (ca a s)) (hw : ∀ a s, wipeC (ca a s) vs = wipeC (cs s) vs) (hb : ∀ a s, RS (ca a s) (compK t el) (nb a s) (QC fb (ca a))) : ∀ (xs : List α) (s : σ) (e : DEnv), Fits (wipeC (cs s) vs) e → match compC nb xs s with
    | .ok q => ∃ e2, compD g t el vs (xs.map fe) e = .ok (q.1.map fb) e2 ∧ Fits (wipeC (cs q.2) vs) e2
    | _ => True
  | [], s, e, he => ⟨e, rfl, he⟩
  | a :: as, s, e, he => by
    obtain ⟨e1, q, f1⟩ := hg a s e he
    have h' := hb a s e1 f1
    have ih := compD_R hg hw hb as
    have up : compD g t el vs ((a :: as).map fe) e = match compK t el e1 with
        | .nx e2 => compD g t el vs (as.map fe) (wipeD e2 vs)
        | .rt y e3 => (compD g t el vs (as.map fe) (wipeD e3 vs)).bind fun ys e4 => .ok (y :: ys) e4
        | .ex x e => .ex x e
        | _ => .stuck := by
      rw [compK_at]
      show (match g (fe a) e with
        | none => Rs.stuck
        | some e1 => (t e1).bind fun b e2 => if b = true then (el e2).bind fun y e3 => (compD g t el vs (as.map fe) (wipeD e3 vs)).bind fun ys e4 => .ok (y :: ys) e4 else compD g t el vs (as.map fe) (wipeD e2 vs)) = _
      rw [q]
      simp only
      cases t e1 with
      | ok b e2 =>
        cases b
        · rfl
        · simp only [bind_ok, if_true]
          cases el e2 <;> rfl
      | ex _ _ => rfl
      | stuck => rfl
    rw [up]
    cases w : nb a s with
    | nx s1 =>
      rw [w] at h'
      obtain ⟨e2, q2, f2⟩ := h'
      rw [q2]
      simp only [compC, w]
      refine ih s1 (wipeD e2 vs) ?_
      rw [← hw a s1]
      exact wipe_fits f2 vs
    | rt p =>
      rw [w] at h'
      rcases h' with ⟨d, e2, q2, f2, f3⟩ | ⟨_, _, _, f⟩
      · rw [q2]
        simp only [compC, w]
        have ih' := ih p.2 (wipeD e2 vs) (by rw [← hw a p.2]; exact wipe_fits f3 vs)
        cases w2 : compC nb as p.2 with
        | ok q =>
          rw [w2] at ih'
          obtain ⟨e4, a4, b4⟩ := ih'
          refine ⟨e4, ?_, b4⟩
          rw [a4, f2]
          rfl
        | ex x => exact trivial
        | stuck => exact trivial
      · exact f.elim
    | bk s => simp only [compC, w]
    | ct s => simp only [compC, w]
    | ex s => simp only [compC, w]
    | stuck => simp only [compC, w]
theorem compC_ex (nb : α → σ → Ct σ Unit (β × σ)) : ∀ (as : List α) (s : σ) (x : Xc), compC nb as s ≠ .ex x
  | [], _, _ => fun h => by cases h
  | a :: as, s, x => by
    unfold compC
    cases nb a s with
    | nx s1 => exact compC_ex nb as s1 x
    | rt p => simp only; cases compC nb as p.2 <;> exact fun h => by cases h
    | _ => exact fun h => by cases h
theorem rk_lcS {fe : α → D} {fb : β → D} {g : DG} {t : DT} {el : DE} {vs : List Nat} {cs : τ → Sps} {ca : α → τ → Sps} {nb : α → τ → Ct τ Unit (β × τ)} {xs : List α} {s0 : τ} {k : List D → DEnv → Fl} {M : List β × τ → Ct σ l ρ} (hs : Sub c (cs s0)) (hg : ∀ a s, GS (wipeC (cs s) vs) g (fe a) (ca a s)) (hb : ∀ a s, RS (ca a s) (compK t el) (nb a s) (QC fb (ca a))) (h : ∀ p : List β × τ, RS (cs p.2) (k (p.1.map fb)) (M p) Q) (hw : ∀ a s, wipeC (ca a s) vs = wipeC (cs s) vs := by intro _ _; rfl) (hv : ∀ s, vs.map (fun v => (cs s)[v]?) = vs.map (fun v => (cs s0)[v]?) := by intro _; rfl) (ho : noOwnC (cs s0) vs = true := by rfl) : RS c (lcK g t el vs k (xs.map fe)) ((lcS nb xs s0).ct M) Q := fun e he0 => by
  have he := he0.sub hs
  unfold lcK lcS
  rw [List.length_map]
  by_cases hl : xs.length ≤ 100000
  · rw [if_pos hl, if_pos ⟨hl, noOwnC_at he ho⟩]
    have := compD_R hg hw hb xs s0 (wipeD e vs) (wipe_fits he vs)
    cases w : compC nb xs s0 with
    | ok q =>
      rw [w] at this
      obtain ⟨e2, a, b⟩ := this
      rw [a]
      exact h q _ (merge_fits he b (hv q.2))
    | ex x => exact absurd w (compC_ex nb xs s0 x)
    | stuck => exact trivial
  · rw [if_neg hl]
    exact trivial
/-- one that changes nothing -/
abbrev QCp (fb : β → D) (c' : Sps) : Qs Unit Unit β := { nx := fun _ e => Fits c' e, lp := fun _ _ => False, rt := fun b d e => d = fb b ∧ Fits c' e, rl := fun _ _ _ => False, ex := fun _ => True }
def liftP (m : Ct Unit Unit β) : Ct Unit Unit (β × Unit) := match m with
  | .nx s => .nx s
  | .rt b => .rt (b, ())
  | .bk s => .bk s
  | .ct s => .ct s
  | .ex x => .ex x
  | .stuck => .stuck
theorem compP_C (f : α → Ct Unit Unit β) : ∀ as, compC (fun a _ => liftP (f a)) as () = (compP f as).bd fun bs => .ok (bs, ())
  | [] => rfl
  | a :: as => by
    unfold compC compP
    have ih := compP_C f as
    cases f a with
    | nx s => exact ih
    | rt b =>
      have lp : liftP (Ct.rt b) = Ct.rt (b, ()) := rfl
      rw [lp]
      dsimp only
      rw [ih]
      cases compP f as <;> rfl
    | _ => rfl
theorem rk_lcP {fe : α → D} {fb : β → D} {g : DG} {t : DT} {el : DE} {vs : List Nat} {ca : α → Sps} {nb : α → Ct Unit Unit β} {xs : List α} {k : List D → DEnv → Fl} {M : List β → Ct σ l ρ} (hg : ∀ a, GS (wipeC c vs) g (fe a) (ca a)) (hb : ∀ a, RS (ca a) (compK t el) (nb a) (QCp fb (ca a))) (h : ∀ bs : List β, RS c (k (bs.map fb)) (M bs) Q) (hw : ∀ a, wipeC (ca a) vs = wipeC c vs := by intro _; rfl) (ho : noOwnC c vs = true := by rfl) : RS c (lcK g t el vs k (xs.map fe)) ((lcP nb xs).ct M) Q := fun e he => by
  have := rk_lcS (τ := Unit) (Q := Q) (c := c) (cs := fun _ => c) (ca := fun a _ => ca a) (nb := fun a _ => liftP (nb a)) (xs := xs) (s0 := ()) (k := k) (M := fun p => M p.1) (fe := fe) (fb := fb) (g := g) (t := t) (el := el) (vs := vs) (by
    have : ∀ c : Sps, Sub c c := fun c => by
      induction c with
      | nil => exact trivial
      | cons x c ih => exact ⟨by cases x <;> first | rfl | trivial, ih⟩
    exact this c) (fun a _ => hg a) (fun a _ => fun e1 f1 => by
      have h' := hb a e1 f1
      cases w : nb a with
      | nx s => rw [w] at h'; exact h'
      | rt b => rw [w] at h'; exact h'
      | bk s => rw [w] at h'; exact h'
      | ct s => rw [w] at h'; exact h'
      | ex x => rw [w] at h'; exact h'
      | stuck => exact trivial) (fun p => h p.1) (fun a _ => hw a) (fun _ => rfl) ho e he
  unfold lcS at this
  unfold lcP
  by_cases hl : xs.length ≤ 100000
  · rw [if_pos hl] at this ⊢
    rw [compP_C] at this
    cases w : compP nb xs with
    | ok bs => rw [w] at this; exact this
    | ex x => rw [w] at this; exact this
    | stuck => exact trivial
  · rw [if_neg hl]; exact trivial
theorem rk_retC {fb : β → D} {c' : Sps} {b : β} (h : Sub c c') : RS c (retK (fb b)) (.rt b) (QCp fb c') := rk_ret fun e he => ⟨rfl, he.sub h⟩
theorem rk_ck {t : DT} {el : DE} (h : RS c (FK t fun b => ifF b (FK el retK) sNx) m Q) : RS c (compK t el) m Q := h
theorem rk_ck1 {el : DE} (h : RS c (FK el retK) m Q) : RS c (compK tYesD el) m Q := h
end
end NT
set_option Elab.async false
set_option linter.all false
set_option autoImplicit false
namespace NT
open PySem L2 DL LW
section
variable {α β γ δ ε ζ η σ τ l ρ : Type} {c : Sps} {m : Ct σ l ρ} {Q : Qs σ l ρ}
@[simp, reducible] def P2 (f : α → β → γ) (s : α × β) : γ := f s.1 s.2
@[simp, reducible] def P3 (f : α → β → γ → δ) (s : α × β × γ) : δ := f s.1 s.2.1 s.2.2
@[simp, reducible] def P4 (f : α → β → γ → δ → ε) (s : α × β × γ × δ) : ε := f s.1 s.2.1 s.2.2.1 s.2.2.2
@[simp, reducible] def P5 (f : α → β → γ → δ → ε → ζ) (s : α × β × γ × δ × ε) : ζ := f s.1 s.2.1 s.2.2.1 s.2.2.2.1 s.2.2.2.2
@[simp, reducible] def P6 (f : α → β → γ → δ → ε → ζ → η) (s : α × β × γ × δ × ε × ζ) : η := f s.1 s.2.1 s.2.2.1 s.2.2.2.1 s.2.2.2.2.1 s.2.2.2.2.2
abbrev imin (a b : Int) : Int := if b < a then b else a
abbrev b2i (b : Bool) : Int := if b then 1 else 0
theorem sub_nil : Sub [] [] := trivial
theorem sub_cons {x y : Sp} {c d : Sps} (h : Wk x y) (g : Sub c d) : Sub (x :: c) (y :: d) := ⟨h, g⟩
theorem wk_is {s : Sl} : Wk (.is s) (.is s) := rfl
theorem wk_lnp {d : List D} : Wk (.is (.l d)) .np := rfl
theorem wk_vnw {d : D} : Wk (.is (.v d)) .nw := rfl
theorem wk_nw : Wk .nw .nw := trivial
theorem wk_nwnp : Wk .nw .np := trivial
theorem rs_assoc {a b r : DS} (h : RS c (sSeq a (sSeq b r)) m Q) : RS c (sSeq (sSeq a b) r) m Q := rk_conv (fun e => by
  unfold sSeq
  cases a e <;> rfl) h
theorem is_none {f : α → D} [n : NnE f] (x : Option α) : dIs (eO f x) .none = some (.bool x.isNone) := by
  cases x with
  | none => rfl
  | some a =>
    show some (PyData.bool (isNone (f a))) = _
    have := n.nn a
    cases h : f a <;> first | rfl | exact absurd h this
theorem isnt_none {f : α → D} [n : NnE f] (x : Option α) : dIsnt (eO f x) .none = some (.bool (!x.isNone)) := by
  cases x with
  | none => rfl
  | some a =>
    show some (PyData.bool (!isNone (f a))) = _
    have := n.nn a
    cases h : f a <;> first | rfl | exact absurd h this
theorem len_T {f : α → D} (xs : List α) : fLen [eTs f xs] = some (eI xs.length) := by simp [fLen]
theorem len_L {f : α → D} (xs : List α) : fLen [eLs f xs] = some (eI xs.length) := by simp [fLen]
def cutL (xs : List α) (lo hi : Option Int) : List α := (xs.drop (HT.sIx xs.length 0 lo)).take (HT.sIx xs.length xs.length hi - HT.sIx xs.length 0 lo)
theorem cutD_map (f : α → D) (xs : List α) (lo hi : Option Int) : cutD (xs.map f) lo hi = (cutL xs lo hi).map f := by
  unfold cutD cutL
  rw [List.length_map, List.map_take, List.map_drop]
theorem sl_T {f : α → D} (xs : List α) (lo hi : Option Int) : dSl (eTs f xs) lo hi = some (eTs f (cutL xs lo hi)) := by
  show some (PyData.tuple (cutD (xs.map f) lo hi)) = _
  rw [cutD_map]
theorem sl_L {f : α → D} (xs : List α) (lo hi : Option Int) : dSl (eLs f xs) lo hi = some (eLs f (cutL xs lo hi)) := by
  show some (PyData.list (cutD (xs.map f) lo hi)) = _
  rw [cutD_map]
theorem all_B (bs : List Bool) : fAll [eLs eB bs] = some (eB (bs.all id)) := by
  have : ∀ bs : List Bool, bools (bs.map eB) = some bs := fun bs => by
    induction bs with
    | nil => rfl
    | cons b bs ih => simp [bools, ih]
  simp [fAll, this]
def chainK (f g : D → D → Option D) (dc : DE) (k : D → DEnv → Fl) (x y : D) : DEnv → Fl := fun e2 => (match f x y with
  | some (.bool true) => (dc e2).bind fun z e3 => put (g y z) e3
  | some (.bool false) => Rs.ok (.bool false) e2
  | _ => .stuck).fl k
theorem rk_chain {f g : D → D → Option D} {da db dc : DE} {k : D → DEnv → Fl} (h : RS c (FK da fun x => FK db fun y => chainK f g dc k x y) m Q) : RS c (FK (eChain f g da db dc) k) m Q := rk_conv (fun e => by
  unfold FK eChain
  simp only [fl_bind]
  rfl) h
theorem rk_chainP {f g : D → D → Option D} {dc : DE} {k : D → DEnv → Fl} {x y z : D} {a b : Bool} (hc : EP c dc z) (h1 : f x y = some (.bool a)) (h2 : g y z = some (.bool b)) (h : RS c (k (.bool (a && b))) m Q) : RS c (chainK f g dc k x y) m Q := fun e he => by
  unfold chainK
  rw [h1]
  cases a
  · exact h e he
  · simp only [hc e he, bind_ok, h2]
    exact h e he
end
end NT
set_option Elab.async false
set_option linter.all false
set_option autoImplicit false
namespace NT
open PySem L2 DL LW
section
variable {α β σ τ l ρ : Type}
structure Po (σ l ρ : Type) where
  nx : σ → Prop := fun _ => False
  rt : ρ → Prop := fun _ => False
  bk : l → Prop := fun _ => False
  ct : l → Prop := fun _ => False
  ex : Xc → Prop := fun _ => False
def W (c : Ct σ l ρ) (p : Po σ l ρ) : Prop := match c with
  | .nx s => p.nx s
  | .rt r => p.rt r
  | .bk s => p.bk s
  | .ct s => p.ct s
  | .ex x => p.ex x
  | .stuck => False
@[simp] theorem W_nx (s : σ) (p : Po σ l ρ) : W (.nx s) p = p.nx s := rfl
@[simp] theorem W_rt (s : ρ) (p : Po σ l ρ) : W (.rt s) p = p.rt s := rfl
@[simp] theorem W_bk (s : l) (p : Po σ l ρ) : W (.bk s) p = p.bk s := rfl
@[simp] theorem W_ct (s : l) (p : Po σ l ρ) : W (.ct s) p = p.ct s := rfl
@[simp] theorem W_ex (s : Xc) (p : Po σ l ρ) : W (.ex s) p = p.ex s := rfl
@[simp] theorem W_stuck (p : Po σ l ρ) : W .stuck p = False := rfl
theorem W_sq {m : Ct σ l ρ} {K : σ → Ct τ l ρ} {p : Po τ l ρ} (h : W m { nx := fun s => W (K s) p, rt := p.rt, bk := p.bk, ct := p.ct, ex := p.ex }) : W (m.sq K) p := by
  cases m <;> exact h
theorem W_mono {m : Ct σ l ρ} {p q : Po σ l ρ} (h : W m p) (a : ∀ s, p.nx s → q.nx s) (b : ∀ s, p.rt s → q.rt s) (c : ∀ s, p.bk s → q.bk s) (d : ∀ s, p.ct s → q.ct s) (e : ∀ s, p.ex s → q.ex s) : W m q := by
  cases m with
  | nx s => exact a _ h
  | rt s => exact b _ h
  | bk s => exact c _ h
  | ct s => exact d _ h
  | ex s => exact e _ h
  | stuck => exact h
/-- a block with what holds behind it -/
theorem W_cut {m : Ct σ l ρ} {K : σ → Ct τ l ρ} {p : Po τ l ρ} (J : σ → Prop) (h : W m { nx := J, rt := p.rt, bk := p.bk, ct := p.ct, ex := p.ex }) (k : ∀ s, J s → W (K s) p) : W (m.sq K) p :=
  W_sq (W_mono h k (fun _ z => z) (fun _ z => z) (fun _ z => z) (fun _ z => z))
theorem W_forI {body : α → σ → Ct σ σ ρ} {p : Po σ l ρ} (I : Nat → σ → Prop) : ∀ (as : List α) (n : Nat) (s : σ), I n s → (∀ i a s, as[i]? = some a → I (n + i) s → W (body a s) { nx := I (n + i + 1), ct := I (n + i + 1), bk := p.nx, rt := p.rt, ex := p.ex }) → (∀ s, I (n + as.length) s → p.nx s) → W (forC body as s) p
  | [], n, s, h0, _, k => k s h0
  | a :: as, n, s, h0, h, k => by
    have h1 := h 0 a s rfl h0
    have ih := fun s (hs : I (n + 1) s) => W_forI I as (n + 1) s hs (fun i a s hi hp => by
      have := h (i + 1) a s (by simpa using hi) (by rw [show n + (i + 1) = n + 1 + i by omega]; exact hp)
      rw [show n + 1 + i + 1 = n + (i + 1) + 1 by omega]
      exact this) (fun s hs => k s (by rw [List.length_cons, show n + (as.length + 1) = n + 1 + as.length by omega]; exact hs))
    rw [forC_cons]
    cases q : body a s with
    | nx s' => rw [q] at h1; exact ih s' h1
    | ct s' => rw [q] at h1; exact ih s' h1
    | bk s' => rw [q] at h1; exact h1
    | rt s' => rw [q] at h1; exact h1
    | ex s' => rw [q] at h1; exact h1
    | stuck => rw [q] at h1; exact h1
theorem W_for {body : α → σ → Ct σ σ ρ} {p : Po σ l ρ} {as : List α} {s : σ} (I : Nat → σ → Prop) (h0 : I 0 s) (h : ∀ i a s, as[i]? = some a → I i s → W (body a s) { nx := I (i + 1), ct := I (i + 1), bk := p.nx, rt := p.rt, ex := p.ex }) (k : ∀ s, I as.length s → p.nx s) : W (forC body as s) p :=
  W_forI I as 0 s h0 (fun i a s hi hp => by rw [Nat.zero_add] at hp ⊢; exact h i a s hi hp) (by rw [Nat.zero_add]; exact k)
theorem W_while {t : σ → N Bool} {body : σ → Ct σ σ ρ} {p : Po σ l ρ} (I : Nat → σ → Prop) : ∀ (f m : Nat) (s : σ), m < f → I m s → (∀ m s, I m s → (t s = .ok false ∧ p.nx s) ∨ (t s = .ok true ∧ W (body s) { nx := fun s => ∃ k, k < m ∧ I k s, ct := fun s => ∃ k, k < m ∧ I k s, bk := p.nx, rt := p.rt, ex := p.ex })) → W (whileC t body f s) p
  | 0, m, s, hm, _, _ => by omega
  | f + 1, m, s, hm, h0, h => by
    rcases h m s h0 with ⟨e, z⟩ | ⟨e, z⟩
    · simp only [whileC, e, ct_ok]
      exact z
    · simp only [whileC, e, ct_ok, if_true]
      have ih : ∀ s, (∃ k, k < m ∧ I k s) → W (whileC t body f s) p := fun s hs => by
        obtain ⟨k, hk, hI⟩ := hs
        exact W_while (p := p) I f k s (by omega) hI h
      cases q : body s with
      | nx s' => rw [q] at z; exact ih s' z
      | ct s' => rw [q] at z; exact ih s' z
      | bk s' => rw [q] at z; exact z
      | rt s' => rw [q] at z; exact z
      | ex s' => rw [q] at z; exact z
      | stuck => rw [q] at z; exact z
theorem W_if {p : Po σ l ρ} {c : Prop} [Decidable c] {a b : Ct σ l ρ} (h1 : c → W a p) (h2 : ¬ c → W b p) : W (if c then a else b) p := by
  by_cases h : c
  · rw [if_pos h]; exact h1 h
  · rw [if_neg h]; exact h2 h
theorem W_fn {m : Ct σ l ρ} {Q : ρ → Prop} (h : W m { rt := Q }) : ∃ r, m.fn = .ok r ∧ Q r := by
  cases m with
  | rt r => exact ⟨r, rfl, h⟩
  | _ => exact h.elim
/-- the def on slots answers -/
theorem RF_ok {m : N ρ} {fo : Fo} {v : ρ → D} {outs : ρ → DEnv} {r : ρ} (h : RF m fo v outs) (e : m = .ok r) : fo = .ok (v r) (outs r) := by
  rw [e] at h
  exact h
end
end NT
set_option Elab.async false
set_option linter.all false
set_option autoImplicit false
namespace NT
open PySem L2 DL LW
end NT
set_option Elab.async false
set_option linter.all false
set_option autoImplicit false
namespace NT
open PySem L2 DL LW
end NT
set_option Elab.async false
set_option linter.all false
set_option autoImplicit false
namespace NT
open PySem L2 DL LW
section
variable {α β σ τ l ρ : Type} {c : Sps} {Q : Qs σ l ρ}
def tryC (m : Ct σ l ρ) (h : Xc → Ct σ l ρ) : Ct σ l ρ := match m with
  | .ex x => h x
  | r => r
@[simp] theorem tryC_ex (x : Xc) (h : Xc → Ct σ l ρ) : tryC (.ex x) h = h x := rfl
@[simp] theorem tryC_nx (s : σ) (h : Xc → Ct σ l ρ) : tryC (.nx s) h = .nx s := rfl
@[simp] theorem tryC_rt (s : ρ) (h : Xc → Ct σ l ρ) : tryC (.rt s) h = .rt s := rfl
@[simp] theorem tryC_stuck (h : Xc → Ct σ l ρ) : tryC .stuck h = .stuck := rfl
def kindL (x : Xc) : List (Str × Option Str) → N Str
  | [] => .ex x
  | (n, w) :: r => if mtC n x.c = true then (match kindD x w with
    | some (.str s) => .ok s
    | _ => .stuck) else kindL x r
def kindT (x : Xc) (l : List (Str × Option Str)) : N Str := if x.c ∈ kNames then kindL x l else .stuck
end
end NT
set_option Elab.async false
set_option linter.all false
set_option autoImplicit false
namespace NT
open PySem L2 DL LW
end NT
set_option Elab.async false
set_option linter.all false
set_option autoImplicit false
namespace NT
open PySem L2 DL LW
section
variable {α β γ σ τ l ρ : Type} {c : Sps} {m : Ct σ l ρ} {Q : Qs σ l ρ}
def eY (f : α → D) (g : β → D) : α ⊕ β → D
  | .inl a => f a
  | .inr b => g b
instance {f : α → D} {g : β → D} [h : NnE f] [i : NnE g] : NnE (eY f g) := ⟨fun a => by
  cases a
  · exact h.nn _
  · exact i.nn _⟩
end
end NT
set_option Elab.async false
set_option linter.all false
set_option autoImplicit false
namespace NT
open PySem L2 DL LW
end NT
set_option Elab.async false
set_option linter.all false
set_option maxRecDepth 100000
set_option autoImplicit false
set_option maxHeartbeats 4000000
namespace NT
open PySem L2 DL LW
section
variable {α β γ σ τ l ρ : Type} {c : Sps} {m : Ct σ l ρ} {Q : Qs σ l ρ}
theorem intsOf_eI : ∀ xs : List Int, intsOf (xs.map eI) = some xs
  | [] => rfl
  | i :: r => by
    show (intsOf (r.map eI)).map (i :: ·) = _
    rw [intsOf_eI r]
    rfl
def unL (x : α ⊕ β) : N α := match x with
  | .inl a => .ok a
  | .inr _ => .stuck
def unR (x : α ⊕ β) : N β := match x with
  | .inl _ => .stuck
  | .inr b => .ok b
@[simp] theorem unL_inl (a : α) : unL (.inl a : α ⊕ β) = .ok a := rfl
@[simp] theorem unR_inr (b : β) : unR (.inr b : α ⊕ β) = .ok b := rfl
end
end NT
set_option Elab.async false
set_option linter.all false
set_option autoImplicit false
namespace NT
open PySem L2 DL LW
section
variable {c : Sps} {κ β : Type} [DecidableEq κ] {f : κ → D} {g : β → D} [ke : KeyE f] {kvs : List (κ × β)} {k : κ} {i : Nat} {dk : DE}
def dgetO (kvs : List (κ × β)) (k : Option κ) : Option β := match k with
  | none => none
  | some k => dget kvs k
@[simp] theorem dgetO_none (kvs : List (κ × β)) : dgetO kvs none = none := rfl
@[simp] theorem dgetO_some (kvs : List (κ × β)) (k : κ) : dgetO kvs (some k) = dget kvs k := rfl
variable {σ l ρ : Type} {m : Ct σ l ρ} {Q : Qs σ l ρ}
end
section
variable {c : Sps}
def slotA (c : Sps) (i : Nat) : Option (List D) := match c[i]? with
  | some (.is (.l xs)) => some xs
  | some (.is (.p xs)) => some xs
  | some (.is (.v (.list xs))) => some xs
  | some (.is (.v (.tuple xs))) => some xs
  | _ => none
theorem ep_listA {xs : List D} {i : Nat} (h : slotA c i = some xs := by rfl) : EP c (lListA i) xs := fun e he => by
  unfold slotA at h
  unfold lListA seeA
  split at h <;> cases h
  all_goals
    rename_i q
    rw [he.is q]
end
structure Dd where
  w : Str
  h : Int
  o : Option Int
deriving DecidableEq
def eDd (d : Dd) : D := match d.o with
  | none => .tuple [.str d.w, .int d.h]
  | some x => .tuple [.str d.w, .int d.h, .int x]
instance : NnE eDd := ⟨fun d h => by
  obtain ⟨w, i, o⟩ := d
  cases o <;> cases h⟩
instance : EqE eDd := ⟨fun a b => by
  obtain ⟨w, i, o⟩ := a
  obtain ⟨w2, i2, o2⟩ := b
  cases o <;> cases o2 <;> simp [eDd, PyData.eqv, PyData.eqvAll]⟩
end NT
set_option Elab.async false
set_option linter.all false
set_option autoImplicit false
namespace NT
open PySem L2 DL LW
section
variable {α β σ l ρ : Type} {c : Sps} {m : Ct σ l ρ} {Q : Qs σ l ρ}
theorem rk_seqS {de : DE} {k : List D → DEnv → Fl} (g : RS c (FK de fun d => FK (put (seqS d)) k) m Q) : RS c (FK (iSeqS de) k) m Q := rk_conv (fun e => by
  unfold FK iSeqS
  cases de e <;> rfl) g
/-- data of any kind, walked -/
theorem rk_seqD {d : D} {k : List D → DEnv → Fl} {M : List D → Ct σ l ρ} (g : ∀ a, RS c (k (List.map eD a)) (M a) Q) : RS c (FK (put (seqS d)) k) ((ofO (seqS d)).ct M) Q := rk_opt (f := List.map eD) (fun a h => by rw [ofO_ok h, List.map_id']) (fun x => ofO_ex x) g
def intN (o : Option D) : N Int := match o with
  | some (.int n) => .ok n
  | _ => .stuck
theorem intN_ok {o : Option D} {a : Int} (h : intN o = .ok a) : o = some (eI a) := by
  unfold intN at h
  split at h <;> cases h
  rfl
theorem intN_ex {o : Option D} (x : Xc) : intN o ≠ .ex x := by unfold intN; split <;> exact fun h => by cases h
theorem rk_intN {o : Option D} {k : D → DEnv → Fl} {M : Int → Ct σ l ρ} (g : ∀ a, RS c (k (eI a)) (M a) Q) : RS c (FK (put o) k) ((intN o).ct M) Q := rk_opt (f := eI) (fun _ h => intN_ok h) (fun x => intN_ex x) g
theorem map_some {f : α → D} (ys : List α) : (ys.map some).map (eO f) = ys.map f := by rw [List.map_map]; rfl
end
end NT
set_option Elab.async false
set_option linter.all false
set_option autoImplicit false
namespace NT
open PySem L2 DL LW
instance : KeyE eS where
  key := .inr
  keyOf := fun _ => rfl
  kEq := fun a k => by
    show decide _ = _
    simp
  kD := fun _ => rfl
end NT
namespace NT
open PySem L2 DL LW
/-- what is known, written out -/
theorem rs_nf {σ l ρ : Type} {c c' : Sps} {f : DEnv → Fl} {m : Ct σ l ρ} {Q : Qs σ l ρ} (g : RS c' f m Q) (h : c = c' := by rfl) : RS c f m Q := h ▸ g
end NT
set_option Elab.async false
set_option linter.all false
set_option autoImplicit false
namespace NT
open PySem L2 DL LW
section
variable {α σ l ρ : Type} {c : Sps} {Q : Qs σ l ρ}
def mulTN (xs : List α) (n : Int) : N (List α) := if xs.isEmpty = false ∧ 2 ≤ n ∧ n ≤ 1000 ∧ xs.length ≤ 1000 then .ok (List.replicate n.toNat xs).flatten else .stuck
theorem map_flat (f : α → D) (xs : List α) : ∀ m, (List.replicate m (xs.map f)).flatten = (List.replicate m xs).flatten.map f
  | 0 => rfl
  | m + 1 => by
    rw [List.replicate_succ, List.replicate_succ, List.flatten_cons, List.flatten_cons, List.map_append, map_flat f xs m]
theorem rk_mulT {f : α → D} {xs : List α} {n : Int} {k : D → DEnv → Fl} {M : List α → Ct σ l ρ} (g : ∀ ys, RS c (k (eTs f ys)) (M ys) Q) : RS c (FK (put (dMulT (eTs f xs) (eI n))) k) ((mulTN xs n).ct M) Q := rk_opt (f := eTs f) (fun a h => by
  unfold mulTN at h
  split at h
  · rename_i q
    cases h
    show repT (xs.map f) n = _
    unfold repT
    have q1 : xs.map f ≠ [] := by
      intro z
      rw [List.map_eq_nil_iff] at z
      rw [z] at q
      exact absurd q.1 (by simp)
    rw [if_pos ⟨q1, q.2.1, q.2.2.1, by rw [List.length_map]; exact q.2.2.2⟩, map_flat]
  · cases h) (fun x h => by
  unfold mulTN at h
  split at h <;> cases h) g
end
end NT
set_option Elab.async false
set_option linter.all false
set_option maxRecDepth 100000
set_option autoImplicit false
namespace NT
open PySem L2 DL LW
/-- a dict as data -/
abbrev eM {κ β : Type} (f : κ → D) (g : β → D) (kvs : List (κ × β)) : D := .dict (eKv f g kvs)
instance {κ β : Type} {f : κ → D} {g : β → D} : NnE (eM f g) := ⟨fun _ h => by cases h⟩
section
variable {α β σ τ l ρ : Type} {c : Sps} {m : Ct σ l ρ} {Q : Qs σ l ρ}
section
variable {κ : Type} [DecidableEq κ] {f : κ → D} {g : β → D} [ke : KeyE f]
def ownM (c : Sps) (i : Nat) : Bool := match c[i]? with
  | some (.is (.m _)) => true
  | _ => false
end
end
end NT
namespace NT
open PySem L2 DL LW
end NT
set_option Elab.async false
set_option linter.all false
set_option maxRecDepth 100000
set_option autoImplicit false
namespace NT
open PySem L2 DL LW
end NT
set_option Elab.async false
set_option linter.all false
set_option maxRecDepth 100000
set_option autoImplicit false
namespace NT
open PySem L2 DL LW
end NT
set_option Elab.async false
set_option linter.all false
set_option maxRecDepth 100000
set_option autoImplicit false
namespace NT
open PySem L2 DL LW
end NT
set_option Elab.async false
set_option linter.all false
set_option maxRecDepth 100000
set_option autoImplicit false
namespace NT
open PySem L2 DL LW
end NT
set_option Elab.async false
set_option linter.all false
set_option maxRecDepth 100000
set_option autoImplicit false
namespace NT
open PySem L2 DL LW
end NT
set_option Elab.async false
set_option linter.all false
set_option maxRecDepth 100000
set_option autoImplicit false
namespace NT
open PySem L2 DL LW
def lone (n : Int) : LO := [(.none, some n)]
end NT
set_option Elab.async false
set_option linter.all false
set_option maxRecDepth 100000
set_option autoImplicit false
namespace NT
open PySem L2 DL LW
end NT
set_option Elab.async false
set_option linter.all false
set_option maxRecDepth 100000
set_option autoImplicit false
namespace NT
open PySem L2 DL LW
end NT
set_option Elab.async false
set_option linter.all false
set_option maxRecDepth 100000
set_option autoImplicit false
namespace NT
open PySem L2 DL LW
end NT
set_option Elab.async false
set_option linter.all false
set_option maxRecDepth 100000
set_option autoImplicit false
namespace NT
open PySem L2 DL LW
end NT
set_option Elab.async false
set_option linter.all false
set_option maxRecDepth 100000
set_option autoImplicit false
namespace NT
open PySem L2 DL LW
end NT
set_option Elab.async false
set_option linter.all false
set_option maxRecDepth 100000
set_option autoImplicit false
namespace NT
open PySem L2 DL LW
end NT
set_option Elab.async false
set_option linter.all false
set_option maxRecDepth 100000
set_option autoImplicit false
namespace NT
open PySem L2 DL LW
end NT
set_option Elab.async false
set_option linter.all false
set_option maxRecDepth 100000
set_option autoImplicit false
namespace NT
open PySem L2 DL LW
end NT
set_option Elab.async false
set_option linter.all false
set_option maxRecDepth 100000
set_option autoImplicit false
namespace NT
open PySem L2 DL LW
end NT
set_option Elab.async false
set_option linter.all false
set_option maxRecDepth 100000
set_option autoImplicit false
namespace NT
open PySem L2 DL LW
section
variable {α β σ l ρ : Type} {c : Sps} {m : Ct σ l ρ} {Q : Qs σ l ρ} {cn x : Str} {i np : Nat} {fs : List (Str × Tr)}
theorem idx_at {xs : List α} {j : Int} {x : α} (h : idx xs j = .ok x) : ∃ n, ixN xs.length j = some n ∧ xs[n]? = some x := by
  have h : atI xs j = some x := ofO_ok h
  unfold atI at h
  obtain ⟨n, h1, h2⟩ := Option.bind_eq_some_iff.1 h
  exact ⟨n, h1, h2⟩
end
end NT
namespace NT
open PySem L2 DL LW
end NT
set_option Elab.async false
set_option linter.all false
set_option maxRecDepth 100000
set_option autoImplicit false
namespace NT
open PySem L2 DL LW
end NT
set_option Elab.async false
set_option linter.all false
set_option maxRecDepth 100000
set_option autoImplicit false
namespace NT
open PySem L2 DL LW
end NT
set_option Elab.async false
set_option linter.all false
set_option maxRecDepth 100000
set_option autoImplicit false
namespace NT
open PySem L2 DL LW
end NT
set_option Elab.async false
set_option linter.all false
set_option maxRecDepth 100000
set_option autoImplicit false
namespace NT
open PySem L2 DL LW
section
variable {α β σ τ l ρ : Type} {c : Sps} {m : Ct σ l ρ} {Q : Qs σ l ρ}
theorem intsOf_inv : ∀ {ds : List D} {ns : List Int}, intsOf ds = some ns → ds = ns.map eI
  | [], _, h => by cases h; rfl
  | .int i :: r, ns, h => by
    cases q : intsOf r with
    | none => simp [intsOf, q] at h
    | some ms =>
      simp [intsOf, q] at h
      subst h
      rw [List.map_cons, ← intsOf_inv q]
  | .none :: _, _, h => by cases h
  | .bool _ :: _, _, h => by cases h
  | .str _ :: _, _, h => by cases h
  | .list _ :: _, _, h => by cases h
  | .tuple _ :: _, _, h => by cases h
  | .dict _ :: _, _, h => by cases h
def optsOf : List D → Option (List (Option Int))
  | [] => some []
  | .int i :: r => (optsOf r).map (some i :: ·)
  | .none :: r => (optsOf r).map (none :: ·)
  | _ :: _ => none
theorem optsOf_inv : ∀ {ds : List D} {ns : List (Option Int)}, optsOf ds = some ns → ds = ns.map (eO eI)
  | [], _, h => by cases h; rfl
  | .int i :: r, ns, h => by
    cases q : optsOf r with
    | none => simp [optsOf, q] at h
    | some ms =>
      simp [optsOf, q] at h
      subst h
      rw [List.map_cons, ← optsOf_inv q]
      rfl
  | .none :: r, ns, h => by
    cases q : optsOf r with
    | none => simp [optsOf, q] at h
    | some ms =>
      simp [optsOf, q] at h
      subst h
      rw [List.map_cons, ← optsOf_inv q]
      rfl
  | .bool _ :: _, _, h => by cases h
  | .str _ :: _, _, h => by cases h
  | .list _ :: _, _, h => by cases h
  | .tuple _ :: _, _, h => by cases h
  | .dict _ :: _, _, h => by cases h
def unTI (x : D) : N (List Int) := match x with
  | .tuple ds => ofO (intsOf ds)
  | _ => .stuck
def unTO (x : D) : N (List (Option Int)) := match x with
  | .tuple ds => ofO (optsOf ds)
  | _ => .stuck
def unP2 (x : D) : N (D × D) := match x with
  | .tuple [a, b] => .ok (a, b)
  | _ => .stuck
theorem rs_unTI {x : D} {f : DEnv → Fl} {M : List Int → Ct σ l ρ} (h : ∀ y, x = eTs eI y → RS c f (M y) Q) : RS c f ((unTI x).ct M) Q := by
  unfold unTI
  split
  · rename_i ds
    cases q : intsOf ds with
    | none => exact fun _ _ => trivial
    | some ns => exact h ns (by rw [intsOf_inv q])
  · exact fun _ _ => trivial
theorem rs_unTO {x : D} {f : DEnv → Fl} {M : List (Option Int) → Ct σ l ρ} (h : ∀ y, x = eTs (eO eI) y → RS c f (M y) Q) : RS c f ((unTO x).ct M) Q := by
  unfold unTO
  split
  · rename_i ds
    cases q : optsOf ds with
    | none => exact fun _ _ => trivial
    | some ns => exact h ns (by rw [optsOf_inv q])
  · exact fun _ _ => trivial
theorem rs_unP2 {x : D} {f : DEnv → Fl} {M : D × D → Ct σ l ρ} (h : ∀ y : D × D, x = .tuple [y.1, y.2] → RS c f (M y) Q) : RS c f ((unP2 x).ct M) Q := by
  unfold unP2
  split
  · rename_i a b
    exact h (a, b) rfl
  · exact fun _ _ => trivial
def revO (x : D) : Option D := match x with
  | .tuple ds => some (.tuple ds.reverse)
  | _ => none
theorem rk_revT {de : DE} {k : D → DEnv → Fl} (g : RS c (FK de fun d => FK (put (revO d)) k) m Q) : RS c (FK (eRevT de) k) m Q := rk_conv (fun e => by
  unfold FK eRevT
  rw [fl_bind]
  cases de e with
  | ok d e1 => cases d <;> rfl
  | ex _ _ => rfl
  | stuck => rfl) g
theorem map_eD (xs : List D) : xs.map eD = xs := by
  have : (eD : D → D) = id := rfl
  rw [this, List.map_id]
theorem rk_listD {d : D} {k : List D → DEnv → Fl} {M : List D → Ct σ l ρ} (g : ∀ xs : List D, RS c (k (xs.map eD)) (M xs) Q) : RS c (FK (put (fList [d])) k) ((ofO (fList [d])).ct M) Q := rk_anyD fun a => by
  have := g a
  rwa [map_eD] at this
end
end NT
set_option Elab.async false
set_option linter.all false
set_option maxRecDepth 100000
set_option maxHeartbeats 4000000
namespace NW
open PySem L2 DL LW NT
noncomputable section
def n_is_whole (thing0 : D) : N Bool := Ct.fn (
 .rt ((isIntD thing0) && (!(isBoolD thing0))) : Ct Unit Unit Bool)
theorem rf_is_whole (thing0 : D) : RF (n_is_whole thing0) (f_is_whole [.v thing0]) (fun r => (eB r)) (fun r => [.no]) := rf_of (n := 1) (b := b_is_whole) (c0 := [.is (.v thing0)])
 (rs_last (rs_ret (rk_pure (d := (eB ((isIntD thing0) && (!(isBoolD thing0))))) (ep_and (ep_isi (ep_var (d := thing0) rfl) (isi_int thing0)) (ep_not (ep_isi (ep_var (d := thing0) rfl) (isi_bool thing0))))  (rk_ret (r := ((isIntD thing0) && (!(isBoolD thing0)))) fun _ he => ⟨rfl, outs_of rfl rfl he⟩))))
def n_broken (onward0 : (List Int)) (mates0 : (List (Option Int))) : N (Option Int) := Ct.fn (
 (rngN (onward0.length : Int)).ct fun xs0 =>
 (forC (fun half0 => fun met0 =>
 ((idx onward0 half0).ct fun a0 =>
 (if ((decide (a0 < (0 : Int))) || ((decide ((onward0.length : Int) ≤ a0)) || (dhas met0 a0))) = true then
 .rt (some half0) else
 (putN met0 a0 true).ct fun met1 =>
 (idx mates0 half0).ct fun a1 =>
 (Ct.fn ((optC a1
 (.rt false)
 (fun mate1 => (Ct.fn ((if (decide (mate1 < (0 : Int))) = true then
 .rt true else
 (if (decide ((onward0.length : Int) ≤ mate1)) = true then
 .rt true else
 (if (decide (mate1 = half0)) = true then
 .rt true else
 (idx mates0 mate1).ct fun a2 =>
 .rt (!(decide (a2 = (some half0))))))) : Ct Unit Unit Bool)).ct fun b0 =>
 .rt b0)) : Ct Unit Unit Bool)).ct fun b1 =>
 (if b1 = true then
 .rt (some half0) else
 .nx met1)) : Ct (List (Int × Bool)) (List (Int × Bool)) _)) xs0 ([] : (List (Int × Bool)))).sq fun met2 =>
 .rt none : Ct Unit Unit (Option Int))
theorem rf_broken (onward0 : (List Int)) (mates0 : (List (Option Int))) : RF (n_broken onward0 mates0) (f_broken [.v ((eTs eI) onward0), .v ((eTs (eO eI)) mates0)]) (fun r => ((eO eI) r)) (fun r => [.no, .no]) := rf_of (n := 7) (b := b_broken) (c0 := [.is (.v ((eTs eI) onward0)), .is (.v ((eTs (eO eI)) mates0)), .nw, .nw, .nw, .nw, .nw])
 (rs_asg (rk_pure (d := (eI (onward0.length : Int))) (ep_cb (ep_acons (ep_var (d := ((eTs eI) onward0)) rfl) ep_anil) (len_T (f := eI) onward0))  (rk_asgN (rs_asgM (rk_pure ep_dict0 (rk_asgM (rs_forK (rk_rng (j := (onward0.length : Int)) (ep_acons (ep_var (d := (eI (onward0.length : Int))) rfl) ep_anil) fun xs0 => (rs_for (fe := eI) (c0 := fun met0 => [.is (.v ((eTs eI) onward0)), .is (.v ((eTs (eO eI)) mates0)), .is (.v (eI (onward0.length : Int))), .is (.m (eKv eI eB met0)), .nw, .nw, .nw]) (c1 := fun half0 => fun met0 => [.is (.v ((eTs eI) onward0)), .is (.v ((eTs (eO eI)) mates0)), .is (.v (eI (onward0.length : Int))), .is (.m (eKv eI eB met0)), .is (.v (eI half0)), .nw, .nw]) (s0 := ([] : (List (Int × Bool)))) (sub_cons wk_is (sub_cons wk_is (sub_cons wk_is (sub_cons wk_is (sub_cons wk_nw (sub_cons wk_nw (sub_cons wk_nw sub_nil))))))) (fun _ met0 => gs_N) (fun half0 met0 => (rs_asg (rk_ixN (rk_pure (d := (eI half0)) (ep_var (d := (eI half0)) rfl)  (rk_ixAt (d := ((eTs eI) onward0)) (rk_ixT (f := eI) (xs := onward0) fun a0 => (rk_asgN (rs_if (rk_pure (d := ((decide (a0 < (0 : Int))) || ((decide ((onward0.length : Int) ≤ a0)) || (dhas met0 a0)))) (ep_orT (ep_tst (ep_bin (ep_var (d := (eI a0)) rfl) ep_C rfl)) (ep_orT (ep_tst (ep_bin (ep_var (d := (eI a0)) rfl) (ep_var (d := (eI (onward0.length : Int))) rfl) rfl)) (ep_tst (ep_inM (f := eI) (g := eB) (kvs := met0) (k := a0) (ep_var (d := (eI a0)) rfl) rfl)))) (rk_ifF (rs_ret (rk_pure (d := ((eO eI) (some half0))) (ep_var (d := (eI half0)) rfl)  (rk_ret (r := (some half0)) fun _ he => ⟨rfl, outs_of rfl rfl he⟩))) (rs_nxs (rs_putM (rk_pure (d := (eB true)) ep_C  (rk_kn (rk_pure (d := (eI a0)) (ep_var (d := (eI a0)) rfl)  (rk_putM (f := eI) (g := eB) (kk := a0) (v := true) (kvs := met0) fun met1 => (rs_nf (c' := [.is (.v ((eTs eI) onward0)), .is (.v ((eTs (eO eI)) mates0)), .is (.v (eI (onward0.length : Int))), .is (.m (eKv eI eB met1)), .is (.v (eI half0)), .is (.v (eI a0)), .nw]) (rs_asg (rk_ixN (rk_pure (d := (eI half0)) (ep_var (d := (eI half0)) rfl)  (rk_ixAt (d := ((eTs (eO eI)) mates0)) (rk_ixT (f := (eO eI)) (xs := mates0) fun a1 => (rk_asgN (rs_last (rs_if (rk_unitT (v := fun b1 => b1) (c' := fun b1 => [.is (.v ((eTs eI) onward0)), .is (.v ((eTs (eO eI)) mates0)), .is (.v (eI (onward0.length : Int))), .is (.m (eKv eI eB met1)), .is (.v (eI half0)), .is (.v (eI a0)), .is (.v ((eO eI) a1))]) (by apply rs_opt (x := a1); exact (rk_andT (rk_pure (d := false) (ep_tst (ep_bin (ep_var (d := ((eO eI) none)) rfl) ep_C (isnt_none (f := eI) none))) (rk_retT fun _ he => ⟨rfl, he.sub (sub_cons wk_is (sub_cons wk_is (sub_cons wk_is (sub_cons wk_is (sub_cons wk_is (sub_cons wk_is (sub_cons wk_is sub_nil)))))))⟩))); exact (fun mate1 => rk_andT (rk_pure (d := true) (ep_tst (ep_bin (ep_var (d := (eI mate1)) rfl) ep_C rfl)) (rk_unitT (v := fun b0 => b0) (c' := fun b0 => [.is (.v ((eTs eI) onward0)), .is (.v ((eTs (eO eI)) mates0)), .is (.v (eI (onward0.length : Int))), .is (.m (eKv eI eB met1)), .is (.v (eI half0)), .is (.v (eI a0)), .is (.v (eI mate1))]) (rk_orT (rk_pure (d := (decide (mate1 < (0 : Int)))) (ep_tst (ep_bin (ep_var (d := (eI mate1)) rfl) ep_C rfl)) (rk_ifF (rk_retT fun _ he => ⟨rfl, he.sub (sub_cons wk_is (sub_cons wk_is (sub_cons wk_is (sub_cons wk_is (sub_cons wk_is (sub_cons wk_is (sub_cons wk_is sub_nil)))))))⟩) (rk_orT (rk_pure (d := (decide ((onward0.length : Int) ≤ mate1))) (ep_tst (ep_bin (ep_var (d := (eI mate1)) rfl) (ep_var (d := (eI (onward0.length : Int))) rfl) rfl)) (rk_ifF (rk_retT fun _ he => ⟨rfl, he.sub (sub_cons wk_is (sub_cons wk_is (sub_cons wk_is (sub_cons wk_is (sub_cons wk_is (sub_cons wk_is (sub_cons wk_is sub_nil)))))))⟩) (rk_orT (rk_pure (d := (decide (mate1 = half0))) (ep_tst (ep_bin (ep_var (d := (eI mate1)) rfl) (ep_var (d := (eI half0)) rfl) (eq_typed (f := eI) mate1 half0))) (rk_ifF (rk_retT fun _ he => ⟨rfl, he.sub (sub_cons wk_is (sub_cons wk_is (sub_cons wk_is (sub_cons wk_is (sub_cons wk_is (sub_cons wk_is (sub_cons wk_is sub_nil)))))))⟩) (rk_tst (rk_bin (rk_ixN (rk_pure (d := (eI mate1)) (ep_var (d := (eI mate1)) rfl)  (rk_ixAt (d := ((eTs (eO eI)) mates0)) (rk_ixT (f := (eO eI)) (xs := mates0) fun a2 => (rk_pure (d := (eI half0)) (ep_var (d := (eI half0)) rfl)  (rk_put (ne_typed (f := (eO eI)) a2 (some half0)) (rk_put rfl (rk_retT fun _ he => ⟨rfl, he.sub (sub_cons wk_is (sub_cons wk_is (sub_cons wk_is (sub_cons wk_is (sub_cons wk_is (sub_cons wk_is (sub_cons wk_is sub_nil)))))))⟩))))) rfl)))))))))))))) (fun b0 => (rk_retT fun _ he => ⟨rfl, he.sub (sub_cons wk_is (sub_cons wk_is (sub_cons wk_is (sub_cons wk_is (sub_cons wk_is (sub_cons wk_is (sub_cons wk_is sub_nil)))))))⟩)))))) (fun b1 => (rk_ifF (rs_ret (rk_pure (d := ((eO eI) (some half0))) (ep_var (d := (eI half0)) rfl)  (rk_ret (r := (some half0)) fun _ he => ⟨rfl, outs_of rfl rfl he⟩))) (rs_nxs (rs_nx fun _ he => he.sub (sub_cons wk_is (sub_cons wk_is (sub_cons wk_is (sub_cons wk_is (sub_cons wk_vnw (sub_cons wk_vnw (sub_cons wk_vnw sub_nil)))))))))))))))) rfl)))))))))))))))) rfl))))) (fun met2 => (rs_last (rs_ret (rk_pure (d := ((eO eI) none)) ep_C  (rk_ret (r := none) fun _ he => ⟨rfl, outs_of rfl rfl he⟩))))))))))))))
def n__law_take (bag0 : (List Int)) (many0 : Int) : N (Int × (List Int)) := Ct.fn (
 (idx bag0 (0 : Int)).ct fun a0 =>
 (if (decide ((0 : Int) < a0)) = true then
 (idx bag0 (0 : Int)).ct fun a1 =>
 (modN a1 many0).ct fun n0 =>
 (idx bag0 (0 : Int)).ct fun a2 =>
 (divN a2 many0).ct fun n1 =>
 (setN bag0 (0 : Int) n1).ct fun bag1 =>
 .rt (n0, bag1) else
 (idx bag0 (1 : Int)).ct fun a3 =>
 (mulN a3 (48271 : Int)).ct fun n2 =>
 (modN n2 (2147483647 : Int)).ct fun n3 =>
 (setN bag0 (1 : Int) n3).ct fun bag2 =>
 (idx bag2 (1 : Int)).ct fun a4 =>
 (idx bag2 (1 : Int)).ct fun a5 =>
 (mulN a4 a5).ct fun n4 =>
 (modN n4 (2147483629 : Int)).ct fun n5 =>
 (divN n5 (64 : Int)).ct fun n6 =>
 (modN n6 many0).ct fun n7 =>
 .rt (n7, bag2)) : Ct Unit Unit (Int × (List Int)))
theorem rf__law_take (bag0 : (List Int)) (many0 : Int) : RF (n__law_take bag0 many0) (f__law_take [.p (List.map eI bag0), .v (eI many0)]) (fun r => (eI r.1)) (fun r => [.p (List.map eI r.2), .no]) := rf_of (n := 3) (b := b__law_take) (c0 := [.is (.p (List.map eI bag0)), .is (.v (eI many0)), .nw])
 (rs_if (rk_tst (rk_bin (rk_ixN (rk_pure (d := (eI (0 : Int))) ep_C  (rk_ixAt (d := ((eLs eI) bag0)) (rk_ixL (f := eI) (xs := bag0) fun a0 => (rk_pure (d := (eI (0 : Int))) ep_C  (rk_put rfl (rk_put rfl (rk_ifF (rs_assoc (rs_asg (rk_bin (rk_ixN (rk_pure (d := (eI (0 : Int))) ep_C  (rk_ixAt (d := ((eLs eI) bag0)) (rk_ixL (f := eI) (xs := bag0) fun a1 => (rk_pure (d := (eI many0)) (ep_var (d := (eI many0)) rfl)  (rk_mod fun n0 => (rk_asgN (rs_assoc (rs_setO (rk_bin (rk_ixN (rk_pure (d := (eI (0 : Int))) ep_C  (rk_ixAt (d := ((eLs eI) bag0)) (rk_ixL (f := eI) (xs := bag0) fun a2 => (rk_pure (d := (eI many0)) (ep_var (d := (eI many0)) rfl)  (rk_div fun n1 => (rk_kn (rk_pure (d := (eI (0 : Int))) ep_C  (rk_set (fe := eI) (a := n1) (xs := bag0) fun bag1 => (rs_nf (c' := [.is (.p (List.map eI bag1)), .is (.v (eI many0)), .is (.v (eI n0))]) (rs_ret (rk_pure (d := (eI n0)) (ep_var (d := (eI n0)) rfl)  (rk_ret (r := (n0, bag1)) fun _ he => ⟨rfl, outs_of rfl rfl he⟩)))))))))) rfl)))))))))) rfl)))))) (rs_nxs (rs_setO (rk_bin (rk_bin (rk_ixN (rk_pure (d := (eI (1 : Int))) ep_C  (rk_ixAt (d := ((eLs eI) bag0)) (rk_ixL (f := eI) (xs := bag0) fun a3 => (rk_pure (d := (eI (48271 : Int))) ep_C  (rk_mul fun n2 => (rk_pure (d := (eI (2147483647 : Int))) ep_C  (rk_mod fun n3 => (rk_kn (rk_pure (d := (eI (1 : Int))) ep_C  (rk_set (fe := eI) (a := n3) (xs := bag0) fun bag2 => (rs_nf (c' := [.is (.p (List.map eI bag2)), .is (.v (eI many0)), .nw]) (rs_last (rs_ret (rk_bin (rk_bin (rk_bin (rk_bin (rk_ixN (rk_pure (d := (eI (1 : Int))) ep_C  (rk_ixAt (d := ((eLs eI) bag2)) (rk_ixL (f := eI) (xs := bag2) fun a4 => (rk_ixN (rk_pure (d := (eI (1 : Int))) ep_C  (rk_ixAt (d := ((eLs eI) bag2)) (rk_ixL (f := eI) (xs := bag2) fun a5 => (rk_mul fun n4 => (rk_pure (d := (eI (2147483629 : Int))) ep_C  (rk_mod fun n5 => (rk_pure (d := (eI (64 : Int))) ep_C  (rk_div fun n6 => (rk_pure (d := (eI many0)) (ep_var (d := (eI many0)) rfl)  (rk_mod fun n7 => (rk_ret (r := (n7, bag2)) fun _ he => ⟨rfl, outs_of rfl rfl he⟩))))))))) rfl)))) rfl)))))))))))))))))) rfl)))))))))))) rfl))))))
def n__law_bag (script0 : (List Int)) (k0 : Int) : N (List Int) := Ct.fn (
 (Ct.sq ((if (decide (k0 < (script0.length : Int))) = true then
 (idx script0 k0).ct fun a0 =>
 (powN (10 : Int) (60 : Int)).ct fun n0 =>
 (powN (10 : Int) (60 : Int)).ct fun n1 =>
 (mulN n0 n1).ct fun n2 =>
 (modN a0 n2).ct fun n3 =>
 .nx n3 else
 .nx (0 : Int)) : Ct Int _ _) fun cell0 =>
 (powN (10 : Int) (18 : Int)).ct fun n4 =>
 (if (decide (cell0 < n4)) = true then
 (mulN cell0 (7919 : Int)).ct fun n5 =>
 (mulN (104729 : Int) k0).ct fun n6 =>
 (modN (n5 + n6) (2147483646 : Int)).ct fun n7 =>
 .rt [(0 : Int), ((1 : Int) + n7)] else
 (modN (cell0 + k0) (2147483646 : Int)).ct fun n8 =>
 .rt [cell0, ((1 : Int) + n8)])) : Ct Unit Unit (List Int))
theorem rf__law_bag (script0 : (List Int)) (k0 : Int) : RFl (n__law_bag script0 k0) (f__law_bag [.v ((eLs eI) script0), .v (eI k0)]) (fun r => List.map eI r) (fun r => [.no, .no]) := rfl_of (n := 3) (b := b__law_bag) (c0 := [.is (.v ((eLs eI) script0)), .is (.v (eI k0)), .nw])
 (rs_asg (rk_pure (d := (eI (0 : Int))) ep_C  (rk_asgN (rs_seq (c1 := fun cell0 => [.is (.v ((eLs eI) script0)), .is (.v (eI k0)), .is (.v (eI cell0))]) (rs_if0 (rk_pure (d := (decide (k0 < (script0.length : Int)))) (ep_tst (ep_bin (ep_var (d := (eI k0)) rfl) (ep_cb (ep_acons (ep_var (d := ((eLs eI) script0)) rfl) ep_anil) (len_L (f := eI) script0)) rfl)) (rk_ifF (rs_last (rs_asg (rk_bin (rk_ixN (rk_pure (d := (eI k0)) (ep_var (d := (eI k0)) rfl)  (rk_ixAt (d := ((eLs eI) script0)) (rk_ixL (f := eI) (xs := script0) fun a0 => (rk_bin (rk_bin (rk_pure (d := (eI (10 : Int))) ep_C  (rk_pure (d := (eI (60 : Int))) ep_C  (rk_pow fun n0 => (rk_bin (rk_pure (d := (eI (10 : Int))) ep_C  (rk_pure (d := (eI (60 : Int))) ep_C  (rk_pow fun n1 => (rk_mul fun n2 => (rk_mod fun n3 => (rk_asgN (rs_nx fun _ he => he.sub (sub_cons wk_is (sub_cons wk_is (sub_cons wk_is sub_nil))))))))))))))))) rfl)))))) (rs_nx fun _ he => he.sub (sub_cons wk_is (sub_cons wk_is (sub_cons wk_is sub_nil))))))) (fun cell0 => (rs_if (rk_tst (rk_bin (rk_pure (d := (eI cell0)) (ep_var (d := (eI cell0)) rfl)  (rk_bin (rk_pure (d := (eI (10 : Int))) ep_C  (rk_pure (d := (eI (18 : Int))) ep_C  (rk_pow fun n4 => (rk_put rfl (rk_put rfl (rk_ifF (rs_retL (rk_lst (rk_acons (rk_pure (d := (eI (0 : Int))) ep_C  (rk_acons (rk_bin (rk_pure (d := (eI (1 : Int))) ep_C  (rk_bin (rk_bin (rk_bin (rk_pure (d := (eI cell0)) (ep_var (d := (eI cell0)) rfl)  (rk_pure (d := (eI (7919 : Int))) ep_C  (rk_mul fun n5 => (rk_bin (rk_pure (d := (eI (104729 : Int))) ep_C  (rk_pure (d := (eI k0)) (ep_var (d := (eI k0)) rfl)  (rk_mul fun n6 => (rk_put rfl (rk_pure (d := (eI (2147483646 : Int))) ep_C  (rk_mod fun n7 => (rk_put rfl (rk_anil (rk_put (if_pos (Nat.le_of_ble_eq_true rfl)) (rk_retL (r := [(0 : Int), ((1 : Int) + n7)]) fun _ he => ⟨rfl, outs_of rfl rfl he⟩)))))))))))))))))))))))) (rs_nxs (rs_last (rs_retL (rk_lst (rk_acons (rk_pure (d := (eI cell0)) (ep_var (d := (eI cell0)) rfl)  (rk_acons (rk_bin (rk_pure (d := (eI (1 : Int))) ep_C  (rk_bin (rk_pure (d := (eI (cell0 + k0))) (ep_bin (ep_var (d := (eI cell0)) rfl) (ep_var (d := (eI k0)) rfl) rfl)  (rk_pure (d := (eI (2147483646 : Int))) ep_C  (rk_mod fun n8 => (rk_put rfl (rk_anil (rk_put (if_pos (Nat.le_of_ble_eq_true rfl)) (rk_retL (r := [cell0, ((1 : Int) + n8)]) fun _ he => ⟨rfl, outs_of rfl rfl he⟩)))))))))))))))))))))))))))))))))
def n__law_skin (bag0 : (List Int)) (most0 : Int) : N (((List Int) × (List (Option Int))) × (List Int)) := Ct.fn (
 (n__law_take bag0 most0).ct (P2 fun r0 bag1 =>
 (rngN ((1 : Int) + r0)).ct fun xs0 =>
 (forC (fun half0 => (P2 fun bag2 order0 =>
 ((n__law_take bag2 (half0 + (1 : Int))).ct (P2 fun r1 bag3 =>
 (insN order0 r1 half0).ct fun order1 =>
 .nx (bag3, order1)) : Ct ((List Int) × (List Int)) ((List Int) × (List Int)) _))) xs0 (bag1, ([] : (List Int)))).sq (P2 fun bag4 order2 =>
 (repN (0 : Int) ((1 : Int) + r0)).ct fun xs1 =>
 (n__law_take bag4 (6 : Int)).ct (P2 fun r2 bag5 =>
 (n__law_take bag5 (3 : Int)).ct (P2 fun r3 bag6 =>
 (idx [((1 : Int) + r2), (3 : Int), ((1 : Int) + r0)] r3).ct fun a0 =>
 (whileC ((P3 fun bag7 onward0 left0 => Ct.fn (.rt (!(decide (left0 = ([] : (List Int))))) : Ct Unit Unit Bool))) ((P3 fun bag7 onward0 left0 =>
 ((n__law_take bag7 a0).ct (P2 fun r4 bag8 =>
 (n__law_take bag8 (2 : Int)).ct (P2 fun r5 bag9 =>
 (idx [a0, ((1 : Int) + r4)] r5).ct fun a1 =>
 (rngN (imin (left0.length : Int) a1)).ct fun xs2 =>
 (forC (fun k0 => fun onward1 =>
 ((idx (cutL left0 none (some (imin (left0.length : Int) a1))) k0).ct fun a2 =>
 (idx (cutL left0 none (some (imin (left0.length : Int) a1))) (k0 - (1 : Int))).ct fun a3 =>
 (setN onward1 a3 a2).ct fun onward2 =>
 .nx onward2 : Ct (List Int) (List Int) _)) xs2 onward0).sq fun onward3 =>
 .nx (bag9, onward3, (cutL left0 (some (imin (left0.length : Int) a1)) none)))) : Ct ((List Int) × (List Int) × (List Int)) ((List Int) × (List Int) × (List Int)) _))) FUEL (bag6, xs1, order2)).sq (P3 fun bag10 onward4 left1 =>
 (repN none ((1 : Int) + r0)).ct fun xs3 =>
 (n__law_take bag10 (3 : Int)).ct (P2 fun r6 bag11 =>
 (idx [(2 : Int), (5 : Int), (99 : Int)] r6).ct fun a4 =>
 (rngL ((1 : Int) + r0)).ct fun xs4 =>
 (whileC ((P3 fun bag12 mates0 waiting0 => Ct.fn (.rt (decide ((1 : Int) < (waiting0.length : Int))) : Ct Unit Unit Bool))) ((P3 fun bag12 mates0 waiting0 =>
 ((n__law_take bag12 (waiting0.length : Int)).ct (P2 fun r7 bag13 =>
 (popAtN waiting0 r7).ct (P2 fun a5 waiting1 =>
 (n__law_take bag13 (waiting1.length : Int)).ct (P2 fun r8 bag14 =>
 (popAtN waiting1 r8).ct (P2 fun a6 waiting2 =>
 (n__law_take bag14 a4).ct (P2 fun r9 bag15 =>
 (if (decide ((0 : Int) < r9)) = true then
 (setN mates0 a5 (some a6)).ct fun mates1 =>
 (setN mates1 a6 (some a5)).ct fun mates2 =>
 .nx (bag15, mates2, waiting2) else
 .nx (bag15, mates0, waiting2))))))) : Ct ((List Int) × (List (Option Int)) × (List Int)) ((List Int) × (List (Option Int)) × (List Int)) _))) FUEL (bag11, xs3, xs4)).sq (P3 fun bag16 mates3 waiting3 =>
 .rt ((onward4, mates3), bag16)))))))) : Ct Unit Unit (((List Int) × (List (Option Int))) × (List Int)))
theorem rf__law_skin (bag0 : (List Int)) (most0 : Int) : RF (n__law_skin bag0 most0) (f__law_skin [.p (List.map eI bag0), .v (eI most0)]) (fun r => ((eP2 (eTs eI) (eTs (eO eI))) r.1)) (fun r => [.p (List.map eI r.2), .no]) := rf_of (n := 16) (b := b__law_skin) (c0 := [.is (.p (List.map eI bag0)), .is (.v (eI most0)), .nw, .nw, .nw, .nw, .nw, .nw, .nw, .nw, .nw, .nw, .nw, .nw, .nw, .nw])
 (rs_asg (rk_bin (rk_pure (d := (eI (1 : Int))) ep_C  (rk_callN (rk_lend (rk_rcons (rk_pure (d := (eI most0)) (ep_var (d := (eI most0)) rfl)  (rk_rnil (rk_lendK (rk_call (rf__law_take bag0 most0) (fun ⟨r0, bag1⟩ => (rk_put rfl (rk_asgN (rs_asgL (rk_pure (ep_lst ep_anil) (rk_asgL (rs_forK (rk_rng (j := ((1 : Int) + r0)) (ep_acons (ep_var (d := (eI ((1 : Int) + r0))) rfl) ep_anil) fun xs0 => (rs_for (fe := eI) (c0 := (P2 fun bag2 order0 => [.is (.p (List.map eI bag2)), .is (.v (eI most0)), .is (.v (eI ((1 : Int) + r0))), .is (.l (List.map eI order0)), .nw, .nw, .nw, .nw, .nw, .nw, .nw, .nw, .nw, .nw, .nw, .nw])) (c1 := fun half0 => (P2 fun bag2 order0 => [.is (.p (List.map eI bag2)), .is (.v (eI most0)), .is (.v (eI ((1 : Int) + r0))), .is (.l (List.map eI order0)), .is (.v (eI half0)), .nw, .nw, .nw, .nw, .nw, .nw, .nw, .nw, .nw, .nw, .nw])) (s0 := (bag1, ([] : (List Int)))) (sub_cons wk_is (sub_cons wk_is (sub_cons wk_is (sub_cons wk_is (sub_cons wk_nw (sub_cons wk_nw (sub_cons wk_nw (sub_cons wk_nw (sub_cons wk_nw (sub_cons wk_nw (sub_cons wk_nw (sub_cons wk_nw (sub_cons wk_nw (sub_cons wk_nw (sub_cons wk_nw (sub_cons wk_nw sub_nil)))))))))))))))) (fun _ ⟨bag2, order0⟩ => gs_N) (fun half0 ⟨bag2, order0⟩ => (rs_last (rs_drop (rk_mo (xs := List.map eI order0) (rk_acons (rk_callN (rk_lend (rk_rcons (rk_pure (d := (eI (half0 + (1 : Int)))) (ep_bin (ep_var (d := (eI half0)) rfl) ep_C rfl)  (rk_rnil (rk_lendK (rk_call (rf__law_take bag2 (half0 + (1 : Int))) (fun ⟨r1, bag3⟩ => (rk_acons (rk_pure (d := (eI half0)) (ep_var (d := (eI half0)) rfl)  (rk_anil (rk_ins (fe := eI) (xs := order0) (a := half0) fun order1 => (rs_nf (c' := [.is (.p (List.map eI bag3)), .is (.v (eI most0)), .is (.v (eI ((1 : Int) + r0))), .is (.l (List.map eI order1)), .is (.v (eI half0)), .nw, .nw, .nw, .nw, .nw, .nw, .nw, .nw, .nw, .nw, .nw]) (rs_nx fun _ he => he.sub (sub_cons wk_is (sub_cons wk_is (sub_cons wk_is (sub_cons wk_is (sub_cons wk_vnw (sub_cons wk_nw (sub_cons wk_nw (sub_cons wk_nw (sub_cons wk_nw (sub_cons wk_nw (sub_cons wk_nw (sub_cons wk_nw (sub_cons wk_nw (sub_cons wk_nw (sub_cons wk_nw (sub_cons wk_nw sub_nil))))))))))))))))))))))) (fun _ _ _ _ => trivial))))))))))))) (fun ⟨bag4, order2⟩ => (rs_asgL (rk_rep (f := eI) (a := (0 : Int)) (n := ((1 : Int) + r0)) (ep_lst (ep_acons ep_C ep_anil)) (ep_var (d := (eI ((1 : Int) + r0))) rfl) fun xs1 => (rk_asgL (rs_asg (rk_bin (rk_elst (rk_lst (rk_acons (rk_bin (rk_pure (d := (eI (1 : Int))) ep_C  (rk_callN (rk_lend (rk_rcons (rk_pure (d := (eI (6 : Int))) ep_C  (rk_rnil (rk_lendK (rk_call (rf__law_take bag4 (6 : Int)) (fun ⟨r2, bag5⟩ => (rk_put rfl (rk_acons (rk_pure (d := (eI (3 : Int))) ep_C  (rk_acons (rk_pure (d := (eI ((1 : Int) + r0))) (ep_var (d := (eI ((1 : Int) + r0))) rfl)  (rk_anil (rk_put (if_pos (Nat.le_of_ble_eq_true rfl)) (rk_callN (rk_lend (rk_rcons (rk_pure (d := (eI (3 : Int))) ep_C  (rk_rnil (rk_lendK (rk_call (rf__law_take bag5 (3 : Int)) (fun ⟨r3, bag6⟩ => (rk_ixL (f := eI) (xs := [((1 : Int) + r2), (3 : Int), ((1 : Int) + r0)]) fun a0 => (rk_asgN (rs_asg (rk_elst (rk_pure (ep_listA (xs := List.map eI order2) rfl) (rk_asgN (rs_while (c0 := (P3 fun bag7 onward0 left0 => [.is (.p (List.map eI bag7)), .is (.v (eI most0)), .is (.v (eI ((1 : Int) + r0))), .is (.l (List.map eI order2)), .nw, .is (.l (List.map eI onward0)), .is (.v (eI a0)), .is (.v ((eLs eI) left0)), .nw, .nw, .nw, .nw, .nw, .nw, .nw, .nw])) (s0 := (bag6, xs1, order2)) (sub_cons wk_is (sub_cons wk_is (sub_cons wk_is (sub_cons wk_is (sub_cons wk_nw (sub_cons wk_is (sub_cons wk_is (sub_cons wk_is (sub_cons wk_nw (sub_cons wk_nw (sub_cons wk_nw (sub_cons wk_nw (sub_cons wk_nw (sub_cons wk_nw (sub_cons wk_nw (sub_cons wk_nw sub_nil)))))))))))))))) (fun ⟨bag7, onward0, left0⟩ => rk_fnrt (v := eB) (c' := fun _ => [.is (.p (List.map eI bag7)), .is (.v (eI most0)), .is (.v (eI ((1 : Int) + r0))), .is (.l (List.map eI order2)), .nw, .is (.l (List.map eI onward0)), .is (.v (eI a0)), .is (.v ((eLs eI) left0)), .nw, .nw, .nw, .nw, .nw, .nw, .nw, .nw]) (rk_pure (d := (!(decide (left0 = ([] : (List Int)))))) (ep_tst (ep_bin (ep_var (d := ((eLs eI) left0)) rfl) (ep_elst (ep_lst ep_anil)) (ne_typed (f := (eLs eI)) left0 ([] : (List Int))))) (rk_retT fun _ he => ⟨rfl, he.sub (sub_cons wk_is (sub_cons wk_is (sub_cons wk_is (sub_cons wk_is (sub_cons wk_nw (sub_cons wk_is (sub_cons wk_is (sub_cons wk_is (sub_cons wk_nw (sub_cons wk_nw (sub_cons wk_nw (sub_cons wk_nw (sub_cons wk_nw (sub_cons wk_nw (sub_cons wk_nw (sub_cons wk_nw sub_nil))))))))))))))))⟩))) (fun ⟨bag7, onward0, left0⟩ => (rs_asg (rk_cb (rk_acons (rk_pure (d := (eI (left0.length : Int))) (ep_cb (ep_acons (ep_var (d := ((eLs eI) left0)) rfl) ep_anil) (len_L (f := eI) left0))  (rk_acons (rk_bin (rk_elst (rk_lst (rk_acons (rk_pure (d := (eI a0)) (ep_var (d := (eI a0)) rfl)  (rk_acons (rk_bin (rk_pure (d := (eI (1 : Int))) ep_C  (rk_callN (rk_lend (rk_rcons (rk_pure (d := (eI a0)) (ep_var (d := (eI a0)) rfl)  (rk_rnil (rk_lendK (rk_call (rf__law_take bag7 a0) (fun ⟨r4, bag8⟩ => (rk_put rfl (rk_anil (rk_put (if_pos (Nat.le_of_ble_eq_true rfl)) (rk_callN (rk_lend (rk_rcons (rk_pure (d := (eI (2 : Int))) ep_C  (rk_rnil (rk_lendK (rk_call (rf__law_take bag8 (2 : Int)) (fun ⟨r5, bag9⟩ => (rk_ixL (f := eI) (xs := [a0, ((1 : Int) + r4)]) fun a1 => (rk_anil (rk_put rfl (rk_asgN (rs_asg (rk_pure (d := ((eLs eI) (cutL left0 none (some (imin (left0.length : Int) a1))))) (ep_sl (ep_var (d := ((eLs eI) left0)) rfl) ep_ptN (ep_ptS (ep_var (d := (eI (imin (left0.length : Int) a1))) rfl)) (sl_L (f := eI) left0 none (some (imin (left0.length : Int) a1))))  (rk_asgN (rs_asg (rk_pure (d := ((eLs eI) (cutL left0 (some (imin (left0.length : Int) a1)) none))) (ep_sl (ep_var (d := ((eLs eI) left0)) rfl) (ep_ptS (ep_var (d := (eI (imin (left0.length : Int) a1))) rfl)) ep_ptN (sl_L (f := eI) left0 (some (imin (left0.length : Int) a1)) none))  (rk_asgN (rs_last (rs_forK (rk_rng (j := (imin (left0.length : Int) a1)) (ep_acons (ep_var (d := (eI (imin (left0.length : Int) a1))) rfl) ep_anil) fun xs2 => (rs_for (fe := eI) (c0 := fun onward1 => [.is (.p (List.map eI bag9)), .is (.v (eI most0)), .is (.v (eI ((1 : Int) + r0))), .is (.l (List.map eI order2)), .nw, .is (.l (List.map eI onward1)), .is (.v (eI a0)), .is (.v ((eLs eI) (cutL left0 (some (imin (left0.length : Int) a1)) none))), .is (.v (eI (imin (left0.length : Int) a1))), .is (.v ((eLs eI) (cutL left0 none (some (imin (left0.length : Int) a1))))), .nw, .nw, .nw, .nw, .nw, .nw]) (c1 := fun k0 => fun onward1 => [.is (.p (List.map eI bag9)), .is (.v (eI most0)), .is (.v (eI ((1 : Int) + r0))), .is (.l (List.map eI order2)), .nw, .is (.l (List.map eI onward1)), .is (.v (eI a0)), .is (.v ((eLs eI) (cutL left0 (some (imin (left0.length : Int) a1)) none))), .is (.v (eI (imin (left0.length : Int) a1))), .is (.v ((eLs eI) (cutL left0 none (some (imin (left0.length : Int) a1))))), .is (.v (eI k0)), .nw, .nw, .nw, .nw, .nw]) (s0 := onward0) (sub_cons wk_is (sub_cons wk_is (sub_cons wk_is (sub_cons wk_is (sub_cons wk_nw (sub_cons wk_is (sub_cons wk_is (sub_cons wk_is (sub_cons wk_is (sub_cons wk_is (sub_cons wk_nw (sub_cons wk_nw (sub_cons wk_nw (sub_cons wk_nw (sub_cons wk_nw (sub_cons wk_nw sub_nil)))))))))))))))) (fun _ onward1 => gs_N) (fun k0 onward1 => (rs_last (rs_setO (rk_ixN (rk_pure (d := (eI k0)) (ep_var (d := (eI k0)) rfl)  (rk_ixAt (d := ((eLs eI) (cutL left0 none (some (imin (left0.length : Int) a1))))) (rk_ixL (f := eI) (xs := (cutL left0 none (some (imin (left0.length : Int) a1)))) fun a2 => (rk_kn (rk_ixN (rk_pure (d := (eI (k0 - (1 : Int)))) (ep_bin (ep_var (d := (eI k0)) rfl) ep_C rfl)  (rk_ixAt (d := ((eLs eI) (cutL left0 none (some (imin (left0.length : Int) a1))))) (rk_ixL (f := eI) (xs := (cutL left0 none (some (imin (left0.length : Int) a1)))) fun a3 => (rk_set (fe := eI) (a := a2) (xs := onward1) fun onward2 => (rs_nf (c' := [.is (.p (List.map eI bag9)), .is (.v (eI most0)), .is (.v (eI ((1 : Int) + r0))), .is (.l (List.map eI order2)), .nw, .is (.l (List.map eI onward2)), .is (.v (eI a0)), .is (.v ((eLs eI) (cutL left0 (some (imin (left0.length : Int) a1)) none))), .is (.v (eI (imin (left0.length : Int) a1))), .is (.v ((eLs eI) (cutL left0 none (some (imin (left0.length : Int) a1))))), .is (.v (eI k0)), .nw, .nw, .nw, .nw, .nw]) (rs_nx fun _ he => he.sub (sub_cons wk_is (sub_cons wk_is (sub_cons wk_is (sub_cons wk_is (sub_cons wk_nw (sub_cons wk_is (sub_cons wk_is (sub_cons wk_is (sub_cons wk_is (sub_cons wk_is (sub_cons wk_vnw (sub_cons wk_nw (sub_cons wk_nw (sub_cons wk_nw (sub_cons wk_nw (sub_cons wk_nw sub_nil)))))))))))))))))))) rfl))))) rfl)))))) (fun onward3 => (rs_nx fun _ he => he.sub (sub_cons wk_is (sub_cons wk_is (sub_cons wk_is (sub_cons wk_is (sub_cons wk_nw (sub_cons wk_is (sub_cons wk_is (sub_cons wk_is (sub_cons wk_vnw (sub_cons wk_vnw (sub_cons wk_nw (sub_cons wk_nw (sub_cons wk_nw (sub_cons wk_nw (sub_cons wk_nw (sub_cons wk_nw sub_nil))))))))))))))))))))))))))))))))) (fun _ _ _ _ => trivial)))))))))))) (fun _ _ _ _ => trivial)))))))))))))))))))))) (fun ⟨bag10, onward4, left1⟩ => (rs_asgL (rk_rep (f := (eO eI)) (a := none) (n := ((1 : Int) + r0)) (ep_lst (ep_acons ep_C ep_anil)) (ep_var (d := (eI ((1 : Int) + r0))) rfl) fun xs3 => (rk_asgL (rs_asg (rk_bin (rk_pure (d := ((eLs eI) [(2 : Int), (5 : Int), (99 : Int)])) (ep_elst (ep_lst (ep_acons ep_C (ep_acons ep_C (ep_acons ep_C ep_anil)))))  (rk_callN (rk_lend (rk_rcons (rk_pure (d := (eI (3 : Int))) ep_C  (rk_rnil (rk_lendK (rk_call (rf__law_take bag10 (3 : Int)) (fun ⟨r6, bag11⟩ => (rk_ixL (f := eI) (xs := [(2 : Int), (5 : Int), (99 : Int)]) fun a4 => (rk_asgN (rs_asgL (rk_lrng (j := ((1 : Int) + r0)) (ep_var (d := (eI ((1 : Int) + r0))) rfl) fun xs4 => (rk_asgL (rs_while (c0 := (P3 fun bag12 mates0 waiting0 => [.is (.p (List.map eI bag12)), .is (.v (eI most0)), .is (.v (eI ((1 : Int) + r0))), .is (.l (List.map eI order2)), .nw, .is (.l (List.map eI onward4)), .is (.v (eI a0)), .is (.v ((eLs eI) left1)), .nw, .nw, .nw, .is (.l (List.map (eO eI) mates0)), .is (.v (eI a4)), .is (.l (List.map eI waiting0)), .nw, .nw])) (s0 := (bag11, xs3, xs4)) (sub_cons wk_is (sub_cons wk_is (sub_cons wk_is (sub_cons wk_is (sub_cons wk_nw (sub_cons wk_is (sub_cons wk_is (sub_cons wk_is (sub_cons wk_nw (sub_cons wk_nw (sub_cons wk_nw (sub_cons wk_is (sub_cons wk_is (sub_cons wk_is (sub_cons wk_nw (sub_cons wk_nw sub_nil)))))))))))))))) (fun ⟨bag12, mates0, waiting0⟩ => rk_fnrt (v := eB) (c' := fun _ => [.is (.p (List.map eI bag12)), .is (.v (eI most0)), .is (.v (eI ((1 : Int) + r0))), .is (.l (List.map eI order2)), .nw, .is (.l (List.map eI onward4)), .is (.v (eI a0)), .is (.v ((eLs eI) left1)), .nw, .nw, .nw, .is (.l (List.map (eO eI) mates0)), .is (.v (eI a4)), .is (.l (List.map eI waiting0)), .nw, .nw]) (rk_pure (d := (decide ((1 : Int) < (waiting0.length : Int)))) (ep_tst (ep_bin (ep_lenO (f := eI) (xs := waiting0) rfl) ep_C rfl)) (rk_retT fun _ he => ⟨rfl, he.sub (sub_cons wk_is (sub_cons wk_is (sub_cons wk_is (sub_cons wk_is (sub_cons wk_nw (sub_cons wk_is (sub_cons wk_is (sub_cons wk_is (sub_cons wk_nw (sub_cons wk_nw (sub_cons wk_nw (sub_cons wk_is (sub_cons wk_is (sub_cons wk_is (sub_cons wk_nw (sub_cons wk_nw sub_nil))))))))))))))))⟩))) (fun ⟨bag12, mates0, waiting0⟩ => (rs_asg (rk_mo (xs := List.map eI waiting0) (rk_acons (rk_callN (rk_lend (rk_rcons (rk_pure (d := (eI (waiting0.length : Int))) (ep_lenO (f := eI) (xs := waiting0) rfl)  (rk_rnil (rk_lendK (rk_call (rf__law_take bag12 (waiting0.length : Int)) (fun ⟨r7, bag13⟩ => (rk_anil (rk_popAt (fe := eI) (xs := waiting0) fun ⟨a5, waiting1⟩ => (rs_nf (c' := [.is (.p (List.map eI bag13)), .is (.v (eI most0)), .is (.v (eI ((1 : Int) + r0))), .is (.l (List.map eI order2)), .nw, .is (.l (List.map eI onward4)), .is (.v (eI a0)), .is (.v ((eLs eI) left1)), .nw, .nw, .nw, .is (.l (List.map (eO eI) mates0)), .is (.v (eI a4)), .is (.l (List.map eI waiting1)), .nw, .nw]) (rk_asgN (rs_asg (rk_mo (xs := List.map eI waiting1) (rk_acons (rk_callN (rk_lend (rk_rcons (rk_pure (d := (eI (waiting1.length : Int))) (ep_lenO (f := eI) (xs := waiting1) rfl)  (rk_rnil (rk_lendK (rk_call (rf__law_take bag13 (waiting1.length : Int)) (fun ⟨r8, bag14⟩ => (rk_anil (rk_popAt (fe := eI) (xs := waiting1) fun ⟨a6, waiting2⟩ => (rs_nf (c' := [.is (.p (List.map eI bag14)), .is (.v (eI most0)), .is (.v (eI ((1 : Int) + r0))), .is (.l (List.map eI order2)), .nw, .is (.l (List.map eI onward4)), .is (.v (eI a0)), .is (.v ((eLs eI) left1)), .nw, .nw, .nw, .is (.l (List.map (eO eI) mates0)), .is (.v (eI a4)), .is (.l (List.map eI waiting2)), .is (.v (eI a5)), .nw]) (rk_asgN (rs_last (rs_if (rk_tst (rk_bin (rk_callN (rk_lend (rk_rcons (rk_pure (d := (eI a4)) (ep_var (d := (eI a4)) rfl)  (rk_rnil (rk_lendK (rk_call (rf__law_take bag14 a4) (fun ⟨r9, bag15⟩ => (rk_pure (d := (eI (0 : Int))) ep_C  (rk_put rfl (rk_put rfl (rk_ifF (rs_assoc (rs_setO (rk_pure (d := ((eO eI) (some a6))) (ep_var (d := (eI a6)) rfl)  (rk_kn (rk_pure (d := (eI a5)) (ep_var (d := (eI a5)) rfl)  (rk_set (fe := (eO eI)) (a := (some a6)) (xs := mates0) fun mates1 => (rs_nf (c' := [.is (.p (List.map eI bag15)), .is (.v (eI most0)), .is (.v (eI ((1 : Int) + r0))), .is (.l (List.map eI order2)), .nw, .is (.l (List.map eI onward4)), .is (.v (eI a0)), .is (.v ((eLs eI) left1)), .nw, .nw, .nw, .is (.l (List.map (eO eI) mates1)), .is (.v (eI a4)), .is (.l (List.map eI waiting2)), .is (.v (eI a5)), .is (.v (eI a6))]) (rs_setO (rk_pure (d := ((eO eI) (some a5))) (ep_var (d := (eI a5)) rfl)  (rk_kn (rk_pure (d := (eI a6)) (ep_var (d := (eI a6)) rfl)  (rk_set (fe := (eO eI)) (a := (some a5)) (xs := mates1) fun mates2 => (rs_nf (c' := [.is (.p (List.map eI bag15)), .is (.v (eI most0)), .is (.v (eI ((1 : Int) + r0))), .is (.l (List.map eI order2)), .nw, .is (.l (List.map eI onward4)), .is (.v (eI a0)), .is (.v ((eLs eI) left1)), .nw, .nw, .nw, .is (.l (List.map (eO eI) mates2)), .is (.v (eI a4)), .is (.l (List.map eI waiting2)), .is (.v (eI a5)), .is (.v (eI a6))]) (rs_nx fun _ he => he.sub (sub_cons wk_is (sub_cons wk_is (sub_cons wk_is (sub_cons wk_is (sub_cons wk_nw (sub_cons wk_is (sub_cons wk_is (sub_cons wk_is (sub_cons wk_nw (sub_cons wk_nw (sub_cons wk_nw (sub_cons wk_is (sub_cons wk_is (sub_cons wk_is (sub_cons wk_vnw (sub_cons wk_vnw sub_nil)))))))))))))))))))))))))))))) (rs_nxs (rs_nx fun _ he => he.sub (sub_cons wk_is (sub_cons wk_is (sub_cons wk_is (sub_cons wk_is (sub_cons wk_nw (sub_cons wk_is (sub_cons wk_is (sub_cons wk_is (sub_cons wk_nw (sub_cons wk_nw (sub_cons wk_nw (sub_cons wk_is (sub_cons wk_is (sub_cons wk_is (sub_cons wk_vnw (sub_cons wk_vnw sub_nil))))))))))))))))))))))) (fun _ _ _ _ => trivial))))))))))))))))) (fun _ _ _ _ => trivial)))))))))))))))) (fun _ _ _ _ => trivial)))))))))))) (fun ⟨bag16, mates3, waiting3⟩ => (rs_last (rs_ret (rk_pure (d := ((eP2 (eTs eI) (eTs (eO eI))) (onward4, mates3))) (ep_tup (ep_acons (ep_tupO (xs := List.map eI onward4) rfl) (ep_acons (ep_tupO (xs := List.map (eO eI) mates3) rfl) ep_anil)))  (rk_ret (r := ((onward4, mates3), bag16)) fun _ he => ⟨rfl, outs_of rfl rfl he⟩)))))))))))) (fun _ _ _ _ => trivial))))))))))))))))))))))) (fun _ _ _ _ => trivial)))))))))))))))) (fun _ _ _ _ => trivial)))))))))))))))))))))))))))) (fun _ _ _ _ => trivial)))))))))))
def n__law_broken_L (onward0 : (List Int)) (mates0 : (List (Option Int))) : N (Option Int) := Ct.fn (
 (rngN (onward0.length : Int)).ct fun xs0 =>
 (forC (fun half0 => fun (_ : Unit) =>
 ((Ct.fn ((idx onward0 half0).ct fun a0 =>
 (if (!((decide ((0 : Int) ≤ a0)) && (decide (a0 < (onward0.length : Int))))) = true then
 .rt true else
 (idx onward0 half0).ct fun a1 =>
 .rt (memB a1 (cutL onward0 none (some half0)))) : Ct Unit Unit Bool)).ct fun b0 =>
 (if b0 = true then
 .rt (some half0) else
 (idx mates0 half0).ct fun a2 =>
 (Ct.fn ((optC a2
 (.rt false)
 (fun mate1 => (Ct.fn ((if (!((decide ((0 : Int) ≤ mate1)) && (decide (mate1 < (onward0.length : Int))))) = true then
 .rt true else
 (if (decide (mate1 = half0)) = true then
 .rt true else
 (idx mates0 mate1).ct fun a3 =>
 .rt (!(decide (a3 = (some half0)))))) : Ct Unit Unit Bool)).ct fun b1 =>
 .rt b1)) : Ct Unit Unit Bool)).ct fun b2 =>
 (if b2 = true then
 .rt (some half0) else
 .nx ())) : Ct Unit Unit _)) xs0 ()).sq fun (_ : Unit) =>
 .rt none : Ct Unit Unit (Option Int))
def n__law_broken_T (onward0 : (List Int)) (mates0 : (List (Option Int))) : N (Option Int) := Ct.fn (
 (rngN (onward0.length : Int)).ct fun xs0 =>
 (forC (fun half0 => fun (_ : Unit) =>
 ((Ct.fn ((idx onward0 half0).ct fun a0 =>
 (if (!((decide ((0 : Int) ≤ a0)) && (decide (a0 < (onward0.length : Int))))) = true then
 .rt true else
 (idx onward0 half0).ct fun a1 =>
 .rt (memB a1 (cutL onward0 none (some half0)))) : Ct Unit Unit Bool)).ct fun b0 =>
 (if b0 = true then
 .rt (some half0) else
 (idx mates0 half0).ct fun a2 =>
 (Ct.fn ((optC a2
 (.rt false)
 (fun mate1 => (Ct.fn ((if (!((decide ((0 : Int) ≤ mate1)) && (decide (mate1 < (onward0.length : Int))))) = true then
 .rt true else
 (if (decide (mate1 = half0)) = true then
 .rt true else
 (idx mates0 mate1).ct fun a3 =>
 .rt (!(decide (a3 = (some half0)))))) : Ct Unit Unit Bool)).ct fun b1 =>
 .rt b1)) : Ct Unit Unit Bool)).ct fun b2 =>
 (if b2 = true then
 .rt (some half0) else
 .nx ())) : Ct Unit Unit _)) xs0 ()).sq fun (_ : Unit) =>
 .rt none : Ct Unit Unit (Option Int))
theorem rf__law_broken_T (onward0 : (List Int)) (mates0 : (List (Option Int))) : RF (n__law_broken_T onward0 mates0) (f__law_broken [.v ((eTs eI) onward0), .v ((eTs (eO eI)) mates0)]) (fun r => ((eO eI) r)) (fun r => [.no, .no]) := rf_of (n := 5) (b := b__law_broken) (c0 := [.is (.v ((eTs eI) onward0)), .is (.v ((eTs (eO eI)) mates0)), .nw, .nw, .nw])
 (rs_asg (rk_pure (d := (eI (onward0.length : Int))) (ep_cb (ep_acons (ep_var (d := ((eTs eI) onward0)) rfl) ep_anil) (len_T (f := eI) onward0))  (rk_asgN (rs_forK (rk_rng (j := (onward0.length : Int)) (ep_acons (ep_var (d := (eI (onward0.length : Int))) rfl) ep_anil) fun xs0 => (rs_for (fe := eI) (c0 := fun (_ : Unit) => [.is (.v ((eTs eI) onward0)), .is (.v ((eTs (eO eI)) mates0)), .is (.v (eI (onward0.length : Int))), .nw, .nw]) (c1 := fun half0 => fun (_ : Unit) => [.is (.v ((eTs eI) onward0)), .is (.v ((eTs (eO eI)) mates0)), .is (.v (eI (onward0.length : Int))), .is (.v (eI half0)), .nw]) (s0 := ()) (sub_cons wk_is (sub_cons wk_is (sub_cons wk_is (sub_cons wk_nw (sub_cons wk_nw sub_nil))))) (fun _ _ => gs_N) (fun half0 _ => (rs_if (rk_unitT (v := fun b0 => b0) (c' := fun b0 => [.is (.v ((eTs eI) onward0)), .is (.v ((eTs (eO eI)) mates0)), .is (.v (eI (onward0.length : Int))), .is (.v (eI half0)), .nw]) (rk_orT (rk_notT (rk_tst (rk_chain (rk_pure (d := (eI (0 : Int))) ep_C  (rk_ixN (rk_pure (d := (eI half0)) (ep_var (d := (eI half0)) rfl)  (rk_ixAt (d := ((eTs eI) onward0)) (rk_ixT (f := eI) (xs := onward0) fun a0 => (rk_chainP (ep_var (d := (eI (onward0.length : Int))) rfl) rfl rfl (rk_put rfl (rk_ifF (rk_retT fun _ he => ⟨rfl, he.sub (sub_cons wk_is (sub_cons wk_is (sub_cons wk_is (sub_cons wk_is (sub_cons wk_nw sub_nil)))))⟩) (rk_tst (rk_bin (rk_ixN (rk_pure (d := (eI half0)) (ep_var (d := (eI half0)) rfl)  (rk_ixAt (d := ((eTs eI) onward0)) (rk_ixT (f := eI) (xs := onward0) fun a1 => (rk_pure (d := ((eTs eI) (cutL onward0 none (some half0)))) (ep_sl (ep_var (d := ((eTs eI) onward0)) rfl) ep_ptN (ep_ptS (ep_var (d := (eI half0)) rfl)) (sl_T (f := eI) onward0 none (some half0)))  (rk_put (in_tup (f := eI) a1 (cutL onward0 none (some half0))) (rk_put rfl (rk_retT fun _ he => ⟨rfl, he.sub (sub_cons wk_is (sub_cons wk_is (sub_cons wk_is (sub_cons wk_is (sub_cons wk_nw sub_nil)))))⟩))))) rfl))))))))) rfl)))))))) (fun b0 => (rk_ifF (rs_ret (rk_pure (d := ((eO eI) (some half0))) (ep_var (d := (eI half0)) rfl)  (rk_ret (r := (some half0)) fun _ he => ⟨rfl, outs_of rfl rfl he⟩))) (rs_nxs (rs_asg (rk_ixN (rk_pure (d := (eI half0)) (ep_var (d := (eI half0)) rfl)  (rk_ixAt (d := ((eTs (eO eI)) mates0)) (rk_ixT (f := (eO eI)) (xs := mates0) fun a2 => (rk_asgN (rs_last (rs_if (rk_unitT (v := fun b2 => b2) (c' := fun b2 => [.is (.v ((eTs eI) onward0)), .is (.v ((eTs (eO eI)) mates0)), .is (.v (eI (onward0.length : Int))), .is (.v (eI half0)), .is (.v ((eO eI) a2))]) (by apply rs_opt (x := a2); exact (rk_andT (rk_pure (d := false) (ep_tst (ep_bin (ep_var (d := ((eO eI) none)) rfl) ep_C (isnt_none (f := eI) none))) (rk_retT fun _ he => ⟨rfl, he.sub (sub_cons wk_is (sub_cons wk_is (sub_cons wk_is (sub_cons wk_is (sub_cons wk_is sub_nil)))))⟩))); exact (fun mate1 => rk_andT (rk_pure (d := true) (ep_tst (ep_bin (ep_var (d := (eI mate1)) rfl) ep_C rfl)) (rk_unitT (v := fun b1 => b1) (c' := fun b1 => [.is (.v ((eTs eI) onward0)), .is (.v ((eTs (eO eI)) mates0)), .is (.v (eI (onward0.length : Int))), .is (.v (eI half0)), .is (.v (eI mate1))]) (rk_orT (rk_pure (d := (!((decide ((0 : Int) ≤ mate1)) && (decide (mate1 < (onward0.length : Int)))))) (ep_notT (ep_tst (ep_chain ep_C (ep_var (d := (eI mate1)) rfl) (ep_var (d := (eI (onward0.length : Int))) rfl) rfl rfl))) (rk_ifF (rk_retT fun _ he => ⟨rfl, he.sub (sub_cons wk_is (sub_cons wk_is (sub_cons wk_is (sub_cons wk_is (sub_cons wk_is sub_nil)))))⟩) (rk_orT (rk_pure (d := (decide (mate1 = half0))) (ep_tst (ep_bin (ep_var (d := (eI mate1)) rfl) (ep_var (d := (eI half0)) rfl) (eq_typed (f := eI) mate1 half0))) (rk_ifF (rk_retT fun _ he => ⟨rfl, he.sub (sub_cons wk_is (sub_cons wk_is (sub_cons wk_is (sub_cons wk_is (sub_cons wk_is sub_nil)))))⟩) (rk_tst (rk_bin (rk_ixN (rk_pure (d := (eI mate1)) (ep_var (d := (eI mate1)) rfl)  (rk_ixAt (d := ((eTs (eO eI)) mates0)) (rk_ixT (f := (eO eI)) (xs := mates0) fun a3 => (rk_pure (d := (eI half0)) (ep_var (d := (eI half0)) rfl)  (rk_put (ne_typed (f := (eO eI)) a3 (some half0)) (rk_put rfl (rk_retT fun _ he => ⟨rfl, he.sub (sub_cons wk_is (sub_cons wk_is (sub_cons wk_is (sub_cons wk_is (sub_cons wk_is sub_nil)))))⟩))))) rfl))))))))))) (fun b1 => (rk_retT fun _ he => ⟨rfl, he.sub (sub_cons wk_is (sub_cons wk_is (sub_cons wk_is (sub_cons wk_is (sub_cons wk_is sub_nil)))))⟩)))))) (fun b2 => (rk_ifF (rs_ret (rk_pure (d := ((eO eI) (some half0))) (ep_var (d := (eI half0)) rfl)  (rk_ret (r := (some half0)) fun _ he => ⟨rfl, outs_of rfl rfl he⟩))) (rs_nxs (rs_nx fun _ he => he.sub (sub_cons wk_is (sub_cons wk_is (sub_cons wk_is (sub_cons wk_vnw (sub_cons wk_vnw sub_nil)))))))))))))) rfl)))))))))) (fun _ => (rs_last (rs_ret (rk_pure (d := ((eO eI) none)) ep_C  (rk_ret (r := none) fun _ he => ⟨rfl, outs_of rfl rfl he⟩)))))))))))
def n_look_at_half (skin0 : ((List Int) × (List (Option Int)))) (half0 : Int) : N Unit := Ct.fp (
 (if ((decide (half0 < (0 : Int))) || (decide ((skin0.1.length : Int) ≤ half0))) = true then
 .ex ⟨"NoHalf", none⟩ else
 .nx ()) : Ct Unit Unit Unit)
def n_patch_of (skin0 : ((List Int) × (List (Option Int)))) (half0 : Int) : N (List Int) := Ct.fn (
 (n_look_at_half skin0 half0).ct fun u0 =>
 (idx skin0.1 half0).ct fun a0 =>
 (whileC ((P2 fun found0 at0 => Ct.fn (.rt (!(decide (at0 = half0))) : Ct Unit Unit Bool))) ((P2 fun found0 at0 =>
 ((appN found0 at0).ct fun found1 =>
 (idx skin0.1 at0).ct fun a1 =>
 .nx (found1, a1) : Ct ((List Int) × Int) ((List Int) × Int) _))) FUEL ([half0], a0)).sq (P2 fun found2 at1 =>
 .rt found2) : Ct Unit Unit (List Int))
end
end NW
set_option Elab.async false
set_option linter.all false
set_option maxRecDepth 100000
set_option maxHeartbeats 4000000
namespace K01
open PySem L2 DL LW NT NW
noncomputable section
def n_is_skin_D (thing0 : D) : N Bool := Ct.fn (
 (Ct.fn ((if (!(isTupD thing0)) = true then
 .rt true else
 (intN (fLen [thing0])).ct fun n0 =>
 .rt (!(decide (n0 = (2 : Int))))) : Ct Unit Unit Bool)).ct fun b0 =>
 (if b0 = true then
 .rt false else
 (unP2 thing0).ct fun y0 =>
 (if ((!(isTupD y0.1)) || (!(isTupD y0.2))) = true then
 .rt false else
 (Ct.fn ((intN (fLen [y0.1])).ct fun n1 =>
 (if (decide (n1 < (1 : Int))) = true then
 .rt true else
 (intN (fLen [y0.1])).ct fun n2 =>
 (if (decide ((400 : Int) < n2)) = true then
 .rt true else
 (intN (fLen [y0.2])).ct fun n3 =>
 (intN (fLen [y0.1])).ct fun n4 =>
 .rt (!(decide (n3 = n4))))) : Ct Unit Unit Bool)).ct fun b1 =>
 (if b1 = true then
 .rt false else
 (ofO (seqS y0.1)).ct fun xs0 =>
 (lcP (fun behind0 => ((n_is_whole behind0).ct fun r0 =>
 .rt r0 : Ct Unit Unit Bool)) xs0).ct fun ys0 =>
 (if (!(ys0.all id)) = true then
 .rt false else
 (ofO (seqS y0.2)).ct fun xs1 =>
 (lcP (fun mate0 => ((Ct.fn ((if (isNone mate0) = true then
 .rt true else
 (n_is_whole mate0).ct fun r1 =>
 .rt r1) : Ct Unit Unit Bool)).ct fun b2 =>
 .rt b2 : Ct Unit Unit Bool)) xs1).ct fun ys1 =>
 (if (!(ys1.all id)) = true then
 .rt false else
 (unTI y0.1).ct fun y1 =>
 (unTO y0.2).ct fun y2 =>
 (n_broken y1 y2).ct fun r2 =>
 .rt (r2.isNone)))))) : Ct Unit Unit Bool)
theorem rf_is_skin_D (thing0 : D) : RF (n_is_skin_D thing0) (f_is_skin [.v thing0]) (fun r => (eB r)) (fun r => [.no]) := rf_of (n := 5) (b := b_is_skin) (c0 := [.is (.v thing0), .nw, .nw, .nw, .nw])
 (rs_if (rk_unitT (v := fun b0 => b0) (c' := fun b0 => [.is (.v thing0), .nw, .nw, .nw, .nw]) (rk_orT (rk_pure (d := (!(isTupD thing0))) (ep_notT (ep_tst (ep_isi (ep_var (d := thing0) rfl) (isi_tup thing0)))) (rk_ifF (rk_retT fun _ he => ⟨rfl, he.sub (sub_cons wk_is (sub_cons wk_nw (sub_cons wk_nw (sub_cons wk_nw (sub_cons wk_nw sub_nil)))))⟩) (rk_tst (rk_bin (rk_cb (rk_acons (rk_pure (d := thing0) (ep_var (d := thing0) rfl)  (rk_anil (rk_intN fun n0 => (rk_pure (d := (eI (2 : Int))) ep_C  (rk_put (ne_typed (f := eI) n0 (2 : Int)) (rk_put rfl (rk_retT fun _ he => ⟨rfl, he.sub (sub_cons wk_is (sub_cons wk_nw (sub_cons wk_nw (sub_cons wk_nw (sub_cons wk_nw sub_nil)))))⟩)))))))))))))) (fun b0 => (rk_ifF (rs_ret (rk_pure (d := (eB false)) ep_C  (rk_ret (r := false) fun _ he => ⟨rfl, outs_of rfl rfl he⟩))) (rs_nxs (rs_asg (rk_pure (d := thing0) (ep_var (d := thing0) rfl)  (rs_unP2 (x := thing0) fun y0 hy => (by rw [hy]; exact (rk_asg (gs_T (gss_cons gs_N (gss_cons gs_N gss_nil))) (rs_if (rk_pure (d := ((!(isTupD y0.1)) || (!(isTupD y0.2)))) (ep_orT (ep_notT (ep_tst (ep_isi (ep_var (d := y0.1) rfl) (isi_tup y0.1)))) (ep_notT (ep_tst (ep_isi (ep_var (d := y0.2) rfl) (isi_tup y0.2))))) (rk_ifF (rs_ret (rk_pure (d := (eB false)) ep_C  (rk_ret (r := false) fun _ he => ⟨rfl, outs_of rfl rfl he⟩))) (rs_nxs (rs_if (rk_unitT (v := fun b1 => b1) (c' := fun b1 => [.is (.v (PyData.tuple [y0.1, y0.2])), .is (.v y0.1), .is (.v y0.2), .nw, .nw]) (rk_orT (rk_tst (rk_bin (rk_cb (rk_acons (rk_pure (d := y0.1) (ep_var (d := y0.1) rfl)  (rk_anil (rk_intN fun n1 => (rk_pure (d := (eI (1 : Int))) ep_C  (rk_put rfl (rk_put rfl (rk_ifF (rk_retT fun _ he => ⟨rfl, he.sub (sub_cons wk_is (sub_cons wk_is (sub_cons wk_is (sub_cons wk_nw (sub_cons wk_nw sub_nil)))))⟩) (rk_orT (rk_tst (rk_bin (rk_cb (rk_acons (rk_pure (d := y0.1) (ep_var (d := y0.1) rfl)  (rk_anil (rk_intN fun n2 => (rk_pure (d := (eI (400 : Int))) ep_C  (rk_put rfl (rk_put rfl (rk_ifF (rk_retT fun _ he => ⟨rfl, he.sub (sub_cons wk_is (sub_cons wk_is (sub_cons wk_is (sub_cons wk_nw (sub_cons wk_nw sub_nil)))))⟩) (rk_tst (rk_bin (rk_cb (rk_acons (rk_pure (d := y0.2) (ep_var (d := y0.2) rfl)  (rk_anil (rk_intN fun n3 => (rk_cb (rk_acons (rk_pure (d := y0.1) (ep_var (d := y0.1) rfl)  (rk_anil (rk_intN fun n4 => (rk_put (ne_typed (f := eI) n3 n4) (rk_put rfl (rk_retT fun _ he => ⟨rfl, he.sub (sub_cons wk_is (sub_cons wk_is (sub_cons wk_is (sub_cons wk_nw (sub_cons wk_nw sub_nil)))))⟩))))))))))))))))))))))))))))))))))))))) (fun b1 => (rk_ifF (rs_ret (rk_pure (d := (eB false)) ep_C  (rk_ret (r := false) fun _ he => ⟨rfl, outs_of rfl rfl he⟩))) (rs_nxs (rs_if (rk_notT (rk_tst (rk_cb (rk_acons (rk_elst (rk_lc (rk_seqS (rk_pure (d := y0.1) (ep_var (d := y0.1) rfl)  (rk_seqD (d := y0.1) fun xs0 => (rk_lcP (fe := eD) (fb := eB) (ca := fun behind0 => [.is (.v (PyData.tuple [y0.1, y0.2])), .is (.v y0.1), .is (.v y0.2), .is (.v behind0), .nw]) (fun _ => gs_N) (fun behind0 => (rk_ck1 (rk_callN (rk_rcons (rk_pure (d := behind0) (ep_var (d := behind0) rfl)  (rk_rnil (rk_call (rf_is_whole behind0) (fun r0 => (rk_retC (fb := eB) (sub_cons wk_is (sub_cons wk_is (sub_cons wk_is (sub_cons wk_is (sub_cons wk_nw sub_nil))))))) (fun _ _ _ _ => trivial)))))))) (fun ys0 => (rk_anil (rk_put (all_B ys0) (rk_put rfl (rk_ifF (rs_ret (rk_pure (d := (eB false)) ep_C  (rk_ret (r := false) fun _ he => ⟨rfl, outs_of rfl rfl he⟩))) (rs_nxs (rs_if (rk_notT (rk_tst (rk_cb (rk_acons (rk_elst (rk_lc (rk_seqS (rk_pure (d := y0.2) (ep_var (d := y0.2) rfl)  (rk_seqD (d := y0.2) fun xs1 => (rk_lcP (fe := eD) (fb := eB) (ca := fun mate0 => [.is (.v (PyData.tuple [y0.1, y0.2])), .is (.v y0.1), .is (.v y0.2), .nw, .is (.v mate0)]) (fun _ => gs_N) (fun mate0 => (rk_ck1 (rk_unit (v := fun b2 => eB b2) (c' := fun b2 => [.is (.v (PyData.tuple [y0.1, y0.2])), .is (.v y0.1), .is (.v y0.2), .nw, .is (.v mate0)]) (rk_or (rk_pure (d := (eB (isNone mate0))) (ep_bin (ep_var (d := mate0) rfl) ep_C rfl)  (rk_put rfl (rk_ifF (rk_ret fun _ he => ⟨rfl, he.sub (sub_cons wk_is (sub_cons wk_is (sub_cons wk_is (sub_cons wk_nw (sub_cons wk_is sub_nil)))))⟩) (rk_callN (rk_rcons (rk_pure (d := mate0) (ep_var (d := mate0) rfl)  (rk_rnil (rk_call (rf_is_whole mate0) (fun r1 => (rk_ret fun _ he => ⟨rfl, he.sub (sub_cons wk_is (sub_cons wk_is (sub_cons wk_is (sub_cons wk_nw (sub_cons wk_is sub_nil)))))⟩)) (fun _ _ _ _ => trivial)))))))))) (fun b2 => (rk_retC (fb := eB) (sub_cons wk_is (sub_cons wk_is (sub_cons wk_is (sub_cons wk_nw (sub_cons wk_is sub_nil)))))))))) (fun ys1 => (rk_anil (rk_put (all_B ys1) (rk_put rfl (rk_ifF (rs_ret (rk_pure (d := (eB false)) ep_C  (rk_ret (r := false) fun _ he => ⟨rfl, outs_of rfl rfl he⟩))) (rs_nxs (rs_last (rs_ret (rk_bin (rk_callN (rk_rcons (rk_pure (d := y0.1) (ep_var (d := y0.1) rfl)  (rs_unTI (x := y0.1) fun y1 hy => (by rw [hy]; exact (rk_rcons (rk_pure (d := y0.2) (ep_var (d := y0.2) rfl)  (rs_unTO (x := y0.2) fun y2 hy => (by rw [hy]; exact (rk_rnil (rk_call (rf_broken y1 y2) (fun r2 => (rk_pure (d := (eU ())) ep_C  (rk_put (is_none (f := eI) r2) (rk_ret (r := (r2.isNone)) fun _ he => ⟨rfl, outs_of rfl rfl he⟩)))) (fun _ _ _ _ => trivial))))))))))))))))))))))))))))))))))))))))))))))))))))))))))))))))))))
def n__law_odd (bag0 : (List Int)) : N (D × (List Int)) := Ct.fn (
 (catG [(eI (-1 : Int)), (eI (0 : Int)), (eI (1 : Int)), (eI (2 : Int)), (eI (400 : Int)), (eI (401 : Int)), (eB true), (eB false), (eU ()), (eS ("" : Str)), (eS ("0" : Str)), (PyData.tuple []), (PyData.tuple [(eI (0 : Int))]), (PyData.tuple [(eU ())]), (PyData.tuple [(PyData.tuple [(eI (0 : Int))]), (PyData.tuple [(eU ())])]), (PyData.tuple [(PyData.tuple [(eI (0 : Int))]), (PyData.tuple [(eI (0 : Int))])]), (PyData.list [(eI (0 : Int))])] [(PyData.tuple [(PyData.tuple []), (PyData.tuple [])]), (PyData.tuple [(PyData.list [(eI (0 : Int))]), (PyData.tuple [(eU ())])]), (PyData.tuple [(PyData.tuple [(eI (0 : Int))]), (PyData.list [(eU ())])]), (PyData.tuple [(PyData.tuple [(eI (0 : Int)), (eI (1 : Int))]), (PyData.tuple [(eI (1 : Int)), (eI (0 : Int))])]), (PyData.tuple [(PyData.tuple [(eI (1 : Int)), (eI (0 : Int))]), (PyData.tuple [(eI (1 : Int)), (eI (0 : Int))])]), (PyData.tuple [(PyData.tuple [(eI (0 : Int)), (eI (1 : Int))]), (PyData.tuple [(eI (1 : Int))])])]).ct fun _ =>
 (n__law_take bag0 (([(eI (-1 : Int)), (eI (0 : Int)), (eI (1 : Int)), (eI (2 : Int)), (eI (400 : Int)), (eI (401 : Int)), (eB true), (eB false), (eU ()), (eS ("" : Str)), (eS ("0" : Str)), (PyData.tuple []), (PyData.tuple [(eI (0 : Int))]), (PyData.tuple [(eU ())]), (PyData.tuple [(PyData.tuple [(eI (0 : Int))]), (PyData.tuple [(eU ())])]), (PyData.tuple [(PyData.tuple [(eI (0 : Int))]), (PyData.tuple [(eI (0 : Int))])]), (PyData.list [(eI (0 : Int))])] ++ [(PyData.tuple [(PyData.tuple []), (PyData.tuple [])]), (PyData.tuple [(PyData.list [(eI (0 : Int))]), (PyData.tuple [(eU ())])]), (PyData.tuple [(PyData.tuple [(eI (0 : Int))]), (PyData.list [(eU ())])]), (PyData.tuple [(PyData.tuple [(eI (0 : Int)), (eI (1 : Int))]), (PyData.tuple [(eI (1 : Int)), (eI (0 : Int))])]), (PyData.tuple [(PyData.tuple [(eI (1 : Int)), (eI (0 : Int))]), (PyData.tuple [(eI (1 : Int)), (eI (0 : Int))])]), (PyData.tuple [(PyData.tuple [(eI (0 : Int)), (eI (1 : Int))]), (PyData.tuple [(eI (1 : Int))])])]).length : Int)).ct (P2 fun r0 bag1 =>
 (idx ([(eI (-1 : Int)), (eI (0 : Int)), (eI (1 : Int)), (eI (2 : Int)), (eI (400 : Int)), (eI (401 : Int)), (eB true), (eB false), (eU ()), (eS ("" : Str)), (eS ("0" : Str)), (PyData.tuple []), (PyData.tuple [(eI (0 : Int))]), (PyData.tuple [(eU ())]), (PyData.tuple [(PyData.tuple [(eI (0 : Int))]), (PyData.tuple [(eU ())])]), (PyData.tuple [(PyData.tuple [(eI (0 : Int))]), (PyData.tuple [(eI (0 : Int))])]), (PyData.list [(eI (0 : Int))])] ++ [(PyData.tuple [(PyData.tuple []), (PyData.tuple [])]), (PyData.tuple [(PyData.list [(eI (0 : Int))]), (PyData.tuple [(eU ())])]), (PyData.tuple [(PyData.tuple [(eI (0 : Int))]), (PyData.list [(eU ())])]), (PyData.tuple [(PyData.tuple [(eI (0 : Int)), (eI (1 : Int))]), (PyData.tuple [(eI (1 : Int)), (eI (0 : Int))])]), (PyData.tuple [(PyData.tuple [(eI (1 : Int)), (eI (0 : Int))]), (PyData.tuple [(eI (1 : Int)), (eI (0 : Int))])]), (PyData.tuple [(PyData.tuple [(eI (0 : Int)), (eI (1 : Int))]), (PyData.tuple [(eI (1 : Int))])])]) r0).ct fun a0 =>
 .rt (a0, bag1)) : Ct Unit Unit (D × (List Int)))
theorem rf__law_odd (bag0 : (List Int)) : RF (n__law_odd bag0) (f__law_odd [.p (List.map eI bag0)]) (fun r => r.1) (fun r => [.p (List.map eI r.2)]) := rf_of (n := 2) (b := b__law_odd) (c0 := [.is (.p (List.map eI bag0)), .nw])
 (rs_asg (rk_pure (d := ((eLs eD) [(eI (-1 : Int)), (eI (0 : Int)), (eI (1 : Int)), (eI (2 : Int)), (eI (400 : Int)), (eI (401 : Int)), (eB true), (eB false), (eU ()), (eS ("" : Str)), (eS ("0" : Str)), (PyData.tuple []), (PyData.tuple [(eI (0 : Int))]), (PyData.tuple [(eU ())]), (PyData.tuple [(PyData.tuple [(eI (0 : Int))]), (PyData.tuple [(eU ())])]), (PyData.tuple [(PyData.tuple [(eI (0 : Int))]), (PyData.tuple [(eI (0 : Int))])]), (PyData.list [(eI (0 : Int))])])) (ep_elst (ep_lst (ep_acons ep_C (ep_acons ep_C (ep_acons ep_C (ep_acons ep_C (ep_acons ep_C (ep_acons ep_C (ep_acons ep_C (ep_acons ep_C (ep_acons ep_C (ep_acons ep_C (ep_acons ep_C (ep_acons (ep_tup ep_anil) (ep_acons (ep_tup (ep_acons ep_C ep_anil)) (ep_acons (ep_tup (ep_acons ep_C ep_anil)) (ep_acons (ep_tup (ep_acons (ep_tup (ep_acons ep_C ep_anil)) (ep_acons (ep_tup (ep_acons ep_C ep_anil)) ep_anil))) (ep_acons (ep_tup (ep_acons (ep_tup (ep_acons ep_C ep_anil)) (ep_acons (ep_tup (ep_acons ep_C ep_anil)) ep_anil))) (ep_acons (ep_elst (ep_lst (ep_acons ep_C ep_anil))) ep_anil)))))))))))))))))))  (rk_asgN (rs_asg (rk_elst (rk_binL (rk_pure (d := ((eLs eD) [(eI (-1 : Int)), (eI (0 : Int)), (eI (1 : Int)), (eI (2 : Int)), (eI (400 : Int)), (eI (401 : Int)), (eB true), (eB false), (eU ()), (eS ("" : Str)), (eS ("0" : Str)), (PyData.tuple []), (PyData.tuple [(eI (0 : Int))]), (PyData.tuple [(eU ())]), (PyData.tuple [(PyData.tuple [(eI (0 : Int))]), (PyData.tuple [(eU ())])]), (PyData.tuple [(PyData.tuple [(eI (0 : Int))]), (PyData.tuple [(eI (0 : Int))])]), (PyData.list [(eI (0 : Int))])])) (ep_var (d := ((eLs eD) [(eI (-1 : Int)), (eI (0 : Int)), (eI (1 : Int)), (eI (2 : Int)), (eI (400 : Int)), (eI (401 : Int)), (eB true), (eB false), (eU ()), (eS ("" : Str)), (eS ("0" : Str)), (PyData.tuple []), (PyData.tuple [(eI (0 : Int))]), (PyData.tuple [(eU ())]), (PyData.tuple [(PyData.tuple [(eI (0 : Int))]), (PyData.tuple [(eU ())])]), (PyData.tuple [(PyData.tuple [(eI (0 : Int))]), (PyData.tuple [(eI (0 : Int))])]), (PyData.list [(eI (0 : Int))])])) rfl)  (rk_pure (d := ((eLs eD) [(PyData.tuple [(PyData.tuple []), (PyData.tuple [])]), (PyData.tuple [(PyData.list [(eI (0 : Int))]), (PyData.tuple [(eU ())])]), (PyData.tuple [(PyData.tuple [(eI (0 : Int))]), (PyData.list [(eU ())])]), (PyData.tuple [(PyData.tuple [(eI (0 : Int)), (eI (1 : Int))]), (PyData.tuple [(eI (1 : Int)), (eI (0 : Int))])]), (PyData.tuple [(PyData.tuple [(eI (1 : Int)), (eI (0 : Int))]), (PyData.tuple [(eI (1 : Int)), (eI (0 : Int))])]), (PyData.tuple [(PyData.tuple [(eI (0 : Int)), (eI (1 : Int))]), (PyData.tuple [(eI (1 : Int))])])])) (ep_elst (ep_lst (ep_acons (ep_tup (ep_acons (ep_tup ep_anil) (ep_acons (ep_tup ep_anil) ep_anil))) (ep_acons (ep_tup (ep_acons (ep_elst (ep_lst (ep_acons ep_C ep_anil))) (ep_acons (ep_tup (ep_acons ep_C ep_anil)) ep_anil))) (ep_acons (ep_tup (ep_acons (ep_tup (ep_acons ep_C ep_anil)) (ep_acons (ep_elst (ep_lst (ep_acons ep_C ep_anil))) ep_anil))) (ep_acons (ep_tup (ep_acons (ep_tup (ep_acons ep_C (ep_acons ep_C ep_anil))) (ep_acons (ep_tup (ep_acons ep_C (ep_acons ep_C ep_anil))) ep_anil))) (ep_acons (ep_tup (ep_acons (ep_tup (ep_acons ep_C (ep_acons ep_C ep_anil))) (ep_acons (ep_tup (ep_acons ep_C (ep_acons ep_C ep_anil))) ep_anil))) (ep_acons (ep_tup (ep_acons (ep_tup (ep_acons ep_C (ep_acons ep_C ep_anil))) (ep_acons (ep_tup (ep_acons ep_C ep_anil)) ep_anil))) ep_anil))))))))  (rk_catL (f := eD) (xs := [(eI (-1 : Int)), (eI (0 : Int)), (eI (1 : Int)), (eI (2 : Int)), (eI (400 : Int)), (eI (401 : Int)), (eB true), (eB false), (eU ()), (eS ("" : Str)), (eS ("0" : Str)), (PyData.tuple []), (PyData.tuple [(eI (0 : Int))]), (PyData.tuple [(eU ())]), (PyData.tuple [(PyData.tuple [(eI (0 : Int))]), (PyData.tuple [(eU ())])]), (PyData.tuple [(PyData.tuple [(eI (0 : Int))]), (PyData.tuple [(eI (0 : Int))])]), (PyData.list [(eI (0 : Int))])]) (ys := [(PyData.tuple [(PyData.tuple []), (PyData.tuple [])]), (PyData.tuple [(PyData.list [(eI (0 : Int))]), (PyData.tuple [(eU ())])]), (PyData.tuple [(PyData.tuple [(eI (0 : Int))]), (PyData.list [(eU ())])]), (PyData.tuple [(PyData.tuple [(eI (0 : Int)), (eI (1 : Int))]), (PyData.tuple [(eI (1 : Int)), (eI (0 : Int))])]), (PyData.tuple [(PyData.tuple [(eI (1 : Int)), (eI (0 : Int))]), (PyData.tuple [(eI (1 : Int)), (eI (0 : Int))])]), (PyData.tuple [(PyData.tuple [(eI (0 : Int)), (eI (1 : Int))]), (PyData.tuple [(eI (1 : Int))])])]) (rk_asgN (rs_last (rs_ret (rk_ixN (rk_callN (rk_lend (rk_rcons (rk_pure (d := (eI (([(eI (-1 : Int)), (eI (0 : Int)), (eI (1 : Int)), (eI (2 : Int)), (eI (400 : Int)), (eI (401 : Int)), (eB true), (eB false), (eU ()), (eS ("" : Str)), (eS ("0" : Str)), (PyData.tuple []), (PyData.tuple [(eI (0 : Int))]), (PyData.tuple [(eU ())]), (PyData.tuple [(PyData.tuple [(eI (0 : Int))]), (PyData.tuple [(eU ())])]), (PyData.tuple [(PyData.tuple [(eI (0 : Int))]), (PyData.tuple [(eI (0 : Int))])]), (PyData.list [(eI (0 : Int))])] ++ [(PyData.tuple [(PyData.tuple []), (PyData.tuple [])]), (PyData.tuple [(PyData.list [(eI (0 : Int))]), (PyData.tuple [(eU ())])]), (PyData.tuple [(PyData.tuple [(eI (0 : Int))]), (PyData.list [(eU ())])]), (PyData.tuple [(PyData.tuple [(eI (0 : Int)), (eI (1 : Int))]), (PyData.tuple [(eI (1 : Int)), (eI (0 : Int))])]), (PyData.tuple [(PyData.tuple [(eI (1 : Int)), (eI (0 : Int))]), (PyData.tuple [(eI (1 : Int)), (eI (0 : Int))])]), (PyData.tuple [(PyData.tuple [(eI (0 : Int)), (eI (1 : Int))]), (PyData.tuple [(eI (1 : Int))])])]).length : Int))) (ep_cb (ep_acons (ep_var (d := ((eLs eD) ([(eI (-1 : Int)), (eI (0 : Int)), (eI (1 : Int)), (eI (2 : Int)), (eI (400 : Int)), (eI (401 : Int)), (eB true), (eB false), (eU ()), (eS ("" : Str)), (eS ("0" : Str)), (PyData.tuple []), (PyData.tuple [(eI (0 : Int))]), (PyData.tuple [(eU ())]), (PyData.tuple [(PyData.tuple [(eI (0 : Int))]), (PyData.tuple [(eU ())])]), (PyData.tuple [(PyData.tuple [(eI (0 : Int))]), (PyData.tuple [(eI (0 : Int))])]), (PyData.list [(eI (0 : Int))])] ++ [(PyData.tuple [(PyData.tuple []), (PyData.tuple [])]), (PyData.tuple [(PyData.list [(eI (0 : Int))]), (PyData.tuple [(eU ())])]), (PyData.tuple [(PyData.tuple [(eI (0 : Int))]), (PyData.list [(eU ())])]), (PyData.tuple [(PyData.tuple [(eI (0 : Int)), (eI (1 : Int))]), (PyData.tuple [(eI (1 : Int)), (eI (0 : Int))])]), (PyData.tuple [(PyData.tuple [(eI (1 : Int)), (eI (0 : Int))]), (PyData.tuple [(eI (1 : Int)), (eI (0 : Int))])]), (PyData.tuple [(PyData.tuple [(eI (0 : Int)), (eI (1 : Int))]), (PyData.tuple [(eI (1 : Int))])])]))) rfl) ep_anil) (len_L (f := eD) ([(eI (-1 : Int)), (eI (0 : Int)), (eI (1 : Int)), (eI (2 : Int)), (eI (400 : Int)), (eI (401 : Int)), (eB true), (eB false), (eU ()), (eS ("" : Str)), (eS ("0" : Str)), (PyData.tuple []), (PyData.tuple [(eI (0 : Int))]), (PyData.tuple [(eU ())]), (PyData.tuple [(PyData.tuple [(eI (0 : Int))]), (PyData.tuple [(eU ())])]), (PyData.tuple [(PyData.tuple [(eI (0 : Int))]), (PyData.tuple [(eI (0 : Int))])]), (PyData.list [(eI (0 : Int))])] ++ [(PyData.tuple [(PyData.tuple []), (PyData.tuple [])]), (PyData.tuple [(PyData.list [(eI (0 : Int))]), (PyData.tuple [(eU ())])]), (PyData.tuple [(PyData.tuple [(eI (0 : Int))]), (PyData.list [(eU ())])]), (PyData.tuple [(PyData.tuple [(eI (0 : Int)), (eI (1 : Int))]), (PyData.tuple [(eI (1 : Int)), (eI (0 : Int))])]), (PyData.tuple [(PyData.tuple [(eI (1 : Int)), (eI (0 : Int))]), (PyData.tuple [(eI (1 : Int)), (eI (0 : Int))])]), (PyData.tuple [(PyData.tuple [(eI (0 : Int)), (eI (1 : Int))]), (PyData.tuple [(eI (1 : Int))])])])))  (rk_rnil (rk_lendK (rk_call (rf__law_take bag0 (([(eI (-1 : Int)), (eI (0 : Int)), (eI (1 : Int)), (eI (2 : Int)), (eI (400 : Int)), (eI (401 : Int)), (eB true), (eB false), (eU ()), (eS ("" : Str)), (eS ("0" : Str)), (PyData.tuple []), (PyData.tuple [(eI (0 : Int))]), (PyData.tuple [(eU ())]), (PyData.tuple [(PyData.tuple [(eI (0 : Int))]), (PyData.tuple [(eU ())])]), (PyData.tuple [(PyData.tuple [(eI (0 : Int))]), (PyData.tuple [(eI (0 : Int))])]), (PyData.list [(eI (0 : Int))])] ++ [(PyData.tuple [(PyData.tuple []), (PyData.tuple [])]), (PyData.tuple [(PyData.list [(eI (0 : Int))]), (PyData.tuple [(eU ())])]), (PyData.tuple [(PyData.tuple [(eI (0 : Int))]), (PyData.list [(eU ())])]), (PyData.tuple [(PyData.tuple [(eI (0 : Int)), (eI (1 : Int))]), (PyData.tuple [(eI (1 : Int)), (eI (0 : Int))])]), (PyData.tuple [(PyData.tuple [(eI (1 : Int)), (eI (0 : Int))]), (PyData.tuple [(eI (1 : Int)), (eI (0 : Int))])]), (PyData.tuple [(PyData.tuple [(eI (0 : Int)), (eI (1 : Int))]), (PyData.tuple [(eI (1 : Int))])])]).length : Int)) (fun ⟨r0, bag1⟩ => (rk_ixAt (d := ((eLs eD) ([(eI (-1 : Int)), (eI (0 : Int)), (eI (1 : Int)), (eI (2 : Int)), (eI (400 : Int)), (eI (401 : Int)), (eB true), (eB false), (eU ()), (eS ("" : Str)), (eS ("0" : Str)), (PyData.tuple []), (PyData.tuple [(eI (0 : Int))]), (PyData.tuple [(eU ())]), (PyData.tuple [(PyData.tuple [(eI (0 : Int))]), (PyData.tuple [(eU ())])]), (PyData.tuple [(PyData.tuple [(eI (0 : Int))]), (PyData.tuple [(eI (0 : Int))])]), (PyData.list [(eI (0 : Int))])] ++ [(PyData.tuple [(PyData.tuple []), (PyData.tuple [])]), (PyData.tuple [(PyData.list [(eI (0 : Int))]), (PyData.tuple [(eU ())])]), (PyData.tuple [(PyData.tuple [(eI (0 : Int))]), (PyData.list [(eU ())])]), (PyData.tuple [(PyData.tuple [(eI (0 : Int)), (eI (1 : Int))]), (PyData.tuple [(eI (1 : Int)), (eI (0 : Int))])]), (PyData.tuple [(PyData.tuple [(eI (1 : Int)), (eI (0 : Int))]), (PyData.tuple [(eI (1 : Int)), (eI (0 : Int))])]), (PyData.tuple [(PyData.tuple [(eI (0 : Int)), (eI (1 : Int))]), (PyData.tuple [(eI (1 : Int))])])]))) (rk_ixL (f := eD) (xs := ([(eI (-1 : Int)), (eI (0 : Int)), (eI (1 : Int)), (eI (2 : Int)), (eI (400 : Int)), (eI (401 : Int)), (eB true), (eB false), (eU ()), (eS ("" : Str)), (eS ("0" : Str)), (PyData.tuple []), (PyData.tuple [(eI (0 : Int))]), (PyData.tuple [(eU ())]), (PyData.tuple [(PyData.tuple [(eI (0 : Int))]), (PyData.tuple [(eU ())])]), (PyData.tuple [(PyData.tuple [(eI (0 : Int))]), (PyData.tuple [(eI (0 : Int))])]), (PyData.list [(eI (0 : Int))])] ++ [(PyData.tuple [(PyData.tuple []), (PyData.tuple [])]), (PyData.tuple [(PyData.list [(eI (0 : Int))]), (PyData.tuple [(eU ())])]), (PyData.tuple [(PyData.tuple [(eI (0 : Int))]), (PyData.list [(eU ())])]), (PyData.tuple [(PyData.tuple [(eI (0 : Int)), (eI (1 : Int))]), (PyData.tuple [(eI (1 : Int)), (eI (0 : Int))])]), (PyData.tuple [(PyData.tuple [(eI (1 : Int)), (eI (0 : Int))]), (PyData.tuple [(eI (1 : Int)), (eI (0 : Int))])]), (PyData.tuple [(PyData.tuple [(eI (0 : Int)), (eI (1 : Int))]), (PyData.tuple [(eI (1 : Int))])])])) fun a0 => (rk_ret (r := (a0, bag1)) fun _ he => ⟨rfl, outs_of rfl rfl he⟩)) rfl)) (fun _ _ _ _ => trivial)))))))))))))))))))))
def n__law_replaced : Nat → (List Int) → D → Int → N (D × (List Int))
 | 0 => fun _ _ _ => .stuck
 | j + 1 => fun bag0 thing0 deep0 => Ct.fn (
 (Ct.fn ((if (decide (deep0 = (0 : Int))) = true then
 .rt (true, bag0) else
 (if (!(isTupD thing0)) = true then
 .rt (true, bag0) else
 (eqN thing0 (PyData.tuple [])).ct fun b0 =>
 (if b0 = true then
 .rt (true, bag0) else
 (n__law_take bag0 (6 : Int)).ct (P2 fun r0 bag2 =>
 .rt ((decide (r0 = (0 : Int))), bag2))))) : Ct Unit Unit (Bool × (List Int)))).ct (P2 fun b1 bag1 =>
 (if b1 = true then
 (n__law_odd bag1).ct (P2 fun r1 bag3 =>
 .rt (r1, bag3)) else
 (intN (fLen [thing0])).ct fun n0 =>
 (n__law_take bag1 n0).ct (P2 fun r2 bag4 =>
 (n__law_take bag4 (9 : Int)).ct (P2 fun r3 bag5 =>
 (if (decide (r3 = (0 : Int))) = true then
 (ofO (dSl thing0 none (some r2))).ct fun z0 =>
 (ofO (dSl thing0 (some (r2 + (1 : Int))) none)).ct fun z1 =>
 (ofO (dAdd z0 z1)).ct fun z2 =>
 .rt (z2, bag5) else
 (if (decide (r3 = (1 : Int))) = true then
 (ofO (dSl thing0 none (some r2))).ct fun z3 =>
 (ofO (dIx thing0 (eI r2))).ct fun z4 =>
 (ofO (dAdd z3 ((eTs eD) [z4]))).ct fun z5 =>
 (ofO (dSl thing0 (some r2) none)).ct fun z6 =>
 (ofO (dAdd z5 z6)).ct fun z7 =>
 .rt (z7, bag5) else
 (if (decide (r3 = (2 : Int))) = true then
 (ofO (fList [thing0])).ct fun xs0 =>
 .rt (((eLs eD) xs0), bag5) else
 (if (decide (r3 = (3 : Int))) = true then
 (ofO (dSl thing0 none (some r2))).ct fun z8 =>
 (ofO (dSl thing0 (some r2) (some (r2 + (2 : Int))))).ct fun z9 =>
 (ofO (revO z9)).ct fun z10 =>
 (ofO (dAdd z8 z10)).ct fun z11 =>
 (ofO (dSl thing0 (some (r2 + (2 : Int))) none)).ct fun z12 =>
 (ofO (dAdd z11 z12)).ct fun z13 =>
 .rt (z13, bag5) else
 (ofO (dSl thing0 none (some r2))).ct fun z14 =>
 (ofO (dIx thing0 (eI r2))).ct fun z15 =>
 (n__law_replaced j bag5 z15 (deep0 - (1 : Int))).ct (P2 fun r4 bag6 =>
 (ofO (dAdd z14 ((eTs eD) [r4]))).ct fun z16 =>
 (ofO (dSl thing0 (some (r2 + (1 : Int))) none)).ct fun z17 =>
 (ofO (dAdd z16 z17)).ct fun z18 =>
 .rt (z18, bag6)))))))))) : Ct Unit Unit (D × (List Int)))
theorem rf__law_replaced (j : Nat) : ∀ (bag0 : (List Int)) (thing0 : D) (deep0 : Int), RF (n__law_replaced j bag0 thing0 deep0) (f__law_replaced j [.p (List.map eI bag0), .v thing0, .v (eI deep0)]) (fun r => r.1) (fun r => [.p (List.map eI r.2), .no, .no]) := by
  induction j with
  | zero => exact fun _ _ _ => trivial
  | succ j ih => exact fun bag0 thing0 deep0 => rf_of (n := 5) (b := b__law_replaced (f__law_replaced j)) (c0 := [.is (.p (List.map eI bag0)), .is (.v thing0), .is (.v (eI deep0)), .nw, .nw]) (rs_if (rk_unitT (v := (P2 fun b1 bag1 => b1)) (c' := (P2 fun b1 bag1 => [.is (.p (List.map eI bag1)), .is (.v thing0), .is (.v (eI deep0)), .nw, .nw])) (rk_orT (rk_pure (d := (decide (deep0 = (0 : Int)))) (ep_tst (ep_bin (ep_var (d := (eI deep0)) rfl) ep_C (eq_typed (f := eI) deep0 (0 : Int)))) (rk_ifF (rk_retT fun _ he => ⟨rfl, he.sub (sub_cons wk_is (sub_cons wk_is (sub_cons wk_is (sub_cons wk_nw (sub_cons wk_nw sub_nil)))))⟩) (rk_orT (rk_pure (d := (!(isTupD thing0))) (ep_notT (ep_tst (ep_isi (ep_var (d := thing0) rfl) (isi_tup thing0)))) (rk_ifF (rk_retT fun _ he => ⟨rfl, he.sub (sub_cons wk_is (sub_cons wk_is (sub_cons wk_is (sub_cons wk_nw (sub_cons wk_nw sub_nil)))))⟩) (rk_orT (rk_tst (rk_bin (rk_pure (d := thing0) (ep_var (d := thing0) rfl)  (rk_pure (d := (PyData.tuple [])) (ep_tup ep_anil)  (rk_eqD (x := thing0) (y := (PyData.tuple [])) fun b0 => (rk_put rfl (rk_ifF (rk_retT fun _ he => ⟨rfl, he.sub (sub_cons wk_is (sub_cons wk_is (sub_cons wk_is (sub_cons wk_nw (sub_cons wk_nw sub_nil)))))⟩) (rk_tst (rk_bin (rk_callN (rk_lend (rk_rcons (rk_pure (d := (eI (6 : Int))) ep_C  (rk_rnil (rk_lendK (rk_call (rf__law_take bag0 (6 : Int)) (fun ⟨r0, bag2⟩ => (rk_pure (d := (eI (0 : Int))) ep_C  (rk_put (eq_typed (f := eI) r0 (0 : Int)) (rk_put rfl (rk_retT fun _ he => ⟨rfl, he.sub (sub_cons wk_is (sub_cons wk_is (sub_cons wk_is (sub_cons wk_nw (sub_cons wk_nw sub_nil)))))⟩))))) (fun _ _ _ _ => trivial)))))))))))))))))))))))) (fun ⟨b1, bag1⟩ => (rk_ifF (rs_ret (rk_callN (rk_lend (rk_rnil (rk_lendK (rk_call (rf__law_odd bag1) (fun ⟨r1, bag3⟩ => (rk_ret (r := (r1, bag3)) fun _ he => ⟨rfl, outs_of rfl rfl he⟩)) (fun _ _ _ _ => trivial))))))) (rs_nxs (rs_asg (rk_callN (rk_lend (rk_rcons (rk_cb (rk_acons (rk_pure (d := thing0) (ep_var (d := thing0) rfl)  (rk_anil (rk_intN fun n0 => (rk_rnil (rk_lendK (rk_call (rf__law_take bag1 n0) (fun ⟨r2, bag4⟩ => (rk_asgN (rs_asg (rk_callN (rk_lend (rk_rcons (rk_pure (d := (eI (9 : Int))) ep_C  (rk_rnil (rk_lendK (rk_call (rf__law_take bag4 (9 : Int)) (fun ⟨r3, bag5⟩ => (rk_asgN (rs_if (rk_pure (d := (decide (r3 = (0 : Int)))) (ep_tst (ep_bin (ep_var (d := (eI r3)) rfl) ep_C (eq_typed (f := eI) r3 (0 : Int)))) (rk_ifF (rs_ret (rk_bin (rk_sl (rk_pure (d := thing0) (ep_var (d := thing0) rfl)  (rk_ptN (rk_ptS (rk_pure (d := (eI r2)) (ep_var (d := (eI r2)) rfl)  (rk_put rfl (rk_anyD fun z0 => (rk_sl (rk_pure (d := thing0) (ep_var (d := thing0) rfl)  (rk_ptS (rk_pure (d := (eI (r2 + (1 : Int)))) (ep_bin (ep_var (d := (eI r2)) rfl) ep_C rfl)  (rk_put rfl (rk_ptN (rk_anyD fun z1 => (rk_anyD fun z2 => (rk_ret (r := (z2, bag5)) fun _ he => ⟨rfl, outs_of rfl rfl he⟩)))))))))))))))))) (rs_nxs (rs_if (rk_pure (d := (decide (r3 = (1 : Int)))) (ep_tst (ep_bin (ep_var (d := (eI r3)) rfl) ep_C (eq_typed (f := eI) r3 (1 : Int)))) (rk_ifF (rs_ret (rk_bin (rk_bin (rk_sl (rk_pure (d := thing0) (ep_var (d := thing0) rfl)  (rk_ptN (rk_ptS (rk_pure (d := (eI r2)) (ep_var (d := (eI r2)) rfl)  (rk_put rfl (rk_anyD fun z3 => (rk_tup (rk_acons (rk_ixN (rk_pure (d := (eI r2)) (ep_var (d := (eI r2)) rfl)  (rk_ixAt (d := thing0) (rk_anyD fun z4 => (rk_anil (rk_put (if_pos (Nat.le_of_ble_eq_true rfl)) (rk_anyD fun z5 => (rk_sl (rk_pure (d := thing0) (ep_var (d := thing0) rfl)  (rk_ptS (rk_pure (d := (eI r2)) (ep_var (d := (eI r2)) rfl)  (rk_put rfl (rk_ptN (rk_anyD fun z6 => (rk_anyD fun z7 => (rk_ret (r := (z7, bag5)) fun _ he => ⟨rfl, outs_of rfl rfl he⟩))))))))))))) rfl))))))))))))))) (rs_nxs (rs_if (rk_pure (d := (decide (r3 = (2 : Int)))) (ep_tst (ep_bin (ep_var (d := (eI r3)) rfl) ep_C (eq_typed (f := eI) r3 (2 : Int)))) (rk_ifF (rs_ret (rk_elst (rk_cl (rk_acons (rk_pure (d := thing0) (ep_var (d := thing0) rfl)  (rk_anil (rk_listD (d := thing0) fun xs0 => (rk_ret (r := (((eLs eD) xs0), bag5)) fun _ he => ⟨rfl, outs_of rfl rfl he⟩)))))))) (rs_nxs (rs_if (rk_pure (d := (decide (r3 = (3 : Int)))) (ep_tst (ep_bin (ep_var (d := (eI r3)) rfl) ep_C (eq_typed (f := eI) r3 (3 : Int)))) (rk_ifF (rs_ret (rk_bin (rk_bin (rk_sl (rk_pure (d := thing0) (ep_var (d := thing0) rfl)  (rk_ptN (rk_ptS (rk_pure (d := (eI r2)) (ep_var (d := (eI r2)) rfl)  (rk_put rfl (rk_anyD fun z8 => (rk_revT (rk_sl (rk_pure (d := thing0) (ep_var (d := thing0) rfl)  (rk_ptS (rk_pure (d := (eI r2)) (ep_var (d := (eI r2)) rfl)  (rk_put rfl (rk_ptS (rk_pure (d := (eI (r2 + (2 : Int)))) (ep_bin (ep_var (d := (eI r2)) rfl) ep_C rfl)  (rk_put rfl (rk_anyD fun z9 => (rk_anyD fun z10 => (rk_anyD fun z11 => (rk_sl (rk_pure (d := thing0) (ep_var (d := thing0) rfl)  (rk_ptS (rk_pure (d := (eI (r2 + (2 : Int)))) (ep_bin (ep_var (d := (eI r2)) rfl) ep_C rfl)  (rk_put rfl (rk_ptN (rk_anyD fun z12 => (rk_anyD fun z13 => (rk_ret (r := (z13, bag5)) fun _ he => ⟨rfl, outs_of rfl rfl he⟩))))))))))))))))))))))))))))))) (rs_nxs (rs_last (rs_ret (rk_bin (rk_bin (rk_sl (rk_pure (d := thing0) (ep_var (d := thing0) rfl)  (rk_ptN (rk_ptS (rk_pure (d := (eI r2)) (ep_var (d := (eI r2)) rfl)  (rk_put rfl (rk_anyD fun z14 => (rk_tup (rk_acons (rk_callN (rk_lend (rk_rcons (rk_ixN (rk_pure (d := (eI r2)) (ep_var (d := (eI r2)) rfl)  (rk_ixAt (d := thing0) (rk_anyD fun z15 => (rk_rcons (rk_pure (d := (eI (deep0 - (1 : Int)))) (ep_bin (ep_var (d := (eI deep0)) rfl) ep_C rfl)  (rk_rnil (rk_lendK (rk_call (ih bag5 z15 (deep0 - (1 : Int))) (fun ⟨r4, bag6⟩ => (rk_anil (rk_put (if_pos (Nat.le_of_ble_eq_true rfl)) (rk_anyD fun z16 => (rk_sl (rk_pure (d := thing0) (ep_var (d := thing0) rfl)  (rk_ptS (rk_pure (d := (eI (r2 + (1 : Int)))) (ep_bin (ep_var (d := (eI r2)) rfl) ep_C rfl)  (rk_put rfl (rk_ptN (rk_anyD fun z17 => (rk_anyD fun z18 => (rk_ret (r := (z18, bag6)) fun _ he => ⟨rfl, outs_of rfl rfl he⟩))))))))))))) (fun _ _ _ _ => trivial))))))) rfl))))))))))))))))))))))))))))))))))))) (fun _ _ _ _ => trivial))))))))))) (fun _ _ _ _ => trivial))))))))))))))))))
def n__law_is_skin (thing0 : D) : N Bool := Ct.fn (
 (Ct.fn ((if (!(isTupD thing0)) = true then
 .rt true else
 (intN (fLen [thing0])).ct fun n0 =>
 (if (!(decide (n0 = (2 : Int)))) = true then
 .rt true else
 (ofO (seqS thing0)).ct fun xs0 =>
 (lcP (fun part0 => (.rt (isTupD part0) : Ct Unit Unit Bool)) xs0).ct fun ys0 =>
 .rt (!(ys0.all id)))) : Ct Unit Unit Bool)).ct fun b0 =>
 (if b0 = true then
 .rt false else
 (ofO (dIx thing0 (eI (0 : Int)))).ct fun z0 =>
 (intN (fLen [z0])).ct fun n1 =>
 (Ct.fn ((if (decide (n1 < (1 : Int))) = true then
 .rt true else
 (if (decide ((400 : Int) < n1)) = true then
 .rt true else
 (ofO (dIx thing0 (eI (1 : Int)))).ct fun z1 =>
 (intN (fLen [z1])).ct fun n2 =>
 .rt (!(decide (n2 = n1))))) : Ct Unit Unit Bool)).ct fun b1 =>
 (if b1 = true then
 .rt false else
 (ofO (dIx thing0 (eI (0 : Int)))).ct fun z2 =>
 (ofO (dIx thing0 (eI (1 : Int)))).ct fun z3 =>
 (ofO (seqS z3)).ct fun xs1 =>
 (lcP (fun mate0 => ((if (!(isNone mate0)) = true then
 .rt mate0 else .nx ()) : Ct Unit Unit D)) xs1).ct fun ys1 =>
 (ofO (dAdd z2 ((eTs eD) ys1))).ct fun z4 =>
 (ofO (seqS z4)).ct fun xs2 =>
 (forC (fun number0 => fun (_ : Unit) =>
 ((if ((!(isIntD number0)) || (isBoolD number0)) = true then
 .rt false else
 .nx ()) : Ct Unit Unit _)) xs2 ()).sq fun (_ : Unit) =>
 (ofO (dIx thing0 (eI (0 : Int)))).ct fun z5 =>
 (unTI z5).ct fun y0 =>
 (ofO (dIx thing0 (eI (1 : Int)))).ct fun z6 =>
 (unTO z6).ct fun y1 =>
 (n__law_broken_T y0 y1).ct fun r0 =>
 .rt (r0.isNone))) : Ct Unit Unit Bool)
theorem rf__law_is_skin (thing0 : D) : RF (n__law_is_skin thing0) (f__law_is_skin [.v thing0]) (fun r => (eB r)) (fun r => [.no]) := rf_of (n := 5) (b := b__law_is_skin) (c0 := [.is (.v thing0), .nw, .nw, .nw, .nw])
 (rs_if (rk_unitT (v := fun b0 => b0) (c' := fun b0 => [.is (.v thing0), .nw, .nw, .nw, .nw]) (rk_orT (rk_pure (d := (!(isTupD thing0))) (ep_notT (ep_tst (ep_isi (ep_var (d := thing0) rfl) (isi_tup thing0)))) (rk_ifF (rk_retT fun _ he => ⟨rfl, he.sub (sub_cons wk_is (sub_cons wk_nw (sub_cons wk_nw (sub_cons wk_nw (sub_cons wk_nw sub_nil)))))⟩) (rk_orT (rk_tst (rk_bin (rk_cb (rk_acons (rk_pure (d := thing0) (ep_var (d := thing0) rfl)  (rk_anil (rk_intN fun n0 => (rk_pure (d := (eI (2 : Int))) ep_C  (rk_put (ne_typed (f := eI) n0 (2 : Int)) (rk_put rfl (rk_ifF (rk_retT fun _ he => ⟨rfl, he.sub (sub_cons wk_is (sub_cons wk_nw (sub_cons wk_nw (sub_cons wk_nw (sub_cons wk_nw sub_nil)))))⟩) (rk_notT (rk_tst (rk_cb (rk_acons (rk_elst (rk_lc (rk_seqS (rk_pure (d := thing0) (ep_var (d := thing0) rfl)  (rk_seqD (d := thing0) fun xs0 => (rk_lcP (fe := eD) (fb := eB) (ca := fun part0 => [.is (.v thing0), .nw, .nw, .is (.v part0), .nw]) (fun _ => gs_N) (fun part0 => (rk_ck1 (rk_pure (d := (eB (isTupD part0))) (ep_isi (ep_var (d := part0) rfl) (isi_tup part0))  (rk_retC (fb := eB) (sub_cons wk_is (sub_cons wk_nw (sub_cons wk_nw (sub_cons wk_is (sub_cons wk_nw sub_nil))))))))) (fun ys0 => (rk_anil (rk_put (all_B ys0) (rk_put rfl (rk_retT fun _ he => ⟨rfl, he.sub (sub_cons wk_is (sub_cons wk_nw (sub_cons wk_nw (sub_cons wk_nw (sub_cons wk_nw sub_nil)))))⟩)))))))))))))))))))))))))))))) (fun b0 => (rk_ifF (rs_ret (rk_pure (d := (eB false)) ep_C  (rk_ret (r := false) fun _ he => ⟨rfl, outs_of rfl rfl he⟩))) (rs_nxs (rs_asg (rk_cb (rk_acons (rk_ixN (rk_pure (d := (eI (0 : Int))) ep_C  (rk_ixAt (d := thing0) (rk_anyD fun z0 => (rk_anil (rk_intN fun n1 => (rk_asgN (rs_if (rk_unitT (v := fun b1 => b1) (c' := fun b1 => [.is (.v thing0), .is (.v (eI n1)), .nw, .nw, .nw]) (rk_orT (rk_pure (d := (decide (n1 < (1 : Int)))) (ep_tst (ep_bin (ep_var (d := (eI n1)) rfl) ep_C rfl)) (rk_ifF (rk_retT fun _ he => ⟨rfl, he.sub (sub_cons wk_is (sub_cons wk_is (sub_cons wk_nw (sub_cons wk_nw (sub_cons wk_nw sub_nil)))))⟩) (rk_orT (rk_pure (d := (decide ((400 : Int) < n1))) (ep_tst (ep_bin (ep_var (d := (eI n1)) rfl) ep_C rfl)) (rk_ifF (rk_retT fun _ he => ⟨rfl, he.sub (sub_cons wk_is (sub_cons wk_is (sub_cons wk_nw (sub_cons wk_nw (sub_cons wk_nw sub_nil)))))⟩) (rk_tst (rk_bin (rk_cb (rk_acons (rk_ixN (rk_pure (d := (eI (1 : Int))) ep_C  (rk_ixAt (d := thing0) (rk_anyD fun z1 => (rk_anil (rk_intN fun n2 => (rk_pure (d := (eI n1)) (ep_var (d := (eI n1)) rfl)  (rk_put (ne_typed (f := eI) n2 n1) (rk_put rfl (rk_retT fun _ he => ⟨rfl, he.sub (sub_cons wk_is (sub_cons wk_is (sub_cons wk_nw (sub_cons wk_nw (sub_cons wk_nw sub_nil)))))⟩))))))) rfl))))))))))))) (fun b1 => (rk_ifF (rs_ret (rk_pure (d := (eB false)) ep_C  (rk_ret (r := false) fun _ he => ⟨rfl, outs_of rfl rfl he⟩))) (rs_nxs (rs_forK (rk_seqS (rk_bin (rk_ixN (rk_pure (d := (eI (0 : Int))) ep_C  (rk_ixAt (d := thing0) (rk_anyD fun z2 => (rk_cb (rk_acons (rk_elst (rk_lc (rk_seqS (rk_ixN (rk_pure (d := (eI (1 : Int))) ep_C  (rk_ixAt (d := thing0) (rk_anyD fun z3 => (rk_seqD (d := z3) fun xs1 => (rk_lcP (fe := eD) (fb := eD) (ca := fun mate0 => [.is (.v thing0), .is (.v (eI n1)), .nw, .nw, .is (.v mate0)]) (fun _ => gs_N) (fun mate0 => (rk_ck (rk_pure (d := (!(isNone mate0))) (ep_tst (ep_bin (ep_var (d := mate0) rfl) ep_C rfl)) (rk_ifF (rk_pure (d := mate0) (ep_var (d := mate0) rfl)  (rk_retC (fb := eD) (sub_cons wk_is (sub_cons wk_is (sub_cons wk_nw (sub_cons wk_nw (sub_cons wk_is sub_nil))))))) (rs_nx fun _ he => he.sub (sub_cons wk_is (sub_cons wk_is (sub_cons wk_nw (sub_cons wk_nw (sub_cons wk_is sub_nil)))))))))) (fun ys1 => (rk_anil (rk_put rfl (rk_anyD fun z4 => (rk_seqD (d := z4) fun xs2 => (rs_for (fe := eD) (c0 := fun (_ : Unit) => [.is (.v thing0), .is (.v (eI n1)), .nw, .nw, .nw]) (c1 := fun number0 => fun (_ : Unit) => [.is (.v thing0), .is (.v (eI n1)), .is (.v number0), .nw, .nw]) (s0 := ()) (sub_cons wk_is (sub_cons wk_is (sub_cons wk_nw (sub_cons wk_nw (sub_cons wk_nw sub_nil))))) (fun _ _ => gs_N) (fun number0 _ => (rs_last (rs_if (rk_pure (d := ((!(isIntD number0)) || (isBoolD number0))) (ep_orT (ep_notT (ep_tst (ep_isi (ep_var (d := number0) rfl) (isi_int number0)))) (ep_tst (ep_isi (ep_var (d := number0) rfl) (isi_bool number0)))) (rk_ifF (rs_ret (rk_pure (d := (eB false)) ep_C  (rk_ret (r := false) fun _ he => ⟨rfl, outs_of rfl rfl he⟩))) (rs_nxs (rs_nx fun _ he => he.sub (sub_cons wk_is (sub_cons wk_is (sub_cons wk_vnw (sub_cons wk_nw (sub_cons wk_nw sub_nil)))))))))))) (fun _ => (rs_last (rs_ret (rk_bin (rk_callN (rk_rcons (rk_ixN (rk_pure (d := (eI (0 : Int))) ep_C  (rk_ixAt (d := thing0) (rk_anyD fun z5 => (rs_unTI (x := z5) fun y0 hy => (by rw [hy]; exact (rk_rcons (rk_ixN (rk_pure (d := (eI (1 : Int))) ep_C  (rk_ixAt (d := thing0) (rk_anyD fun z6 => (rs_unTO (x := z6) fun y1 hy => (by rw [hy]; exact (rk_rnil (rk_call (rf__law_broken_T y0 y1) (fun r0 => (rk_pure (d := (eU ())) ep_C  (rk_put (is_none (f := eI) r0) (rk_ret (r := (r0.isNone)) fun _ he => ⟨rfl, outs_of rfl rfl he⟩)))) (fun _ _ _ _ => trivial)))))) rfl))))))) rfl)))))))))))))))))) rfl))))))))) rfl))))))))))))))) rfl)))))))))))
def n__law_truths (row0 : (List Int)) : N (List D) := Ct.fn (
 (lcP (fun one0 => (.rt (if (memB one0 [(0 : Int), (1 : Int)]) = true then (eB (decide (one0 = (1 : Int)))) else (eI one0)) : Ct Unit Unit D)) row0).ct fun ys0 =>
 .rt ys0 : Ct Unit Unit (List D))
theorem rf__law_truths (row0 : (List Int)) : RF (n__law_truths row0) (f__law_truths [.v ((eTs eI) row0)]) (fun r => ((eTs eD) r)) (fun r => [.no]) := rf_of (n := 2) (b := b__law_truths) (c0 := [.is (.v ((eTs eI) row0)), .nw])
 (rs_last (rs_ret (rk_cb (rk_acons (rk_elst (rk_lc (rk_seqS (rk_pure (d := ((eTs eI) row0)) (ep_var (d := ((eTs eI) row0)) rfl)  (rk_put rfl (rk_lcP (fe := eI) (fb := eD) (ca := fun one0 => [.is (.v ((eTs eI) row0)), .is (.v (eI one0))]) (fun _ => gs_N) (fun one0 => (rk_ck1 (rk_pure (d := (if (memB one0 [(0 : Int), (1 : Int)]) = true then (eB (decide (one0 = (1 : Int)))) else (eI one0))) (ep_if (f := eD) (x := (eB (decide (one0 = (1 : Int))))) (y := (eI one0)) (ep_tst (ep_bin (ep_var (d := (eI one0)) rfl) (ep_tup (ep_acons ep_C (ep_acons ep_C ep_anil))) (in_tup (f := eI) one0 [(0 : Int), (1 : Int)]))) (ep_bin (ep_var (d := (eI one0)) rfl) ep_C (eq_typed (f := eI) one0 (1 : Int))) (ep_var (d := (eI one0)) rfl))  (rk_retC (fb := eD) (sub_cons wk_is (sub_cons wk_is sub_nil)))))) (fun ys0 => (rk_anil (rk_put rfl (rk_ret (r := ys0) fun _ he => ⟨rfl, outs_of rfl rfl he⟩))))))))))))))
def n__law_truths_o (row0 : (List (Option Int))) : N (List D) := Ct.fn (
 (lcP (fun one0 => (.rt (if (memB one0 [(some (0 : Int)), (some (1 : Int))]) = true then (eB (decide (one0 = (some (1 : Int))))) else ((eO eI) one0)) : Ct Unit Unit D)) row0).ct fun ys0 =>
 .rt ys0 : Ct Unit Unit (List D))
theorem rf__law_truths_o (row0 : (List (Option Int))) : RF (n__law_truths_o row0) (f__law_truths [.v ((eTs (eO eI)) row0)]) (fun r => ((eTs eD) r)) (fun r => [.no]) := rf_of (n := 2) (b := b__law_truths) (c0 := [.is (.v ((eTs (eO eI)) row0)), .nw])
 (rs_last (rs_ret (rk_cb (rk_acons (rk_elst (rk_lc (rk_seqS (rk_pure (d := ((eTs (eO eI)) row0)) (ep_var (d := ((eTs (eO eI)) row0)) rfl)  (rk_put rfl (rk_lcP (fe := (eO eI)) (fb := eD) (ca := fun one0 => [.is (.v ((eTs (eO eI)) row0)), .is (.v ((eO eI) one0))]) (fun _ => gs_N) (fun one0 => (rk_ck1 (rk_pure (d := (if (memB one0 [(some (0 : Int)), (some (1 : Int))]) = true then (eB (decide (one0 = (some (1 : Int))))) else ((eO eI) one0))) (ep_if (f := eD) (x := (eB (decide (one0 = (some (1 : Int)))))) (y := ((eO eI) one0)) (ep_tst (ep_bin (ep_var (d := ((eO eI) one0)) rfl) (ep_tup (ep_acons ep_C (ep_acons ep_C ep_anil))) (in_tup (f := (eO eI)) one0 [(some (0 : Int)), (some (1 : Int))]))) (ep_bin (ep_var (d := ((eO eI) one0)) rfl) ep_C (eq_typed (f := (eO eI)) one0 (some (1 : Int)))) (ep_var (d := ((eO eI) one0)) rfl))  (rk_retC (fb := eD) (sub_cons wk_is (sub_cons wk_is sub_nil)))))) (fun ys0 => (rk_anil (rk_put rfl (rk_ret (r := ys0) fun _ he => ⟨rfl, outs_of rfl rfl he⟩))))))))))))))
def n_law (script0 : (List Int)) : N Bool := Ct.fn (
 (rngN ((1 : Int) + (imin (script0.length : Int) (40 : Int)))).ct fun xs0 =>
 (forC (fun k0 => fun (_ : Unit) =>
 ((n__law_bag script0 k0).ct fun r0 =>
 (n__law_take r0 (8 : Int)).ct (P2 fun r1 bag0 =>
 (idx [(20 : Int), (400 : Int)] (b2i (decide (r1 = (0 : Int))))).ct fun a0 =>
 (n__law_skin bag0 a0).ct (P2 fun r2 bag1 =>
 (Ct.fn ((n_is_skin_D ((eP2 (eTs eI) (eTs (eO eI))) r2)).ct fun r3 =>
 (if (!(decide (r3 = true))) = true then
 .rt true else
 (n__law_truths r2.1).ct fun r4 =>
 (n_is_skin_D ((eP2 (eTs eD) (eTs (eO eI))) (r4, r2.2))).ct fun r5 =>
 .rt (!(decide (r5 = false)))) : Ct Unit Unit Bool)).ct fun b0 =>
 (if b0 = true then
 .rt false else
 (n__law_truths_o r2.2).ct fun r6 =>
 (n_is_skin_D ((eP2 (eTs eI) (eTs eD)) (r2.1, r6))).ct fun r7 =>
 (if (!(decide (r7 = ((!(memB (some (0 : Int)) r2.2)) && (!(memB (some (1 : Int)) r2.2)))))) = true then
 .rt false else
 (n__law_replaced 64 bag1 ((eP2 (eTs eI) (eTs (eO eI))) r2) (2 : Int)).ct (P2 fun r8 bag2 =>
 (Ct.sq ((n__law_take bag2 (3 : Int)).ct (P2 fun r9 bag4 =>
 (if (decide (r9 = (0 : Int))) = true then
 (n__law_replaced 64 bag4 r8 (2 : Int)).ct (P2 fun r10 bag5 =>
 .nx (bag5, r10)) else
 .nx (bag4, r8))) : Ct ((List Int) × D) _ _) (P2 fun bag3 thing0 =>
 (n__law_odd bag3).ct (P2 fun r11 bag6 =>
 (forC (fun one0 => fun (_ : Unit) =>
 ((n_is_skin_D one0).ct fun r12 =>
 (Ct.fn ((if (!(isBoolD (eB r12))) = true then
 .rt true else
 (n__law_is_skin one0).ct fun r13 =>
 .rt (!(decide (r12 = r13)))) : Ct Unit Unit Bool)).ct fun b1 =>
 (if b1 = true then
 .rt false else
 .nx ()) : Ct Unit Unit _)) [thing0, r11] ()).sq fun (_ : Unit) =>
 .nx ())))))))) : Ct Unit Unit _)) xs0 ()).sq fun (_ : Unit) =>
 (n__law_bag script0 (0 : Int)).ct fun r14 =>
 (n__law_take r14 (399 : Int)).ct (P2 fun r15 bag7 =>
 (forC (fun many0 => fun (_ : Unit) =>
 ((rngN many0).ct fun xs1 =>
 (lcP (fun half0 => ((modN (half0 + ((1 : Int) + r15)) many0).ct fun n0 =>
 .rt n0 : Ct Unit Unit Int)) xs1).ct fun ys0 =>
 (mulTN [()] many0).ct fun ys1 =>
 (n_is_skin_D ((eP2 (eTs eI) (eTs eU)) (ys0, ys1))).ct fun r16 =>
 (if (!(decide (r16 = (decide (many0 = (400 : Int)))))) = true then
 .rt false else
 .nx ()) : Ct Unit Unit _)) [(400 : Int), (401 : Int)] ()).sq fun (_ : Unit) =>
 .rt true) : Ct Unit Unit Bool)
theorem rf_law (script0 : (List Int)) : RF (n_law script0) (f_law [.v ((eLs eI) script0)]) (fun r => (eB r)) (fun r => [.no]) := rf_of (n := 11) (b := b_law) (c0 := [.is (.v ((eLs eI) script0)), .nw, .nw, .nw, .nw, .nw, .nw, .nw, .nw, .nw, .nw])
 (rs_forK (rk_rng (j := ((1 : Int) + (imin (script0.length : Int) (40 : Int)))) (ep_acons (ep_bin ep_C (ep_cb (ep_acons (ep_cb (ep_acons (ep_var (d := ((eLs eI) script0)) rfl) ep_anil) (len_L (f := eI) script0)) (ep_acons ep_C ep_anil)) rfl) rfl) ep_anil) fun xs0 => (rs_for (fe := eI) (c0 := fun (_ : Unit) => [.is (.v ((eLs eI) script0)), .nw, .np, .nw, .nw, .nw, .nw, .nw, .nw, .nw, .nw]) (c1 := fun k0 => fun (_ : Unit) => [.is (.v ((eLs eI) script0)), .is (.v (eI k0)), .np, .nw, .nw, .nw, .nw, .nw, .nw, .nw, .nw]) (s0 := ()) (sub_cons wk_is (sub_cons wk_nw (sub_cons wk_nwnp (sub_cons wk_nw (sub_cons wk_nw (sub_cons wk_nw (sub_cons wk_nw (sub_cons wk_nw (sub_cons wk_nw (sub_cons wk_nw (sub_cons wk_nw sub_nil))))))))))) (fun _ _ => gs_N) (fun k0 _ => (rs_asgL (rk_callNL (rk_rcons (rk_pure (d := ((eLs eI) script0)) (ep_var (d := ((eLs eI) script0)) rfl)  (rk_rcons (rk_pure (d := (eI k0)) (ep_var (d := (eI k0)) rfl)  (rk_rnil (rk_callL (rf__law_bag script0 k0) (fun r0 => (rk_asgL (rs_asg (rk_callN (rk_lend (rk_rcons (rk_bin (rk_pure (d := ((eLs eI) [(20 : Int), (400 : Int)])) (ep_elst (ep_lst (ep_acons ep_C (ep_acons ep_C ep_anil))))  (rk_cb (rk_acons (rk_bin (rk_callN (rk_lend (rk_rcons (rk_pure (d := (eI (8 : Int))) ep_C  (rk_rnil (rk_lendK (rk_call (rf__law_take r0 (8 : Int)) (fun ⟨r1, bag0⟩ => (rk_pure (d := (eI (0 : Int))) ep_C  (rk_put (eq_typed (f := eI) r1 (0 : Int)) (rk_anil (rk_put rfl (rk_ixL (f := eI) (xs := [(20 : Int), (400 : Int)]) fun a0 => (rk_rnil (rk_lendK (rk_call (rf__law_skin bag0 a0) (fun ⟨r2, bag1⟩ => (rk_asgN (rs_if (rk_unitT (v := fun b0 => b0) (c' := fun b0 => [.is (.v ((eLs eI) script0)), .is (.v (eI k0)), .is (.l (List.map eI bag1)), .is (.v ((eP2 (eTs eI) (eTs (eO eI))) r2)), .nw, .nw, .nw, .nw, .nw, .nw, .nw]) (rk_orT (rk_tst (rk_bin (rk_callN (rk_rcons (rk_pure (d := ((eP2 (eTs eI) (eTs (eO eI))) r2)) (ep_var (d := ((eP2 (eTs eI) (eTs (eO eI))) r2)) rfl)  (rk_rnil (rk_call (rf_is_skin_D ((eP2 (eTs eI) (eTs (eO eI))) r2)) (fun r3 => (rk_pure (d := (eB true)) ep_C  (rk_put rfl (rk_put rfl (rk_ifF (rk_retT fun _ he => ⟨rfl, he.sub (sub_cons wk_is (sub_cons wk_is (sub_cons wk_is (sub_cons wk_is (sub_cons wk_nw (sub_cons wk_nw (sub_cons wk_nw (sub_cons wk_nw (sub_cons wk_nw (sub_cons wk_nw (sub_cons wk_nw sub_nil)))))))))))⟩) (rk_tst (rk_bin (rk_callN (rk_rcons (rk_tup (rk_acons (rk_callN (rk_rcons (rk_pure (d := ((eTs eI) r2.1)) (ep_ixN (d := ((eP2 (eTs eI) (eTs (eO eI))) r2)) ep_C rfl rfl)  (rk_rnil (rk_call (rf__law_truths r2.1) (fun r4 => (rk_acons (rk_pure (d := ((eTs (eO eI)) r2.2)) (ep_ixN (d := ((eP2 (eTs eI) (eTs (eO eI))) r2)) ep_C rfl rfl)  (rk_anil (rk_put (if_pos (Nat.le_of_ble_eq_true rfl)) (rk_rnil (rk_call (rf_is_skin_D ((eP2 (eTs eD) (eTs (eO eI))) (r4, r2.2))) (fun r5 => (rk_pure (d := (eB false)) ep_C  (rk_put rfl (rk_put rfl (rk_retT fun _ he => ⟨rfl, he.sub (sub_cons wk_is (sub_cons wk_is (sub_cons wk_is (sub_cons wk_is (sub_cons wk_nw (sub_cons wk_nw (sub_cons wk_nw (sub_cons wk_nw (sub_cons wk_nw (sub_cons wk_nw (sub_cons wk_nw sub_nil)))))))))))⟩))))) (fun _ _ _ _ => trivial)))))))) (fun _ _ _ _ => trivial))))))))))))))))) (fun _ _ _ _ => trivial))))))))) (fun b0 => (rk_ifF (rs_ret (rk_pure (d := (eB false)) ep_C  (rk_ret (r := false) fun _ he => ⟨rfl, outs_of rfl rfl he⟩))) (rs_nxs (rs_if (rk_tst (rk_bin (rk_callN (rk_rcons (rk_tup (rk_acons (rk_pure (d := ((eTs eI) r2.1)) (ep_ixN (d := ((eP2 (eTs eI) (eTs (eO eI))) r2)) ep_C rfl rfl)  (rk_acons (rk_callN (rk_rcons (rk_pure (d := ((eTs (eO eI)) r2.2)) (ep_ixN (d := ((eP2 (eTs eI) (eTs (eO eI))) r2)) ep_C rfl rfl)  (rk_rnil (rk_call (rf__law_truths_o r2.2) (fun r6 => (rk_anil (rk_put (if_pos (Nat.le_of_ble_eq_true rfl)) (rk_rnil (rk_call (rf_is_skin_D ((eP2 (eTs eI) (eTs eD)) (r2.1, r6))) (fun r7 => (rk_pure (d := (eB ((!(memB (some (0 : Int)) r2.2)) && (!(memB (some (1 : Int)) r2.2))))) (ep_and (ep_bin ep_C (ep_ixN (d := ((eP2 (eTs eI) (eTs (eO eI))) r2)) ep_C rfl rfl) (nin_tup (f := (eO eI)) (some (0 : Int)) r2.2)) (ep_bin ep_C (ep_ixN (d := ((eP2 (eTs eI) (eTs (eO eI))) r2)) ep_C rfl rfl) (nin_tup (f := (eO eI)) (some (1 : Int)) r2.2)))  (rk_put (ne_typed (f := eB) r7 ((!(memB (some (0 : Int)) r2.2)) && (!(memB (some (1 : Int)) r2.2)))) (rk_put rfl (rk_ifF (rs_ret (rk_pure (d := (eB false)) ep_C  (rk_ret (r := false) fun _ he => ⟨rfl, outs_of rfl rfl he⟩))) (rs_nxs (rs_asg (rk_callN (rk_lend (rk_rcons (rk_pure (d := ((eP2 (eTs eI) (eTs (eO eI))) r2)) (ep_var (d := ((eP2 (eTs eI) (eTs (eO eI))) r2)) rfl)  (rk_rcons (rk_pure (d := (eI (2 : Int))) ep_C  (rk_rnil (rk_lendK (rk_call (rf__law_replaced 64 bag1 ((eP2 (eTs eI) (eTs (eO eI))) r2) (2 : Int)) (fun ⟨r8, bag2⟩ => (rk_asgN (rs_seq (c1 := (P2 fun bag3 thing0 => [.is (.v ((eLs eI) script0)), .is (.v (eI k0)), .is (.l (List.map eI bag3)), .is (.v ((eP2 (eTs eI) (eTs (eO eI))) r2)), .is (.v thing0), .nw, .nw, .nw, .nw, .nw, .nw])) (rs_if0 (rk_tst (rk_bin (rk_callN (rk_lend (rk_rcons (rk_pure (d := (eI (3 : Int))) ep_C  (rk_rnil (rk_lendK (rk_call (rf__law_take bag2 (3 : Int)) (fun ⟨r9, bag4⟩ => (rk_pure (d := (eI (0 : Int))) ep_C  (rk_put (eq_typed (f := eI) r9 (0 : Int)) (rk_put rfl (rk_ifF (rs_last (rs_asg (rk_callN (rk_lend (rk_rcons (rk_pure (d := r8) (ep_var (d := r8) rfl)  (rk_rcons (rk_pure (d := (eI (2 : Int))) ep_C  (rk_rnil (rk_lendK (rk_call (rf__law_replaced 64 bag4 r8 (2 : Int)) (fun ⟨r10, bag5⟩ => (rk_asgN (rs_nx fun _ he => he.sub (sub_cons wk_is (sub_cons wk_is (sub_cons wk_is (sub_cons wk_is (sub_cons wk_is (sub_cons wk_nw (sub_cons wk_nw (sub_cons wk_nw (sub_cons wk_nw (sub_cons wk_nw (sub_cons wk_nw sub_nil)))))))))))))) (fun _ _ _ _ => trivial)))))))))))) (rs_nx fun _ he => he.sub (sub_cons wk_is (sub_cons wk_is (sub_cons wk_is (sub_cons wk_is (sub_cons wk_is (sub_cons wk_nw (sub_cons wk_nw (sub_cons wk_nw (sub_cons wk_nw (sub_cons wk_nw (sub_cons wk_nw sub_nil))))))))))))))))) (fun _ _ _ _ => trivial))))))))))) (fun ⟨bag3, thing0⟩ => (rs_last (rs_forK (rk_seqS (rk_tup (rk_acons (rk_pure (d := thing0) (ep_var (d := thing0) rfl)  (rk_acons (rk_callN (rk_lend (rk_rnil (rk_lendK (rk_call (rf__law_odd bag3) (fun ⟨r11, bag6⟩ => (rk_anil (rk_put (if_pos (Nat.le_of_ble_eq_true rfl)) (rk_put rfl (rs_for (fe := eD) (c0 := fun (_ : Unit) => [.is (.v ((eLs eI) script0)), .is (.v (eI k0)), .is (.l (List.map eI bag6)), .is (.v ((eP2 (eTs eI) (eTs (eO eI))) r2)), .is (.v thing0), .nw, .nw, .nw, .nw, .nw, .nw]) (c1 := fun one0 => fun (_ : Unit) => [.is (.v ((eLs eI) script0)), .is (.v (eI k0)), .is (.l (List.map eI bag6)), .is (.v ((eP2 (eTs eI) (eTs (eO eI))) r2)), .is (.v thing0), .is (.v one0), .nw, .nw, .nw, .nw, .nw]) (s0 := ()) (sub_cons wk_is (sub_cons wk_is (sub_cons wk_is (sub_cons wk_is (sub_cons wk_is (sub_cons wk_nw (sub_cons wk_nw (sub_cons wk_nw (sub_cons wk_nw (sub_cons wk_nw (sub_cons wk_nw sub_nil))))))))))) (fun _ _ => gs_N) (fun one0 _ => (rs_asg (rk_callN (rk_rcons (rk_pure (d := one0) (ep_var (d := one0) rfl)  (rk_rnil (rk_call (rf_is_skin_D one0) (fun r12 => (rk_asgN (rs_last (rs_if (rk_unitT (v := fun b1 => b1) (c' := fun b1 => [.is (.v ((eLs eI) script0)), .is (.v (eI k0)), .is (.l (List.map eI bag6)), .is (.v ((eP2 (eTs eI) (eTs (eO eI))) r2)), .is (.v thing0), .is (.v one0), .is (.v (eB r12)), .nw, .nw, .nw, .nw]) (rk_orT (rk_pure (d := (!(isBoolD (eB r12)))) (ep_notT (ep_tst (ep_isi (ep_var (d := (eB r12)) rfl) (isi_bool (eB r12))))) (rk_ifF (rk_retT fun _ he => ⟨rfl, he.sub (sub_cons wk_is (sub_cons wk_is (sub_cons wk_is (sub_cons wk_is (sub_cons wk_is (sub_cons wk_is (sub_cons wk_is (sub_cons wk_nw (sub_cons wk_nw (sub_cons wk_nw (sub_cons wk_nw sub_nil)))))))))))⟩) (rk_tst (rk_bin (rk_pure (d := (eB r12)) (ep_var (d := (eB r12)) rfl)  (rk_callN (rk_rcons (rk_pure (d := one0) (ep_var (d := one0) rfl)  (rk_rnil (rk_call (rf__law_is_skin one0) (fun r13 => (rk_put (ne_typed (f := eB) r12 r13) (rk_put rfl (rk_retT fun _ he => ⟨rfl, he.sub (sub_cons wk_is (sub_cons wk_is (sub_cons wk_is (sub_cons wk_is (sub_cons wk_is (sub_cons wk_is (sub_cons wk_is (sub_cons wk_nw (sub_cons wk_nw (sub_cons wk_nw (sub_cons wk_nw sub_nil)))))))))))⟩)))) (fun _ _ _ _ => trivial)))))))))))) (fun b1 => (rk_ifF (rs_ret (rk_pure (d := (eB false)) ep_C  (rk_ret (r := false) fun _ he => ⟨rfl, outs_of rfl rfl he⟩))) (rs_nxs (rs_nx fun _ he => he.sub (sub_cons wk_is (sub_cons wk_is (sub_cons wk_is (sub_cons wk_is (sub_cons wk_is (sub_cons wk_vnw (sub_cons wk_vnw (sub_cons wk_nw (sub_cons wk_nw (sub_cons wk_nw (sub_cons wk_nw sub_nil)))))))))))))))))))) (fun _ _ _ _ => trivial)))))))) (fun _ => (rs_nx fun _ he => he.sub (sub_cons wk_is (sub_cons wk_vnw (sub_cons wk_lnp (sub_cons wk_vnw (sub_cons wk_vnw (sub_cons wk_nw (sub_cons wk_nw (sub_cons wk_nw (sub_cons wk_nw (sub_cons wk_nw (sub_cons wk_nw sub_nil)))))))))))))))))) (fun _ _ _ _ => trivial))))))))))))))))) (fun _ _ _ _ => trivial))))))))))))))))) (fun _ _ _ _ => trivial)))))) (fun _ _ _ _ => trivial)))))))))))))))))))))) (fun _ _ _ _ => trivial)))))))))) (fun _ _ _ _ => trivial))))))))))))))))))) (fun _ _ _ _ => trivial)))))))))) (fun _ => (rs_asgL (rk_callNL (rk_rcons (rk_pure (d := ((eLs eI) script0)) (ep_var (d := ((eLs eI) script0)) rfl)  (rk_rcons (rk_pure (d := (eI (0 : Int))) ep_C  (rk_rnil (rk_callL (rf__law_bag script0 (0 : Int)) (fun r14 => (rk_asgL (rs_asg (rk_bin (rk_pure (d := (eI (1 : Int))) ep_C  (rk_callN (rk_lend (rk_rcons (rk_pure (d := (eI (399 : Int))) ep_C  (rk_rnil (rk_lendK (rk_call (rf__law_take r14 (399 : Int)) (fun ⟨r15, bag7⟩ => (rk_put rfl (rk_asgN (rs_forK (rk_seqS (rk_pure (d := ((eTs eI) [(400 : Int), (401 : Int)])) (ep_tup (ep_acons ep_C (ep_acons ep_C ep_anil)))  (rk_put rfl (rs_for (fe := eI) (c0 := fun (_ : Unit) => [.is (.v ((eLs eI) script0)), .nw, .is (.l (List.map eI bag7)), .nw, .nw, .nw, .nw, .is (.v (eI ((1 : Int) + r15))), .nw, .nw, .nw]) (c1 := fun many0 => fun (_ : Unit) => [.is (.v ((eLs eI) script0)), .nw, .is (.l (List.map eI bag7)), .nw, .nw, .nw, .nw, .is (.v (eI ((1 : Int) + r15))), .is (.v (eI many0)), .nw, .nw]) (s0 := ()) (sub_cons wk_is (sub_cons wk_nw (sub_cons wk_is (sub_cons wk_nw (sub_cons wk_nw (sub_cons wk_nw (sub_cons wk_nw (sub_cons wk_is (sub_cons wk_nw (sub_cons wk_nw (sub_cons wk_nw sub_nil))))))))))) (fun _ _ => gs_N) (fun many0 _ => (rs_asg (rk_tup (rk_acons (rk_cb (rk_acons (rk_elst (rk_lc (rk_rng (j := many0) (ep_acons (ep_var (d := (eI many0)) rfl) ep_anil) fun xs1 => (rk_lcP (fe := eI) (fb := eI) (ca := fun half0 => [.is (.v ((eLs eI) script0)), .nw, .is (.l (List.map eI bag7)), .nw, .nw, .nw, .nw, .is (.v (eI ((1 : Int) + r15))), .is (.v (eI many0)), .nw, .is (.v (eI half0))]) (fun _ => gs_N) (fun half0 => (rk_ck1 (rk_bin (rk_pure (d := (eI (half0 + ((1 : Int) + r15)))) (ep_bin (ep_var (d := (eI half0)) rfl) (ep_var (d := (eI ((1 : Int) + r15))) rfl) rfl)  (rk_pure (d := (eI many0)) (ep_var (d := (eI many0)) rfl)  (rk_mod fun n0 => (rk_retC (fb := eI) (sub_cons wk_is (sub_cons wk_nw (sub_cons wk_is (sub_cons wk_nw (sub_cons wk_nw (sub_cons wk_nw (sub_cons wk_nw (sub_cons wk_is (sub_cons wk_is (sub_cons wk_nw (sub_cons wk_is sub_nil)))))))))))))))))) (fun ys0 => (rk_anil (rk_put rfl (rk_acons (rk_bin (rk_pure (d := ((eTs eU) [()])) (ep_tup (ep_acons ep_C ep_anil))  (rk_pure (d := (eI many0)) (ep_var (d := (eI many0)) rfl)  (rk_mulT (f := eU) (xs := [()]) (n := many0) fun ys1 => (rk_anil (rk_put (if_pos (Nat.le_of_ble_eq_true rfl)) (rk_asgN (rs_last (rs_if (rk_tst (rk_bin (rk_callN (rk_rcons (rk_pure (d := ((eP2 (eTs eI) (eTs eU)) (ys0, ys1))) (ep_var (d := ((eP2 (eTs eI) (eTs eU)) (ys0, ys1))) rfl)  (rk_rnil (rk_call (rf_is_skin_D ((eP2 (eTs eI) (eTs eU)) (ys0, ys1))) (fun r16 => (rk_pure (d := (eB (decide (many0 = (400 : Int))))) (ep_bin (ep_var (d := (eI many0)) rfl) ep_C (eq_typed (f := eI) many0 (400 : Int)))  (rk_put (ne_typed (f := eB) r16 (decide (many0 = (400 : Int)))) (rk_put rfl (rk_ifF (rs_ret (rk_pure (d := (eB false)) ep_C  (rk_ret (r := false) fun _ he => ⟨rfl, outs_of rfl rfl he⟩))) (rs_nxs (rs_nx fun _ he => he.sub (sub_cons wk_is (sub_cons wk_nw (sub_cons wk_is (sub_cons wk_nw (sub_cons wk_nw (sub_cons wk_nw (sub_cons wk_nw (sub_cons wk_is (sub_cons wk_vnw (sub_cons wk_vnw (sub_cons wk_nw sub_nil)))))))))))))))))) (fun _ _ _ _ => trivial))))))))))))))))))))))))))))))) (fun _ => (rs_last (rs_ret (rk_pure (d := (eB true)) ep_C  (rk_ret (r := true) fun _ he => ⟨rfl, outs_of rfl rfl he⟩))))))))))))) (fun _ _ _ _ => trivial))))))))))))) (fun _ _ _ _ => trivial)))))))))))))
end
end K01
set_option Elab.async false
set_option linter.all false
set_option maxRecDepth 100000
set_option maxHeartbeats 4000000
namespace NP
open PySem L2 DL LW NT NW
abbrev nI (L : List Nat) : List Int := L.map fun (k : Nat) => (k : Int)
abbrev oI (L : List (Option Nat)) : List (Option Int) := L.map fun o => o.map fun (k : Nat) => (k : Int)
theorem idx_k {α : Type} {xs : List α} {i : Nat} {a : α} (h : xs[i]? = some a) : idx xs (i : Int) = .ok a := by
  unfold idx
  rw [atI_nat h]
  rfl
theorem idx_at {α : Type} {xs : List α} {i : Nat} (h : i < xs.length) : idx xs (i : Int) = .ok xs[i] := idx_k (List.getElem?_eq_getElem h)
theorem idx_nI {L : List Nat} {i : Nat} (h : i < L.length) : idx (nI L) (i : Int) = .ok (L[i] : Int) := idx_k (by simp [h])
theorem setN_k {α : Type} {xs : List α} {i : Nat} (h : i < xs.length) (a : α) : setN xs (i : Int) a = .ok (xs.set i a) := by
  unfold setN
  rw [ixN_of h]
theorem rngN_k {n : Nat} (h : n ≤ 1000000) : rngN (n : Int) = .ok (nI (List.range n)) := by
  unfold rngN
  rw [if_pos (i62_of (by omega) (by omega))]
  simp [rgI]
theorem rngL_k {n : Nat} (h : n ≤ 10000) : rngL (n : Int) = .ok (nI (List.range n)) := by
  unfold rngL
  rw [if_pos ⟨by omega, by omega⟩]
  simp [rgI]
theorem range_at {n i : Nat} {a : Int} (h : (nI (List.range n))[i]? = some a) : i < n ∧ a = (i : Int) := by
  by_cases c : i < n
  · simp [List.getElem?_map, List.getElem?_range c] at h
    exact ⟨c, h.symm⟩
  · rw [List.getElem?_eq_none (by simp; omega)] at h
    cases h
@[simp] theorem nI_len (L : List Nat) : (nI L).length = L.length := by simp
abbrev bg (s : Int × Int) : List Int := [s.1, s.2]
theorem idx0 {α : Type} (x : α) (r : List α) : idx (x :: r) 0 = .ok x := idx_k (i := 0) rfl
theorem idx1 {α : Type} (x y : α) (r : List α) : idx (x :: y :: r) 1 = .ok y := idx_k (i := 1) rfl
theorem idx2 {α : Type} (x y z : α) (r : List α) : idx (x :: y :: z :: r) 2 = .ok z := idx_k (i := 2) rfl
theorem set0 {α : Type} (x : α) (r : List α) (a : α) : setN (x :: r) 0 a = .ok (a :: r) := setN_k (i := 0) (by simp) a
theorem set1 {α : Type} (x y : α) (r : List α) (a : α) : setN (x :: y :: r) 1 a = .ok (x :: a :: r) := setN_k (i := 1) (by simp) a
theorem take_n (s : Int × Int) (m : Int) (hm : 0 < m) (hm2 : m < 2 ^ 64) : ∃ r s', 0 ≤ r ∧ r < m ∧ n__law_take (bg s) m = .ok (r, bg s') := by
  have h64 := divOk_of hm hm2
  obtain ⟨x, y⟩ := s
  by_cases hx : 0 < x
  · refine ⟨x % m, (x / m, y), Int.emod_nonneg _ (by omega), Int.emod_lt_of_pos _ hm, ?_⟩
    simp [n__law_take, idx0, hx, modN, hm, divN, h64, set0]
  · have c1 : mulOk y 48271 = true := mulOk_r (by decide) (by decide)
    have b1 : 0 ≤ y * 48271 % 2147483647 := Int.emod_nonneg _ (by decide)
    have b2 : y * 48271 % 2147483647 < 2147483647 := Int.emod_lt_of_pos _ (by decide)
    have c3 : mulOk (y * 48271 % 2147483647) (y * 48271 % 2147483647) = true := mulOk_l (by omega) (by omega)
    have c5 : divOk 64 = true := divOk_of (by decide) (by decide)
    refine ⟨(y * 48271 % 2147483647) * (y * 48271 % 2147483647) % 2147483629 / 64 % m, (x, y * 48271 % 2147483647), Int.emod_nonneg _ (by omega), Int.emod_lt_of_pos _ hm, ?_⟩
    generalize hz : y * 48271 % 2147483647 = z at c3
    simp [n__law_take, idx0, hx, idx1, modN, hm, divN, mulN, c1, hz, set1, c3, c5]
theorem pow60 : powN 10 60 = .ok ((10 : Int) ^ (60 : Int).toNat) := by
  unfold powN
  rw [if_pos powOk60]
theorem pow18 : powN 10 18 = .ok T18 := by
  unfold powN
  rw [if_pos powOk18]
  rfl
theorem mul60 : mulN ((10 : Int) ^ (60 : Int).toNat) ((10 : Int) ^ (60 : Int).toNat) = .ok T120 := by
  unfold mulN
  rw [if_pos mulOk60]
  rfl
theorem bag_n (ns : List Int) (k : Int) (hk : 0 ≤ k) : ∃ s, n__law_bag ns k = .ok (bg s) := by
  have m1 : ∀ c : Int, mulOk c 7919 = true := fun c => mulOk_r (by decide) (by decide)
  have m2 : mulOk 104729 k = true := mulOk_l (by decide) (by decide)
  obtain ⟨cell, hc⟩ : ∃ cell : Int, (if decide (k < (ns.length : Int)) = true then
      (idx ns k).ct fun a0 => (powN 10 60).ct fun n0 => (powN 10 60).ct fun n1 => (mulN n0 n1).ct fun n2 => (modN a0 n2).ct fun n3 => .nx n3 else .nx 0 : Ct Int Unit (List Int)) = .nx cell := by
    by_cases c : k < (ns.length : Int)
    · obtain ⟨n, rfl⟩ := Int.eq_ofNat_of_zero_le hk
      have hl : n < ns.length := by omega
      refine ⟨ns[n] % T120, ?_⟩
      rw [if_pos (by simpa using c), idx_at hl]
      simp only [ct_ok, pow60, mul60, modN, if_pos T120_pos]
    · exact ⟨0, by rw [if_neg (by simpa using c)]⟩
  unfold n__law_bag
  rw [hc]
  simp only [sq_nx, pow18, ct_ok]
  by_cases h : cell < T18
  · exact ⟨(0, 1 + (cell * 7919 + 104729 * k) % 2147483646), by simp [h, mulN, m1, m2, modN]⟩
  · exact ⟨(cell, 1 + (cell + k) % 2147483646), by simp [h, modN]⟩
end NP
set_option Elab.async false
set_option linter.all false
set_option maxRecDepth 100000
set_option maxHeartbeats 4000000
namespace NP
open PySem L2 DL LW NT NW
theorem cutL_take {α : Type} (xs : List α) (k : Nat) : cutL xs none (some (k : Int)) = xs.take k := by
  unfold cutL
  rw [HT.sIx_nat, HT.sIx_none]
  simp [List.take_eq_take_min]
theorem cutL_drop {α : Type} (xs : List α) (k : Nat) : cutL xs (some (k : Int)) none = xs.drop k := by
  unfold cutL
  rw [HT.sIx_nat, HT.sIx_none]
  by_cases c : k ≤ xs.length
  · rw [Nat.min_eq_left c]
    apply List.take_of_length_le
    simp
  · rw [Nat.min_eq_right (by omega)]
    simp [List.drop_of_length_le (by omega : xs.length ≤ k)]
theorem repN_k {α : Type} (a : α) {n : Nat} (h : n ≤ 100000) : repN a (n : Int) = .ok (List.replicate n a) := by
  unfold repN
  rw [if_pos ⟨i63_of (by omega) (by omega), by simpa using h⟩]
  simp
theorem popAt_n {α : Type} {xs : List α} {k : Nat} (h : k < xs.length) (hl : xs.length ≤ 1000000) : popAtN xs (k : Int) = .ok (xs[k], xs.eraseIdx k) := by
  unfold popAtN
  rw [if_pos (i63_of (by omega) (by omega)), seqIx_of h]
  simp only [List.getElem?_eq_getElem h]
theorem nI_erase (L : List Nat) (k : Nat) : (nI L).eraseIdx k = nI (L.eraseIdx k) := map_eraseIdx _ _ _
theorem nI_take (L : List Nat) (k : Nat) : (nI L).take k = nI (L.take k) := by simp [List.map_take]
theorem nI_drop (L : List Nat) (k : Nat) : (nI L).drop k = nI (L.drop k) := by simp [List.map_drop]
theorem nI_set (L : List Nat) (k v : Nat) : (nI L).set k (v : Int) = nI (L.set k v) := by simp [List.map_set]
theorem oI_set (L : List (Option Nat)) (k : Nat) (v : Option Nat) : (oI L).set k (v.map fun (k : Nat) => (k : Int)) = oI (L.set k v) := by simp [List.map_set]
theorem oI_sets (L : List (Option Nat)) (k v : Nat) : (oI L).set k (some (v : Int)) = oI (L.set k (some v)) := oI_set L k (some v)
theorem idx_prev {p : List Nat} {i : Nat} (h : i < p.length) : idx (nI p) ((i : Int) - 1) = .ok (prevOf p i : Int) := by
  unfold idx
  have h1 := atI_prev h
  have h2 : atI ((nI p).map eI) ((i : Int) - 1) = some (eI (prevOf p i : Int)) := by
    have : (nI p).map eI = nsD p := by simp [nsD, nD]
    rw [this, h1]
    rfl
  rw [atI_map] at h2
  cases q : atI (nI p) ((i : Int) - 1) with
  | none => rw [q] at h2; cases h2
  | some a =>
    rw [q] at h2
    have h3 : eI a = eI (prevOf p i : Int) := by simpa using h2
    injection h3 with h3
    rw [h3]
    rfl
theorem idx_g {p : List Nat} {i : Nat} (h : i < p.length) : idx (nI p) (i : Int) = .ok (p.getD i 0 : Int) := by
  rw [idx_nI h]
  simp [List.getD, List.getElem?_eq_getElem h]
/-- a turn of a patch: what comes behind is put -/
theorem patch_for {ρ l : Type} {p on : List Nat} {n : Nat} (hon : on.length = n) (hpn : p.Nodup) (hlt : ∀ x, x ∈ p → x < n) (body : Int → List Int → Ct (List Int) (List Int) ρ)
    (hb : ∀ (i : Nat) (o : List Nat), i < p.length → o.length = n → body (i : Int) (nI o) = .nx (nI (o.set (prevOf p i) (p.getD i 0)))) : ∃ on' : List Nat, (forC body (nI (List.range p.length)) (nI on) : Ct (List Int) l ρ) = .nx (nI on') ∧ on'.length = n ∧ (∀ x, x ∉ p → on'[x]? = on[x]?) ∧ (∀ j, j < p.length → on'[prevOf p j]? = some (p.getD j 0)) := by
  obtain ⟨st, e, on', rfl, h1, h3, h4⟩ := for_ok (l := l) (body := body) (fun i st => ∃ on' : List Nat, st = nI on' ∧ on'.length = n ∧ (∀ x, x ∉ p → on'[x]? = on[x]?) ∧ (∀ j, j < i → on'[prevOf p j]? = some (p.getD j 0))) (nI (List.range p.length)) (nI on) ⟨on, rfl, hon, fun _ _ => rfl, fun _ h => absurd h (Nat.not_lt_zero _)⟩ (by
    rintro i a _ hi ⟨o, rfl, h1, h3, h4⟩
    obtain ⟨hi2, rfl⟩ := range_at hi
    refine ⟨_, .inl (hb i o hi2 h1), _, rfl, by simp [h1], fun x hx => ?_, fun j hj => ?_⟩
    · rw [List.getElem?_set_ne (fun h => hx (by rw [← h]; exact prev_mem hi2))]
      exact h3 x hx
    · have e3 : prevOf p i < o.length := by rw [h1]; exact hlt _ (prev_mem hi2)
      by_cases c : j = i
      · subst c
        rw [List.getElem?_set_self e3]
      · rw [List.getElem?_set_ne (fun h => c (prev_inj hpn (by omega) hi2 h.symm))]
        exact h4 j (by omega))
  exact ⟨on', e, h1, h3, fun j hj => h4 j (by simpa using hj)⟩
theorem skin_n (s : Int × Int) (m : Nat) (hm : 1 ≤ m) (hm2 : m ≤ 1000) : ∃ r, n__law_skin (bg s) m = .ok r ∧ ∃ n on ms s', 1 ≤ n ∧ n ≤ m ∧ SkinP n on ms ∧ r = ((nI on, oI ms), bg s') := by
  unfold n__law_skin
  refine W_fn ?_
  obtain ⟨r, s1, r0, r1, t1⟩ := take_n s m (by omega) (by omega)
  obtain ⟨n, hn⟩ : ∃ n : Nat, 1 + r = (n : Int) := ⟨(1 + r).toNat, by omega⟩
  have hn1 : 1 ≤ n := by omega
  have hn2 : n ≤ m := by omega
  simp only [t1, ct_ok, P2, hn, rngN_k (show n ≤ 1000000 by omega)]
  refine W_cut (fun st => ∃ s L, st = (bg s, nI L) ∧ L.Perm (List.range n)) ?_ ?_
  · refine W_for (fun i st => ∃ s L, st = (bg s, nI L) ∧ L.Perm (List.range i)) ⟨s1, [], rfl, List.Perm.refl _⟩ ?_ (fun st h => by simpa using h)
    rintro i a _ hi ⟨s, L, rfl, hp⟩
    obtain ⟨hi1, rfl⟩ := range_at hi
    obtain ⟨r, s2, r0, r1, t2⟩ := take_n s (i + 1 : Int) (by omega) (by omega)
    obtain ⟨k, rfl⟩ := Int.eq_ofNat_of_zero_le r0
    have hl : L.length = i := by rw [hp.length_eq]; simp
    have hins : insN (nI L) (k : Int) (i : Int) = .ok (nI (L.take k ++ [i] ++ L.drop k)) := by
      unfold insN
      rw [if_pos ⟨by simp; omega, by omega, i63_of (by omega) (by omega)⟩]
      simp [List.map_take, List.map_drop]
    simp only [P2, t2, ct_ok, hins, W_nx]
    refine ⟨s2, _, rfl, ?_⟩
    rw [List.range_succ]
    refine List.Perm.trans ?_ (List.Perm.append_right [i] hp)
    have h3 := List.perm_append_comm (l₁ := L.take k ++ [i]) (l₂ := L.drop k)
    refine h3.trans ?_
    rw [← List.append_assoc]
    refine List.Perm.append_right [i] ?_
    have h4 := List.perm_append_comm (l₁ := L.drop k) (l₂ := L.take k)
    rw [List.take_append_drop] at h4
    exact h4
  rintro _ ⟨s, L, rfl, hp⟩
  have hL : L.length = n := by rw [hp.length_eq]; simp
  have hLn : L.Nodup := hp.nodup_iff.2 List.nodup_range
  obtain ⟨q1, s1, a0, a1, t1⟩ := take_n s 6 (by decide) (by decide)
  obtain ⟨q2, s2, b0, b1, t2⟩ := take_n s1 3 (by decide) (by decide)
  obtain ⟨w, hw, w0, w1⟩ : ∃ w : Nat, idx [1 + q1, 3, (n : Int)] q2 = .ok (w : Int) ∧ 1 ≤ w ∧ w ≤ 1000 := by
    have : q2 = 0 ∨ q2 = 1 ∨ q2 = 2 := by omega
    rcases this with rfl | rfl | rfl
    · exact ⟨(1 + q1).toNat, by rw [idx0]; congr 1; omega, by omega, by omega⟩
    · exact ⟨3, by rw [idx1]; rfl, by omega, by omega⟩
    · exact ⟨n, by rw [idx2], by omega, by omega⟩
  simp only [P2, t1, t2, ct_ok, hw, repN_k (0 : Int) (show n ≤ 100000 by omega)]
  refine W_cut (fun st => ∃ s on lf, st = (bg s, nI on, lf) ∧ on.Perm (List.range n)) ?_ ?_
  · refine W_while (fun k st => ∃ s dn lf on, st = (bg s, nI on, nI lf) ∧ L = dn ++ lf ∧ on.length = n ∧ (dn.map fun x => on.getD x 0).Perm dn ∧ k = lf.length) FUEL n _ (by have := fuel_le; omega) ⟨s2, [], L, List.replicate n 0, by simp, rfl, by simp, List.Perm.refl _, hL.symm⟩ ?_
    rintro k _ ⟨s, dn, lf, on, rfl, hd, hon, hpm, rfl⟩
    simp only [P3, fn_rt]
    cases lf with
    | nil =>
      left
      refine ⟨by simp, s, on, [], rfl, ?_⟩
      rw [List.append_nil] at hd
      subst hd
      have h1 := map_range_getD on
      rw [hon] at h1
      rw [← h1]
      exact ((hp.symm.map _).trans hpm).trans hp
    | cons x0 lf0 =>
      right
      refine ⟨by simp, ?_⟩
      generalize hlf : x0 :: lf0 = lf at *
      have hlf1 : 0 < lf.length := by rw [← hlf]; simp
      have hdl : dn.length + lf.length = n := by rw [← hL, hd, List.length_append]
      obtain ⟨q3, s3, d0, d1, t3⟩ := take_n s w (by omega) (by omega)
      obtain ⟨q4, s4, f0, f1, t4⟩ := take_n s3 2 (by decide) (by decide)
      obtain ⟨y, hy, y0⟩ : ∃ y : Nat, idx [(w : Int), 1 + q3] q4 = .ok (y : Int) ∧ 1 ≤ y := by
        have : q4 = 0 ∨ q4 = 1 := by omega
        rcases this with rfl | rfl
        · exact ⟨w, by rw [idx0], by omega⟩
        · exact ⟨(1 + q3).toNat, by rw [idx1]; congr 1; omega, by omega⟩
      obtain ⟨z, hz, z0, z1⟩ : ∃ z : Nat, imin (lf.length : Int) (y : Int) = (z : Int) ∧ 1 ≤ z ∧ z ≤ lf.length := by
        unfold imin
        by_cases c : (y : Int) < (lf.length : Int)
        · exact ⟨y, by rw [if_pos c], y0, by omega⟩
        · exact ⟨lf.length, by rw [if_neg c], by omega, by omega⟩
      have hpl : (lf.take z).length = z := by rw [List.length_take]; omega
      have hpn : (lf.take z).Nodup := by
        rw [hd] at hLn
        exact ((List.nodup_append.1 hLn).2.1).sublist (List.take_sublist _ _)
      have hlt : ∀ x, x ∈ lf.take z → x < n := fun x hx => by
        have : x ∈ L := by rw [hd]; exact List.mem_append_right _ (List.mem_of_mem_take hx)
        exact List.mem_range.1 (hp.mem_iff.1 this)
      have hz' : imin ((nI lf).length : Int) (y : Int) = (z : Int) := by rw [nI_len]; exact hz
      have e1 : cutL (nI lf) none (some (z : Int)) = nI (lf.take z) := by rw [cutL_take, nI_take]
      have e2 : cutL (nI lf) (some (z : Int)) none = nI (lf.drop z) := by rw [cutL_drop, nI_drop]
      simp only [P2, P3, t3, t4, ct_ok, hy, hz', rngN_k (show z ≤ 1000000 by omega), e1, e2]
      obtain ⟨on', e, h1, h3, h4⟩ := patch_for (l := (List Int × List Int × List Int)) (ρ := ((List Int × List (Option Int)) × List Int)) hon hpn hlt (fun k0 onward1 => (idx (nI (lf.take z)) k0).ct fun a2 => (idx (nI (lf.take z)) (k0 - 1)).ct fun a3 => (setN onward1 a3 a2).ct fun onward2 => .nx onward2) (fun i o hi ho => by
        rw [idx_g hi, ct_ok, idx_prev hi, ct_ok, setN_k (by simp [ho]; exact hlt _ (prev_mem hi)), ct_ok, nI_set])
      rw [hpl] at e
      refine W_sq ?_
      rw [e]
      simp only [W_nx]
      have hrd := round_perm hpn (on := on') h4
      refine ⟨(lf.drop z).length, by rw [List.length_drop]; omega, s4, dn ++ lf.take z, lf.drop z, on', rfl, ?_, h1, ?_, rfl⟩
      · rw [List.append_assoc, List.take_append_drop]
        exact hd
      · rw [List.map_append]
        refine List.Perm.append ?_ hrd
        have : (dn.map fun x => on'.getD x 0) = dn.map fun x => on.getD x 0 := by
          apply List.map_congr_left
          intro x hx
          simp only [List.getD]
          rw [h3 x (fun hx2 => ?_)]
          rw [hd] at hLn
          exact (List.nodup_append.1 hLn).2.2 x hx x (List.mem_of_mem_take hx2) rfl
        rw [this]
        exact hpm
  rintro _ ⟨s, on, lf, rfl, hon⟩
  obtain ⟨q5, s5, a0, a1, t5⟩ := take_n s 3 (by decide) (by decide)
  obtain ⟨q, hq, q0, q1⟩ : ∃ q : Nat, idx [(2 : Int), 5, 99] q5 = .ok (q : Int) ∧ 1 ≤ q ∧ q ≤ 99 := by
    have : q5 = 0 ∨ q5 = 1 ∨ q5 = 2 := by omega
    rcases this with rfl | rfl | rfl
    · exact ⟨2, by rw [idx0]; rfl, by omega, by omega⟩
    · exact ⟨5, by rw [idx1]; rfl, by omega, by omega⟩
    · exact ⟨99, by rw [idx2]; rfl, by omega, by omega⟩
  simp only [P2, P3, t5, ct_ok, hq, repN_k (none : Option Int) (show n ≤ 100000 by omega), rngL_k (show n ≤ 10000 by omega)]
  refine W_cut (fun st => ∃ s ms wt, st = (bg s, oI ms, wt) ∧ ms.length = n ∧ ∀ i j : Nat, ms[i]? = some (some j) → j < n ∧ j ≠ i ∧ ms[j]? = some (some i)) ?_ ?_
  · refine W_while (fun k st => ∃ s ms wt, st = (bg s, oI ms, nI wt) ∧ SkM n ms wt ∧ k = wt.length) FUEL n _ (by have := fuel_le; omega) ⟨s5, List.replicate n none, List.range n, by simp, ⟨by simp, List.nodup_range, by simp, fun x hx => ⟨List.mem_range.1 hx, ?_⟩, fun i j h => ?_⟩, by simp⟩ ?_
    · rw [List.getElem?_replicate, if_pos (List.mem_range.1 hx)]
    · rw [List.getElem?_replicate] at h
      split at h <;> cases h
    rintro k _ ⟨s, ms, wt, rfl, hM, rfl⟩
    simp only [P3, fn_rt]
    by_cases c : 1 < wt.length
    case neg =>
      left
      exact ⟨by simp; omega, s, ms, nI wt, rfl, hM.len, hM.mate⟩
    right
    refine ⟨by simp; omega, ?_⟩
    have hwl : wt.length ≤ n := hM.lew
    obtain ⟨q6, s6, b0, b1, t6⟩ := take_n s wt.length (by omega) (by omega)
    obtain ⟨x, rfl⟩ := Int.eq_ofNat_of_zero_le b0
    have hx : x < wt.length := by omega
    have hl2 : (wt.eraseIdx x).length = wt.length - 1 := by rw [List.length_eraseIdx]; simp [hx]
    obtain ⟨q7, s7, c0, c1, t7⟩ := take_n s6 ((wt.eraseIdx x).length) (by omega) (by omega)
    obtain ⟨y, rfl⟩ := Int.eq_ofNat_of_zero_le c0
    have hy : y < (wt.eraseIdx x).length := by omega
    obtain ⟨q8, s8, d0, d1, t8⟩ := take_n s7 q (by omega) (by omega)
    have p1 : popAtN (nI wt) (x : Int) = .ok ((wt[x] : Int), nI (wt.eraseIdx x)) := by
      rw [popAt_n (by simpa using hx) (by simp; omega), nI_erase]
      simp
    have p2 : popAtN (nI (wt.eraseIdx x)) (y : Int) = .ok (((wt.eraseIdx x)[y] : Nat), nI ((wt.eraseIdx x).eraseIdx y)) := by
      rw [popAt_n (by simpa using hy) (by simp; omega), nI_erase]
      simp
    have oa := erase_out hM.nod hx
    have ob := erase_out (hM.drop x).nod hy
    have ma := hM.lone _ (List.getElem_mem hx)
    have mb := (hM.drop x).lone _ (List.getElem_mem hy)
    have oab : wt[x] ≠ (wt.eraseIdx x)[y] := fun h => oa (by rw [h]; exact List.getElem_mem hy)
    have oa2 : wt[x] ∉ (wt.eraseIdx x).eraseIdx y := fun h => oa ((List.eraseIdx_sublist _ _).subset h)
    have hM2 := (hM.drop x).drop y
    have hl3 : ((wt.eraseIdx x).eraseIdx y).length < wt.length := by rw [List.length_eraseIdx, if_pos hy]; omega
    generalize wt[x] = a at *
    generalize (wt.eraseIdx x)[y] = b at *
    have t6' : n__law_take (bg s) ((nI wt).length : Int) = .ok ((x : Int), bg s6) := by rw [nI_len]; exact t6
    have t7' : n__law_take (bg s6) ((nI (wt.eraseIdx x)).length : Int) = .ok ((y : Int), bg s7) := by rw [nI_len]; exact t7
    simp only [P2, P3, t6', p1, t7', p2, t8, ct_ok]
    refine W_if (fun c => ?_) (fun c => ?_)
    · have e1 : setN (oI ms) (a : Int) (some (b : Int)) = .ok (oI (ms.set a (some b))) := by
        rw [setN_k (by simp [hM.len]; exact ma.1), oI_sets]
      have e2 : setN (oI (ms.set a (some b))) (b : Int) (some (a : Int)) = .ok (oI ((ms.set a (some b)).set b (some a))) := by
        rw [setN_k (by simp [hM.len]; exact mb.1), oI_sets]
      simp only [e1, e2, ct_ok, W_nx]
      exact ⟨_, hl3, s8, _, _, rfl, hM2.put oa2 ob oab ma.1 mb.1 ma.2 mb.2, rfl⟩
    · simp only [W_nx]
      exact ⟨_, hl3, s8, ms, _, rfl, hM2, rfl⟩
  rintro _ ⟨s, ms, wt, rfl, hl, hmt⟩
  simp only [P3, W_rt]
  exact ⟨n, on, ms, s, hn1, hn2, ⟨hon, hl, hmt⟩, rfl⟩
end NP
set_option Elab.async false
set_option linter.all false
set_option maxRecDepth 100000
set_option maxHeartbeats 4000000
namespace NP
open PySem L2 DL LW NT NW
def badM (ms : List (Option Int)) (n i : Nat) (m : Option Int) : Bool := optC m false fun m => decide (m < 0) || (decide ((n : Int) ≤ m) || (decide (m = (i : Int)) || !decide (ms[m.toNat]? = some (some (i : Int)))))
def bad (os : List Int) (ms : List (Option Int)) (i : Nat) : Bool := optC os[i]? false fun b => optC ms[i]? false fun m => (decide (b < 0) || (decide ((os.length : Int) ≤ b) || decide (b ∈ os.take i))) || badM ms os.length i m
def brkO (os : List Int) (ms : List (Option Int)) : Option Int := ((List.range os.length).find? (bad os ms)).map fun (k : Nat) => (k : Int)
/-- a search -/
theorem search {σ l : Type} {body : Int → σ → Ct σ σ (Option Int)} (I : Nat → σ → Prop) (p : Nat → Bool) (n : Nat) (s : σ) (h0 : I 0 s) (h : ∀ i s, i < n → I i s → (p i = true ∧ body (i : Int) s = .rt (some (i : Int))) ∨ (p i = false ∧ ∃ s', body (i : Int) s = .nx s' ∧ I (i + 1) s')) : (((forC body (nI (List.range n)) s).sq fun _ => .rt none) : Ct Unit l (Option Int)).fn = .ok (((List.range n).find? p).map fun (k : Nat) => (k : Int)) := by
  rcases for_ret (l := l) (body := body) (fun i s => I i s ∧ ∀ j, j < i → p j = false) (fun r => ∃ i, i < n ∧ p i = true ∧ (∀ j, j < i → p j = false) ∧ r = some (i : Int)) (nI (List.range n)) s ⟨h0, fun _ z => absurd z (Nat.not_lt_zero _)⟩ (by
    rintro i a s hi ⟨hI, hb⟩
    obtain ⟨hi1, rfl⟩ := range_at hi
    rcases h i s hi1 hI with ⟨h1, h2⟩ | ⟨h1, s', h2, h3⟩
    · exact .inr ⟨_, h2, i, hi1, h1, hb, rfl⟩
    · refine .inl ⟨s', .inl h2, h3, fun j hj => ?_⟩
      by_cases c : j = i
      · rw [c]; exact h1
      · exact hb j (by omega)) with ⟨s', e, hI, hb⟩ | ⟨r, e, i, hi, h1, h2, rfl⟩
  · rw [e]
    have : (List.range n).find? p = none := by
      rw [List.find?_eq_none]
      intro x hx
      simp [hb x (by simpa using hx)]
    rw [this]
    rfl
  · rw [e]
    have : (List.range n).find? p = some i := by
      rw [List.find?_eq_some_iff_getElem]
      exact ⟨h1, i, by simpa using hi, by simp, fun j hj => by simp [h2 j hj]⟩
    rw [this]
    rfl
theorem dhas_put {κ β : Type} [DecidableEq κ] (kvs : List (κ × β)) (k : κ) (v : β) (c : κ) : dhas (dput kvs k v) c = (decide (k = c) || dhas kvs c) := by
  unfold dput
  by_cases h : dhas kvs k = true
  · rw [if_pos h]
    have e : dhas (kvs.map fun p => if p.1 = k then (p.1, v) else p) c = dhas kvs c := by
      unfold dhas
      rw [List.any_map]
      congr 1
      funext p
      simp only [Function.comp]
      split <;> rfl
    rw [e]
    by_cases q : k = c
    · rw [← q, h]; simp
    · simp [q]
  · rw [if_neg h]
    unfold dhas
    rw [List.any_append]
    simp [Bool.or_comm]
theorem len_put {κ β : Type} [DecidableEq κ] (kvs : List (κ × β)) (k : κ) (v : β) : (dput kvs k v).length ≤ kvs.length + 1 := by
  unfold dput
  split <;> simp
theorem putN_ok {κ β : Type} [DecidableEq κ] {kvs : List (κ × β)} (h : kvs.length < 100000) (k : κ) (v : β) : putN kvs k v = .ok (dput kvs k v) := by
  unfold putN
  rw [if_pos h]
theorem mate_test {ms : List (Option Int)} {i : Nat} {n : Nat} (hl : ms.length = n) (m : Int) : (if decide (m < 0) = true then .rt true else if decide ((n : Int) ≤ m) = true then .rt true else if decide (m = (i : Int)) = true then .rt true else (idx ms m).ct fun a => .rt (!decide (a = some (i : Int))) : Ct Unit Unit Bool) = .rt (badM ms n i (some m)) := by
  simp only [badM, optC_some]
  by_cases c1 : m < 0
  · simp [c1]
  by_cases c2 : (n : Int) ≤ m
  · simp [c2]
  by_cases c3 : m = (i : Int)
  · simp [c3]
  obtain ⟨k, rfl⟩ := Int.eq_ofNat_of_zero_le (show 0 ≤ m by omega)
  have hk : k < ms.length := by omega
  have e : ms[k]? = some ms[k] := List.getElem?_eq_getElem hk
  simp [c1, c2, c3, idx_at hk, e]
theorem mate_test2 {ms : List (Option Int)} {i : Nat} {n : Nat} (hl : ms.length = n) (m : Int) : (if (!(decide (0 ≤ m) && decide (m < (n : Int)))) = true then .rt true else if decide (m = (i : Int)) = true then .rt true else (idx ms m).ct fun a => .rt (!decide (a = some (i : Int))) : Ct Unit Unit Bool) = .rt (badM ms n i (some m)) := by
  rw [← mate_test hl]
  by_cases c1 : m < 0
  · simp [c1]
  by_cases c2 : (n : Int) ≤ m
  · simp [c2]
  have a : 0 ≤ m := by omega
  have b : m < (n : Int) := by omega
  simp [c1, c2, a, b]
theorem bad_at {os : List Int} {ms : List (Option Int)} {i : Nat} (h1 : i < os.length) (h2 : i < ms.length) : bad os ms i = ((decide (os[i] < 0) || (decide ((os.length : Int) ≤ os[i]) || decide (os[i] ∈ os.take i))) || badM ms os.length i ms[i]) := by
  simp [bad, h1, h2]
theorem broken_n (os : List Int) (ms : List (Option Int)) (hl : ms.length = os.length) (hn : os.length ≤ 1000) : n_broken os ms = .ok (brkO os ms) := by
  unfold n_broken brkO
  rw [rngN_k (by omega), ct_ok]
  refine search (fun i (met : List (Int × Bool)) => (∀ b, dhas met b = decide (b ∈ os.take i)) ∧ met.length ≤ i) (bad os ms) os.length _ ⟨fun b => by simp [dhas], Nat.le_refl _⟩ ?_
  rintro i met hi ⟨hm, hlen⟩
  have hi2 : i < ms.length := by omega
  rw [bad_at hi hi2, idx_at hi, ct_ok, hm]
  generalize hb : (decide (os[i] < 0) || (decide ((os.length : Int) ≤ os[i]) || decide (os[i] ∈ os.take i))) = x
  cases x with
  | true => exact .inl ⟨by simp, by simp⟩
  | false =>
    have e1 := putN_ok (show met.length < 100000 by omega) os[i] true
    have hm2 : (∀ b, dhas (dput met os[i] true) b = decide (b ∈ os.take (i + 1))) ∧ (dput met os[i] true).length ≤ i + 1 := by
      refine ⟨fun b => ?_, Nat.le_trans (len_put _ _ _) (by omega)⟩
      rw [dhas_put, hm, List.take_succ, List.getElem?_eq_getElem hi]
      by_cases q : os[i] = b
      · simp [q]
      · have : ¬ b = os[i] := fun z => q z.symm
        have h2 : (b ∈ os.take i ++ (some os[i]).toList) ↔ b ∈ os.take i := by simp only [Option.toList, List.mem_append, List.mem_singleton, this, or_false]
        simp only [h2, q, decide_false, Bool.false_or]
    simp only [if_false, Bool.false_or, e1, ct_ok, idx_at hi2, Bool.false_eq_true]
    cases hmi : ms[i] with
    | none => exact .inr ⟨rfl, _, by simp, hm2⟩
    | some m =>
      simp only [optC_some, mate_test hl, fn_rt, ct_ok]
      cases badM ms os.length i (some m) with
      | true => exact .inl ⟨rfl, by simp⟩
      | false => exact .inr ⟨rfl, _, by simp, hm2⟩
theorem lawbroken_n (os : List Int) (ms : List (Option Int)) (hl : ms.length = os.length) (hn : os.length ≤ 1000) : n__law_broken_L os ms = .ok (brkO os ms) := by
  unfold n__law_broken_L brkO
  rw [rngN_k (by omega), ct_ok]
  refine search (fun i _ => True) (bad os ms) os.length _ trivial ?_
  rintro i _ hi _
  have hi2 : i < ms.length := by omega
  have hc : cutL os none (some (i : Int)) = os.take i := cutL_take _ _
  have e0 : ((if (!(decide (0 ≤ os[i]) && decide (os[i] < (os.length : Int)))) = true then .rt true else .rt (decide (os[i] ∈ os.take i)) : Ct Unit Unit Bool)) = .rt (decide (os[i] < 0) || (decide ((os.length : Int) ≤ os[i]) || decide (os[i] ∈ os.take i))) := by
    by_cases c1 : os[i] < 0
    · have : ¬ 0 ≤ os[i] := by omega
      simp [c1, this]
    by_cases c2 : (os.length : Int) ≤ os[i]
    · have : ¬ os[i] < (os.length : Int) := by omega
      simp [c2, this]
    have a : 0 ≤ os[i] := by omega
    have b : os[i] < (os.length : Int) := by omega
    simp [c1, c2, a, b]
  rw [bad_at hi hi2]
  simp only [idx_at hi, ct_ok, hc, memB_eq, e0, fn_rt]
  generalize (decide (os[i] < 0) || (decide ((os.length : Int) ≤ os[i]) || decide (os[i] ∈ os.take i))) = x
  cases x with
  | true => exact .inl ⟨by simp, by simp⟩
  | false =>
    simp only [if_false, Bool.false_or, idx_at hi2, ct_ok, Bool.false_eq_true]
    cases hmi : ms[i] with
    | none => exact .inr ⟨rfl, (), by simp, trivial⟩
    | some m =>
      simp only [optC_some, mate_test2 hl, fn_rt, ct_ok]
      cases badM ms os.length i (some m) with
      | true => exact .inl ⟨rfl, by simp⟩
      | false => exact .inr ⟨rfl, (), by simp, trivial⟩
theorem lawbroken_t (os : List Int) (ms : List (Option Int)) (hl : ms.length = os.length) (hn : os.length ≤ 1000) : n__law_broken_T os ms = .ok (brkO os ms) := lawbroken_n os ms hl hn
end NP
set_option Elab.async false
set_option linter.all false
set_option maxRecDepth 100000
set_option maxHeartbeats 4000000
namespace NP
/-- one behind the other -/
def Lk (f : Nat → Option Nat) (l : List Nat) : Prop := ∀ i a b, l[i]? = some a → l[i + 1]? = some b → f a = some b
structure Fw (f : Nat → Option Nat) (x : Nat) (l : List Nat) : Prop where
  hd : l[0]? = some x
  lk : Lk f l
  ne : ∀ i : Nat, l[i + 1]? ≠ some x
/-- a walk from x that is at its end -/
structure FwC (f : Nat → Option Nat) (x : Nat) (l : List Nat) : Prop extends Fw f x l where
  fin : ∀ z, l.getLast? = some z → f z = none ∨ f z = some x
def Inj (f : Nat → Option Nat) : Prop := ∀ a b c, f a = some c → f b = some c → a = b
theorem Fw.one (f : Nat → Option Nat) (x : Nat) : Fw f x [x] := ⟨rfl, fun i a b _ h => by simp at h, fun i h => by simp at h⟩
theorem Fw.ne_nil {f : Nat → Option Nat} {x : Nat} {l : List Nat} (h : Fw f x l) : l ≠ [] := fun e => by have := h.hd; rw [e] at this; cases this
theorem Lk.snoc {f : Nat → Option Nat} {l : List Nat} (h : Lk f l) {z y : Nat} (hz : l.getLast? = some z) (hy : f z = some y) : Lk f (l ++ [y]) := fun i a b ha hb => by
  have hl : l ≠ [] := fun e => by rw [e] at hz; cases hz
  have lb := (List.getElem?_eq_some_iff.mp hb).1
  rw [List.length_append] at lb
  simp at lb
  by_cases c : i + 1 < l.length
  · rw [List.getElem?_append_left (by omega)] at ha
    rw [List.getElem?_append_left c] at hb
    exact h i a b ha hb
  · have e : i + 1 = l.length := by omega
    rw [List.getElem?_append_left (by omega)] at ha
    rw [List.getElem?_append_right (by omega), e] at hb
    simp at hb
    rw [List.getLast?_eq_getElem?] at hz
    rw [show l.length - 1 = i by omega, ha] at hz
    cases hz
    rw [← hb]
    exact hy
theorem Fw.snoc {f : Nat → Option Nat} {x : Nat} {l : List Nat} (h : Fw f x l) {z y : Nat} (hz : l.getLast? = some z) (hy : f z = some y) (hx : y ≠ x) : Fw f x (l ++ [y]) := by
  have hl : 0 < l.length := List.length_pos_iff.2 h.ne_nil
  refine ⟨by rw [List.getElem?_append_left hl]; exact h.hd, h.lk.snoc hz hy, fun i hi => ?_⟩
  by_cases c : i + 1 < l.length
  · rw [List.getElem?_append_left c] at hi
    exact h.ne i hi
  · rw [List.getElem?_append_right (by omega)] at hi
    have : i + 1 - l.length = 0 := by
      have := (List.getElem?_eq_some_iff.mp hi).1
      simp at this
      omega
    rw [this] at hi
    simp at hi
    exact hx hi
theorem Fw.nodup {f : Nat → Option Nat} (inj : Inj f) {x : Nat} {l : List Nat} (h : Fw f x l) : l.Nodup := by
  have key : ∀ (i d : Nat) (a : Nat), l[i]? = some a → l[i + (d + 1)]? = some a → False := by
    intro i
    induction i with
    | zero =>
      intro d a h1 h2
      rw [h.hd] at h1
      cases h1
      rw [Nat.zero_add] at h2
      exact h.ne d h2
    | succ i ih =>
      intro d a h1 h2
      have l1 := (List.getElem?_eq_some_iff.mp h1).1
      have l2 := (List.getElem?_eq_some_iff.mp h2).1
      have e1 : l[i]? = some l[i] := List.getElem?_eq_getElem (by omega)
      have e2 : l[i + (d + 1)]? = some l[i + (d + 1)] := List.getElem?_eq_getElem (by omega)
      have f1 := h.lk i _ _ e1 h1
      have f2 := h.lk (i + (d + 1)) _ a e2 (by rw [show i + (d + 1) + 1 = i + 1 + (d + 1) by omega]; exact h2)
      have := inj _ _ _ f1 f2
      exact ih d l[i] e1 (by rw [e2, this])
  rw [List.nodup_iff_pairwise_ne, List.pairwise_iff_getElem]
  intro i j hi hj hij e
  refine key i (j - i - 1) l[i] (List.getElem?_eq_getElem hi) ?_
  rw [show i + (j - i - 1 + 1) = j by omega, List.getElem?_eq_getElem hj, e]
theorem nodup_len : ∀ (n : Nat) (l : List Nat), l.Nodup → (∀ a, a ∈ l → a < n) → l.length ≤ n
  | 0, l, _, h => by
    cases l with
    | nil => exact Nat.le_refl _
    | cons a l => exact absurd (h a (List.mem_cons_self ..)) (Nat.not_lt_zero _)
  | n + 1, l, hn, h => by
    have h1 := nodup_len n (l.erase n) (hn.sublist List.erase_sublist) (fun a ha => by
      have := (hn.mem_erase_iff.1 ha)
      have h2 := h a this.2
      have := this.1
      omega)
    have : l.length ≤ (l.erase n).length + 1 := by
      rw [List.length_erase]
      split <;> omega
    omega
/-- all lie within, if the first does -/
theorem Fw.lt {f : Nat → Option Nat} {x n : Nat} (hf : ∀ a b, f a = some b → b < n) (hx : x < n) {l : List Nat} (h : Fw f x l) : ∀ a, a ∈ l → a < n := fun a ha => by
  obtain ⟨i, hi, e⟩ := List.mem_iff_getElem.1 ha
  cases i with
  | zero =>
    have := h.hd
    rw [List.getElem?_eq_getElem hi] at this
    cases this
    rw [← e]
    exact hx
  | succ i =>
    have := h.lk i _ _ (List.getElem?_eq_getElem (by omega)) (List.getElem?_eq_getElem hi)
    rw [← e]
    exact hf _ _ this
theorem Fw.len {f : Nat → Option Nat} {x n : Nat} (inj : Inj f) (hf : ∀ a b, f a = some b → b < n) (hx : x < n) {l : List Nat} (h : Fw f x l) : l.length ≤ n := nodup_len n l (h.nodup inj) (h.lt hf hx)
section
variable {n : Nat} {on : List Nat} {ms : List (Option Nat)}
def nx (on : List Nat) (h : Nat) : Nat := on.getD h 0
def ah (on : List Nat) (h : Nat) : Nat := on.idxOf h
def mt (ms : List (Option Nat)) (h : Nat) : Option Nat := (ms[h]?).join
def lf (on : List Nat) (ms : List (Option Nat)) (h : Nat) : Option Nat := mt ms (ah on h)
def rt (on : List Nat) (ms : List (Option Nat)) (h : Nat) : Option Nat := (mt ms h).map (nx on)
open LW
theorem SkinP.lenO (S : SkinP n on ms) : on.length = n := by rw [S.perm.length_eq]; simp
theorem nx_at (S : SkinP n on ms) {h : Nat} (hh : h < n) : on[h]? = some (nx on h) := by
  have : h < on.length := by rw [SkinP.lenO S]; exact hh
  simp [nx, List.getD, List.getElem?_eq_getElem this]
theorem nx_lt (S : SkinP n on ms) {h : Nat} (hh : h < n) : nx on h < n := by
  have := List.mem_of_getElem? (nx_at S hh)
  exact List.mem_range.1 (S.perm.mem_iff.1 this)
theorem on_nodup (S : SkinP n on ms) : on.Nodup := S.perm.nodup_iff.2 List.nodup_range
theorem ah_lt (S : SkinP n on ms) {h : Nat} (hh : h < n) : ah on h < n := by
  have : h ∈ on := S.perm.mem_iff.2 (List.mem_range.2 hh)
  have := List.idxOf_lt_length_iff.2 this
  rw [SkinP.lenO S] at this
  exact this
theorem nx_ah (S : SkinP n on ms) {h : Nat} (hh : h < n) : nx on (ah on h) = h := by
  have h1 : on.idxOf h < on.length := by rw [SkinP.lenO S]; exact ah_lt S hh
  have := List.getElem_idxOf h1
  simp only [nx, ah, List.getD, List.getElem?_eq_getElem h1, Option.getD_some]
  exact this
theorem nx_inj (S : SkinP n on ms) {a b : Nat} (ha : a < n) (hb : b < n) (e : nx on a = nx on b) : a = b := by
  exact getD_inj (on_nodup S) (by rw [SkinP.lenO S]; exact ha) (by rw [SkinP.lenO S]; exact hb) e
theorem mt_some (S : SkinP n on ms) {a b : Nat} (h : mt ms a = some b) : a < n ∧ b < n ∧ b ≠ a ∧ mt ms b = some a := by
  unfold mt at h
  cases q : ms[a]? with
  | none => rw [q] at h; cases h
  | some o =>
    rw [q] at h
    have h' : o = some b := h
    subst h'
    obtain ⟨h1, h2, h3⟩ := S.mate a b q
    have := (List.getElem?_eq_some_iff.mp q).1
    exact ⟨by rw [← S.len]; exact this, h1, h2, by unfold mt; rw [h3]; rfl⟩
theorem lf_rt (S : SkinP n on ms) {a b : Nat} (ha : a < n) (h : lf on ms a = some b) : b < n ∧ rt on ms b = some a := by
  obtain ⟨h1, h2, h3, h4⟩ := mt_some S h
  refine ⟨h2, ?_⟩
  unfold rt
  rw [h4]
  exact congrArg some (nx_ah S ha)
theorem lf_lt (S : SkinP n on ms) {a b : Nat} (h : lf on ms a = some b) : a < n := by
  obtain ⟨h1, _⟩ := mt_some S h
  have h2 : on.idxOf a < on.length := by rw [SkinP.lenO S]; exact h1
  have := List.idxOf_lt_length_iff.1 h2
  exact List.mem_range.1 (S.perm.mem_iff.1 this)
end
theorem Lk.drop {f : Nat → Option Nat} {l : List Nat} (h : Lk f l) (k : Nat) : Lk f (l.drop k) := fun i a b ha hb => by
  rw [List.getElem?_drop] at ha hb
  exact h (k + i) a b ha (by rw [show k + i + 1 = k + (i + 1) by omega]; exact hb)
end NP
set_option Elab.async false
set_option linter.all false
set_option maxRecDepth 100000
set_option maxHeartbeats 4000000
namespace NP
open PySem L2 DL LW NT NW
abbrev sk (on : List Nat) (ms : List (Option Nat)) : List Int × List (Option Int) := (nI on, oI ms)
abbrev oc (o : Option Nat) : Option Int := o.map fun (k : Nat) => (k : Int)
theorem appN_n {L : List Nat} {y : Nat} (h : L.length < 100000) : appN (nI L) (y : Int) = .ok (nI (L ++ [y])) := by
  unfold appN
  rw [if_pos (by simpa using h)]
  simp
section
variable {n : Nat} {on : List Nat} {ms : List (Option Nat)} (S : SkinP n on ms)
include S
theorem look_n {h : Nat} (hh : h < n) : n_look_at_half (sk on ms) (h : Int) = .ok () := by
  unfold n_look_at_half
  have a : ¬ ((h : Int) < 0) := by omega
  have b : ¬ (((nI on).length : Int) ≤ (h : Int)) := by rw [nI_len, SkinP.lenO S]; omega
  simp only [a, b, decide_false, Bool.or_self, Bool.false_eq_true, if_false, fp_nx]
theorem at_on {h : Nat} (hh : h < n) : idx (nI on) (h : Int) = .ok (nx on h : Int) := idx_k (by simp [nx_at S hh])
end
def tot (D : Nat → Bool) (g : Nat → Nat) : Nat → Option Nat := fun a => if D a = true then some (g a) else none
structure TotOk (n : Nat) (D : Nat → Bool) (g : Nat → Nat) : Prop where
  lt : ∀ a, D a = true → a < n
  st : ∀ a, D a = true → D (g a) = true
  inj : ∀ a b, D a = true → D b = true → g a = g b → a = b
theorem TotOk.inj' {n : Nat} {D : Nat → Bool} {g : Nat → Nat} (T : TotOk n D g) : Inj (tot D g) := fun a b c h1 h2 => by
  unfold tot at h1 h2
  by_cases p : D a = true
  · by_cases q : D b = true
    · rw [if_pos p] at h1
      rw [if_pos q] at h2
      injection h1 with h1
      injection h2 with h2
      exact T.inj a b p q (h1.trans h2.symm)
    · rw [if_neg q] at h2; cases h2
  · rw [if_neg p] at h1; cases h1
theorem TotOk.ub {n : Nat} {D : Nat → Bool} {g : Nat → Nat} (T : TotOk n D g) (a b : Nat) (h : tot D g a = some b) : b < n := by
  unfold tot at h
  split at h <;> cases h
  rename_i p
  exact T.lt _ (T.st _ p)
theorem tot_on {D : Nat → Bool} {g : Nat → Nat} {a : Nat} (h : D a = true) : tot D g a = some (g a) := by unfold tot; rw [if_pos h]
theorem loopA {ρ l : Type} {n : Nat} {D : Nat → Bool} {g : Nat → Nat} (T : TotOk n D g) (hn : n ≤ 1000) {x : Nat} (hx : D x = true) (step : Int → N Int) (hs : ∀ a, D a = true → step (a : Int) = .ok (g a : Int)) :
    ∃ lst, FwC (tot D g) x lst ∧ (∀ a, a ∈ lst → D a = true) ∧ (whileC (P2 fun (found0 : List Int) (at0 : Int) => Ct.fn (.rt (!(decide (at0 = (x : Int)))) : Ct Unit Unit Bool)) (P2 fun found0 at0 => ((appN found0 at0).ct fun found1 => (step at0).ct fun a1 => .nx (found1, a1) : Ct (List Int × Int) (List Int × Int) ρ)) FUEL ([(x : Int)], (g x : Int)) : Ct (List Int × Int) l ρ) = .nx (nI lst, (x : Int)) := by
  obtain ⟨st, e, lst, z, f, hz, rfl, hD, hxz⟩ := while_ok (l := l) (ρ := ρ) (t := P2 fun (found0 : List Int) (at0 : Int) => Ct.fn (.rt (!(decide (at0 = (x : Int)))) : Ct Unit Unit Bool)) (body := P2 fun found0 at0 => ((appN found0 at0).ct fun found1 => (step at0).ct fun a1 => .nx (found1, a1) : Ct (List Int × Int) (List Int × Int) ρ))
    (fun k st => ∃ lst z, Fw (tot D g) x lst ∧ lst.getLast? = some z ∧ st = (nI lst, (g z : Int)) ∧ (∀ a, a ∈ lst → D a = true) ∧ k = n - lst.length)
    (fun st => ∃ lst z, Fw (tot D g) x lst ∧ lst.getLast? = some z ∧ st = (nI lst, (x : Int)) ∧ (∀ a, a ∈ lst → D a = true) ∧ g z = x)
    FUEL (n - 1) ([(x : Int)], (g x : Int)) (by have := fuel_le; omega) ⟨[x], x, Fw.one _ _, rfl, rfl, fun a ha => by rw [List.mem_singleton.1 ha]; exact hx, by simp⟩ (by
      rintro k _ ⟨lst, z, f, hz, rfl, hD, rfl⟩
      have hDz : D z = true := hD z (List.mem_of_getLast? hz)
      by_cases c : g z = x
      · left
        exact ⟨by simp [c], lst, z, f, hz, by rw [c], hD, c⟩
      · right
        have c' : ¬ ((g z : Int) = (x : Int)) := by omega
        have f2 := f.snoc hz (tot_on hDz) c
        have l1 := f.len T.inj' T.ub (T.lt x hx)
        have l2 := f2.len T.inj' T.ub (T.lt x hx)
        rw [List.length_append] at l2
        simp only [List.length_singleton] at l2
        refine ⟨by simp [c'], (nI (lst ++ [g z]), (g (g z) : Int)), n - (lst ++ [g z]).length, .inl ?_, ?_, lst ++ [g z], g z, f2, by simp, rfl, ?_, rfl⟩
        · simp only [P2, appN_n (show lst.length < 100000 by omega), ct_ok, hs _ (T.st _ hDz)]
        · rw [List.length_append]; simp only [List.length_singleton]; omega
        · intro a ha
          rcases List.mem_append.1 ha with ha | ha
          · exact hD a ha
          · rw [List.mem_singleton.1 ha]; exact T.st _ hDz)
  refine ⟨lst, ⟨f, fun w hw => ?_⟩, hD, e⟩
  rw [hz] at hw
  cases hw
  exact .inr (by rw [tot_on (hD z (List.mem_of_getLast? hz)), hxz])
section
variable {n : Nat} {on : List Nat} {ms : List (Option Nat)} (S : SkinP n on ms)
include S
def inB (n : Nat) (a : Nat) : Bool := decide (a < n)
theorem patch_tot : TotOk n (inB n) (nx on) where
  lt := fun a h => by simpa [inB] using h
  st := fun a h => by simp [inB] at *; exact nx_lt S h
  inj := fun a b h1 h2 e => by simp [inB] at *; exact nx_inj S h1 h2 e
/-- what is a patch -/
def PatchW (n : Nat) (on : List Nat) (h : Nat) (l : List Nat) : Prop := FwC (tot (inB n) (nx on)) h l
theorem patch_n (hn : n ≤ 1000) {h : Nat} (hh : h < n) : ∃ l, PatchW n on h l ∧ (∀ a, a ∈ l → a < n) ∧ n_patch_of (sk on ms) (h : Int) = .ok (nI l) := by
  obtain ⟨lst, f, hD, e⟩ := loopA (l := Unit) (ρ := List Int) (patch_tot S) hn (x := h) (by simpa [inB] using hh) (fun a => idx (nI on) a) (fun a ha => at_on S (by simpa [inB] using ha))
  refine ⟨lst, f, fun a ha => by simpa [inB] using hD a ha, ?_⟩
  unfold n_patch_of
  simp only [look_n S hh, at_on S hh, ct_ok]
  rw [e]
  rfl
end
end NP
set_option Elab.async false
set_option linter.all false
set_option maxRecDepth 100000
set_option maxHeartbeats 4000000
namespace NP
open PySem L2 DL LW NT NW
theorem Lk.cons {f : Nat → Option Nat} {l : List Nat} (h : Lk f l) {x y : Nat} (hx : l[0]? = some x) (hy : f y = some x) : Lk f (y :: l) := fun i a b ha hb => by
  cases i with
  | zero =>
    simp at ha hb
    subst ha
    rw [hx] at hb
    cases hb
    exact hy
  | succ i => exact h i a b (by simpa using ha) (by simpa using hb)
section
variable {n : Nat} {on : List Nat} {ms : List (Option Nat)} (S : SkinP n on ms)
include S
theorem inv1 (a b : Nat) (h : lf on ms a = some b) : rt on ms b = some a := (lf_rt S (lf_lt S h) h).2
end
end NP
set_option Elab.async false
set_option linter.all false
set_option maxRecDepth 100000
set_option maxHeartbeats 4000000
namespace NP
open PySem L2 DL LW NT NW
def kv (ks : List Nat) : List (Int × Bool) := ks.map fun (k : Nat) => ((k : Int), true)
def adk (ks : List Nat) (k : Nat) : List Nat := if k ∈ ks then ks else ks ++ [k]
structure Kb (n : Nat) (ks : List Nat) : Prop where
  nd : ks.Nodup
  lt : ∀ k, k ∈ ks → k < n
theorem Kb.len {n : Nat} {ks : List Nat} (h : Kb n ks) : ks.length ≤ n := nodup_len n ks h.nd h.lt
theorem Kb.adk {n : Nat} {ks : List Nat} (h : Kb n ks) {k : Nat} (hk : k < n) : Kb n (NP.adk ks k) := by
  unfold NP.adk
  by_cases c : k ∈ ks
  · rw [if_pos c]; exact h
  · rw [if_neg c]
    refine ⟨?_, fun a ha => ?_⟩
    · rw [List.nodup_append]
      refine ⟨h.nd, by simp, fun a ha b hb => ?_⟩
      simp at hb
      subst hb
      exact fun e => c (e ▸ ha)
    · rcases List.mem_append.1 ha with ha | ha
      · exact h.lt a ha
      · rw [List.mem_singleton.1 ha]; exact hk
theorem Kb.all {n : Nat} : ∀ (row : List Nat) {ks : List Nat}, Kb n ks → (∀ a, a ∈ row → a < n) → Kb n (row.foldl NP.adk ks)
  | [], _, h, _ => h
  | a :: row, _, h, hr => Kb.all row (h.adk (hr a (List.mem_cons_self ..))) fun b hb => hr b (List.mem_cons_of_mem _ hb)
end NP
set_option Elab.async false
set_option linter.all false
set_option maxRecDepth 100000
set_option maxHeartbeats 4000000
namespace NP
open PySem L2 DL LW NT NW
end NP
set_option Elab.async false
set_option linter.all false
set_option maxRecDepth 100000
set_option maxHeartbeats 4000000
namespace NP
open PySem L2 DL LW NT NW
end NP
set_option Elab.async false
set_option linter.all false
set_option maxRecDepth 100000
set_option maxHeartbeats 4000000
namespace NP
open PySem L2 DL LW NT NW
end NP
set_option Elab.async false
set_option linter.all false
set_option maxRecDepth 100000
set_option maxHeartbeats 4000000
namespace NP
open PySem L2 DL LW NT NW
end NP
set_option Elab.async false
set_option linter.all false
set_option maxRecDepth 100000
set_option maxHeartbeats 4000000
namespace NP
open PySem L2 DL LW NT NW
end NP
set_option Elab.async false
set_option linter.all false
set_option maxRecDepth 100000
set_option maxHeartbeats 4000000
namespace NP
open PySem L2 DL LW NT NW
/-- reached from a by going on -/
inductive Rea (on : List Nat) (ms : List (Option Nat)) (a : Nat) : Nat → Prop
  | refl : Rea on ms a a
  | nx {b : Nat} : Rea on ms a b → Rea on ms a (nx on b)
  | mt {b c : Nat} : Rea on ms a b → mt ms b = some c → Rea on ms a c
theorem Rea.trans {on : List Nat} {ms : List (Option Nat)} {a b c : Nat} (h : Rea on ms a b) (g : Rea on ms b c) : Rea on ms a c := by
  induction g with
  | refl => exact h
  | nx _ ih => exact ih.nx
  | mt _ e ih => exact ih.mt e
section
variable {n : Nat} {on : List Nat} {ms : List (Option Nat)} (S : SkinP n on ms)
include S
theorem Rea.lt {a b : Nat} (h : Rea on ms a b) (ha : a < n) : b < n := by
  induction h with
  | refl => exact ha
  | nx _ ih => exact nx_lt S ih
  | mt _ e ih => exact (mt_some S e).2.1
theorem rea_back (hn : n ≤ 1000) {h : Nat} (hh : h < n) : Rea on ms (nx on h) h := by
  obtain ⟨l, p, hlt, _⟩ := patch_n S hn hh
  have t : ∀ c, c < n → tot (inB n) (nx on) c = some (nx on c) := fun c hc => tot_on (by simpa [inB] using hc)
  have step : ∀ (i x : Nat), l[i + 1]? = some x → Rea on ms (nx on h) x := fun i => by
    induction i with
    | zero =>
      intro x hx
      have e := p.lk 0 h x p.hd hx
      rw [t h hh] at e
      rw [Option.some.inj e]
      exact .refl
    | succ i ih =>
      intro x hx
      have li : i + 1 < l.length := by have := (List.getElem?_eq_some_iff.mp hx).1; omega
      have hy : l[i + 1]? = some l[i + 1] := List.getElem?_eq_getElem li
      have e := p.lk (i + 1) _ x hy hx
      rw [t _ (hlt _ (List.getElem_mem li))] at e
      rw [← Option.some.inj e]
      exact (ih _ hy).nx
  have hne : l ≠ [] := p.toFw.ne_nil
  obtain ⟨z, hz⟩ : ∃ z, l.getLast? = some z := by
    cases q : l.getLast? with
    | none => exact absurd (List.getLast?_eq_none_iff.1 q) hne
    | some z => exact ⟨z, rfl⟩
  have zl := hlt z (List.mem_of_getLast? hz)
  have fin := p.fin z hz
  rw [t z zl] at fin
  have ez : nx on z = h := by
    rcases fin with q | q
    · cases q
    · exact Option.some.inj q
  rw [List.getLast?_eq_getElem?] at hz
  by_cases c : l.length = 1
  · rw [c] at hz
    have : z = h := by
      have q := p.hd
      rw [show (1 - 1) = 0 from rfl] at hz
      rw [hz] at q
      exact Option.some.inj q
    rw [← this, this, ← this, ez, this]
    exact .refl
  · have lp : 0 < l.length := List.length_pos_iff.2 hne
    have e2 : l.length - 1 = (l.length - 2) + 1 := by omega
    rw [e2] at hz
    have r := (step _ _ hz).nx
    rw [ez] at r
    exact r
theorem Rea.symm (hn : n ≤ 1000) {a b : Nat} (h : Rea on ms a b) (ha : a < n) : Rea on ms b a := by
  induction h with
  | refl => exact .refl
  | nx g ih => exact (rea_back S hn (Rea.lt S g ha)).trans ih
  | mt g e ih => exact (Rea.mt .refl (mt_some S e).2.2.2).trans ih
end
end NP
set_option Elab.async false
set_option linter.all false
set_option maxRecDepth 100000
set_option maxHeartbeats 4000000
namespace NP
open PySem L2 DL LW NT NW
/-- names that stand for what is reached -/
structure Lab (n : Nat) (on : List Nat) (ms : List (Option Nat)) (L : List Nat) : Prop where
  len : L.length = n
  ok : ∀ x v, L[x]? = some v → v ≤ x ∧ Rea on ms x v
theorem Lab.at {n : Nat} {on : List Nat} {ms : List (Option Nat)} {L : List Nat} (h : Lab n on ms L) {x : Nat} (hx : x < n) : ∃ v, L[x]? = some v ∧ v ≤ x ∧ Rea on ms x v := by
  have l : x < L.length := by rw [h.len]; exact hx
  have e : L[x]? = some L[x] := List.getElem?_eq_getElem l
  obtain ⟨a, b⟩ := h.ok x _ e
  exact ⟨_, e, a, b⟩
theorem Lab.set {n : Nat} {on : List Nat} {ms : List (Option Nat)} {L : List Nat} (h : Lab n on ms L) {x v : Nat} (hx : x < n) (hv : v ≤ x) (r : Rea on ms x v) : Lab n on ms (L.set x v) := by
  refine ⟨by simp [h.len], fun y u e => ?_⟩
  by_cases c : x = y
  · subst c
    rw [List.getElem?_set_self (by rw [h.len]; exact hx)] at e
    cases e
    exact ⟨hv, r⟩
  · rw [List.getElem?_set_ne c] at e
    exact h.ok y u e
/-- an edge's turn of the law -/
noncomputable abbrev edg (half0 : Int) (there0 : Option Int) : List Int × Bool → Ct (List Int × Bool) (List Int × Bool) (List (List Int)) := (P2 fun names2 going2 =>
 ((Ct.fn ((optC there0
 (.rt false)
 (fun there2 => (idx names2 there2).ct fun a2 =>
 (idx names2 half0).ct fun a3 =>
 .rt (!(decide (a2 = a3))))) : Ct Unit Unit Bool)).ct fun b0 =>
 (if b0 = true then
 (unw there0).ct fun there00 =>
 (idx names2 there00).ct fun a4 =>
 (idx names2 half0).ct fun a5 =>
 (setN names2 there00 (imin a4 a5)).ct fun names3 =>
 (idx names3 there00).ct fun a6 =>
 (setN names3 half0 a6).ct fun names4 =>
 .nx (names4, true) else
 .nx (names2, going2)) : Ct ((List Int) × Bool) ((List Int) × Bool) _))
structure EStep (n : Nat) (on : List Nat) (ms : List (Option Nat)) (L : List Nat) (g : Bool) (L' : List Nat) (g' : Bool) (eqs : Prop) : Prop where
  lab : Lab n on ms L'
  le : L'.sum ≤ L.sum
  up : g' = true → g = true ∨ L'.sum < L.sum
  no : g' = false → g = false ∧ L' = L ∧ eqs
theorem EStep.trans {n : Nat} {on : List Nat} {ms : List (Option Nat)} {L L1 L2 : List Nat} {g g1 g2 : Bool} {p q : Prop} (a : EStep n on ms L g L1 g1 p) (b : EStep n on ms L1 g1 L2 g2 q) : EStep n on ms L g L2 g2 (p ∧ q) where
  lab := b.lab
  le := Nat.le_trans b.le a.le
  up := fun h => by
    rcases b.up h with z | z
    · rcases a.up z with y | y
      · exact .inl y
      · exact .inr (Nat.lt_of_le_of_lt b.le y)
    · exact .inr (Nat.lt_of_lt_of_le z a.le)
  no := fun h => by
    obtain ⟨h1, h2, h3⟩ := b.no h
    obtain ⟨h4, h5, h6⟩ := a.no h1
    exact ⟨h4, h2.trans h5, h6, h3⟩
theorem EStep.imp {n : Nat} {on : List Nat} {ms : List (Option Nat)} {L L' : List Nat} {g g' : Bool} {p q : Prop} (a : EStep n on ms L g L' g' p) (h : p → q) : EStep n on ms L g L' g' q :=
  ⟨a.lab, a.le, a.up, fun z => let ⟨x, y, w⟩ := a.no z; ⟨x, y, h w⟩⟩
/-- a half seam's turn -/
noncomputable def hlf (skin : List Int × List (Option Int)) (half0 : Int) : List Int × Bool → Ct (List Int × Bool) (List Int × Bool) (List (List Int)) := (P2 fun names1 going1 =>
 ((idx skin.1 half0).ct fun a0 =>
 (idx skin.2 half0).ct fun a1 =>
 (forC (fun there0 => edg half0 there0) [(some a0), a1] (names1, going1)).sq (P2 fun names5 going3 =>
 .nx (names5, going3)) : Ct ((List Int) × Bool) ((List Int) × Bool) (List (List Int))))
end NP
set_option Elab.async false
set_option linter.all false
set_option maxRecDepth 100000
set_option maxHeartbeats 4000000
namespace NP
open PySem L2 DL LW NT NW
/-- the halves of x's part, rising -/
def mem (n : Nat) (c : Nat → Nat) (m : Nat) : List Nat := (List.range n).filter fun x => decide (c x = m)
end NP
set_option Elab.async false
set_option linter.all false
set_option maxRecDepth 100000
set_option maxHeartbeats 4000000
namespace NP
open PySem L2 DL LW NT NW
/-- walks that begin somewhere, not too many -/
structure Wk (R : List (List Int)) : Prop where
  ne : ∀ r, r ∈ R → ∃ a t, r = a :: t
  le : R.length ≤ 1000
end NP
set_option Elab.async false
set_option linter.all false
set_option maxRecDepth 100000
set_option maxHeartbeats 4000000
namespace NP
open PySem L2 DL LW NT NW
end NP
set_option Elab.async false
set_option linter.all false
set_option maxRecDepth 100000
set_option maxHeartbeats 4000000
namespace NP
open PySem L2 DL LW NT NW
structure Eqv (D : Nat → Bool) (w : Nat → List Nat) : Prop where
  self : ∀ h, D h = true → h ∈ w h
  dom : ∀ h a, D h = true → a ∈ w h → D a = true
  same : ∀ h x y, D h = true → x ∈ w h → (y ∈ w x ↔ y ∈ w h)
theorem Eqv.symm {D : Nat → Bool} {w : Nat → List Nat} (E : Eqv D w) {x y : Nat} (hx : D x = true) (h : y ∈ w x) : x ∈ w y := (E.same x y x hx h).2 (E.self x hx)
end NP
set_option Elab.async false
set_option linter.all false
set_option maxRecDepth 100000
set_option maxHeartbeats 4000000
namespace NG
open Classical
noncomputable def ct (n : Nat) (p : Nat → Prop) : Nat := ((List.range n).filter fun x => decide (p x)).length
structure Er (B : Nat → Prop) (R : Nat → Nat → Prop) : Prop where
  refl : ∀ x, B x → R x x
  symm : ∀ x y, B x → B y → R x y → R y x
  trans : ∀ x y z, B x → B y → B z → R x y → R y z → R x z
def it (f : Nat → Nat) : Nat → Nat → Nat
  | 0, x => x
  | k + 1, x => it f k (f x)
theorem it_add (f : Nat → Nat) : ∀ (j k x : Nat), it f (j + k) x = it f k (it f j x)
  | 0, k, x => by rw [Nat.zero_add]; rfl
  | j + 1, k, x => by
    rw [show j + 1 + k = (j + k) + 1 by omega]
    exact it_add f j k (f x)
theorem it_succ (f : Nat → Nat) (k x : Nat) : it f (k + 1) x = f (it f k x) := it_add f k 1 x
structure Pm (n : Nat) (B : Nat → Prop) (f : Nat → Nat) : Prop where
  lt : ∀ x, B x → x < n
  st : ∀ x, B x → B (f x)
  inj : ∀ x y, B x → B y → f x = f y → x = y
section
variable {n : Nat} {B : Nat → Prop} {f f' : Nat → Nat}
theorem Pm.its (P : Pm n B f) {x : Nat} (hx : B x) : ∀ k, B (it f k x)
  | 0 => hx
  | k + 1 => by rw [it_succ]; exact P.st _ (P.its hx k)
theorem Pm.cancel (P : Pm n B f) {x y : Nat} (hx : B x) (hy : B y) : ∀ k, it f k x = it f k y → x = y
  | 0, e => e
  | k + 1, e => by
    rw [it_succ, it_succ] at e
    exact P.cancel hx hy k (P.inj _ _ (P.its hx k) (P.its hy k) e)
theorem Pm.per (P : Pm n B f) {x : Nat} (hx : B x) : ∃ p, 0 < p ∧ it f p x = x := by
  apply Classical.byContradiction
  intro c
  have nd : ((List.range (n + 1)).map fun k => it f k x).Nodup := by
    refine List.pairwise_map.2 (List.Pairwise.imp ?_ (List.pairwise_lt_range (n := n + 1)))
    intro i j h e
    apply c
    refine ⟨j - i, by omega, ?_⟩
    have : j = (j - i) + i := by omega
    rw [this, it_add] at e
    exact (P.cancel hx (P.its hx _) i e).symm
  have := NP.nodup_len n _ nd fun a ha => by
    obtain ⟨k, _, rfl⟩ := List.mem_map.1 ha
    exact P.lt _ (P.its hx k)
  simp at this
  omega
theorem least_nat {p : Nat → Prop} : ∀ k, p k → ∃ m, m ≤ k ∧ p m ∧ ∀ j, j < m → ¬ p j
  | 0, h => ⟨0, Nat.le_refl _, h, fun j hj => by omega⟩
  | k + 1, h => by
    by_cases c : ∃ j, j ≤ k ∧ p j
    · obtain ⟨j, hj, hp⟩ := c
      by_cases d : ∃ i, i < j ∧ p i
      · obtain ⟨m, a, b, e⟩ : ∃ m, m ≤ j ∧ p m ∧ ∀ i, i < m → ¬ p i := by
          clear d
          revert hj hp
          induction j using Nat.strongRecOn with
          | ind j ih =>
            intro hj hp
            by_cases d : ∃ i, i < j ∧ p i
            · obtain ⟨i, hi, pi⟩ := d
              obtain ⟨m, a, b, e⟩ := ih i hi (by omega) pi
              exact ⟨m, by omega, b, e⟩
            · exact ⟨j, Nat.le_refl _, hp, fun i hi q => d ⟨i, hi, q⟩⟩
        exact ⟨m, by omega, b, e⟩
      · exact ⟨j, by omega, hp, fun i hi q => d ⟨i, hi, q⟩⟩
    · exact ⟨k + 1, Nat.le_refl _, h, fun j hj q => c ⟨j, by omega, q⟩⟩
end
structure Sk2 (n : Nat) (B : Nat → Prop) (g : Nat → Nat) (m : Nat → Option Nat) : Prop where
  pm : Pm n B g
  mt : ∀ a b, B a → m a = some b → B b ∧ b ≠ a ∧ m b = some a
def tau (g : Nat → Nat) (m : Nat → Option Nat) (x : Nat) : Nat := g ((m x).getD x)
inductive Cn (g : Nat → Nat) (m : Nat → Option Nat) (a : Nat) : Nat → Prop
  | refl : Cn g m a a
  | st {x : Nat} : Cn g m a x → Cn g m a (g x)
  | mt {x y : Nat} : Cn g m a x → m x = some y → Cn g m a y
theorem Cn.trans {g : Nat → Nat} {m : Nat → Option Nat} {a b c : Nat} (h : Cn g m a b) (k : Cn g m b c) : Cn g m a c := by
  induction k with
  | refl => exact h
  | st _ ih => exact ih.st
  | mt _ e ih => exact ih.mt e
section
variable {n : Nat} {B : Nat → Prop} {g : Nat → Nat} {m : Nat → Option Nat} (S : Sk2 n B g m)
include S
theorem Cn.b {a x : Nat} (ha : B a) (h : Cn g m a x) : B x := by
  induction h with
  | refl => exact ha
  | st _ ih => exact S.pm.st _ ih
  | mt _ e ih => exact (S.mt _ _ ih e).1
end
end NG
set_option Elab.async false
set_option linter.all false
set_option maxRecDepth 100000
set_option maxHeartbeats 4000000
namespace NP
structure Cls (hs : List Nat) (w : Nat → List Nat) : Prop where
  self : ∀ h, h ∈ hs → h ∈ w h
  nd : ∀ h, h ∈ hs → (w h).Nodup
  sub : ∀ h a, h ∈ hs → a ∈ w h → a ∈ hs
  same : ∀ h a b, h ∈ hs → a ∈ w h → (b ∈ w a ↔ b ∈ w h)
end NP
set_option Elab.async false
set_option linter.all false
set_option maxRecDepth 100000
set_option maxHeartbeats 4000000
namespace NP
open PySem L2 DL LW NT NW
theorem TotOk.all {n : Nat} {D : Nat → Bool} {g : Nat → Nat} (T : TotOk n D g) {x : Nat} (hx : D x = true) {l : List Nat} (h : Fw (tot D g) x l) : ∀ a, a ∈ l → D a = true := fun a ha => by
  obtain ⟨i, hi, e⟩ := List.mem_iff_getElem.1 ha
  cases i with
  | zero =>
    have := h.hd
    rw [List.getElem?_eq_getElem hi, e] at this
    cases this
    exact hx
  | succ i =>
    have := h.lk i _ _ (List.getElem?_eq_getElem (by omega)) (List.getElem?_eq_getElem hi)
    unfold tot at this
    by_cases c : D l[i] = true
    · rw [if_pos c] at this
      injection this with this
      rw [← e, ← this]
      exact T.st _ c
    · rw [if_neg c] at this; cases this
end NP
set_option Elab.async false
set_option linter.all false
set_option maxRecDepth 100000
set_option maxHeartbeats 4000000
namespace NP
open PySem L2 DL LW NT NW
end NP
set_option Elab.async false
set_option linter.all false
set_option maxRecDepth 100000
set_option maxHeartbeats 4000000
namespace NP
open PySem L2 DL LW NT NW
theorem FwC.map {f F : Nat → Option Nat} {g : Nat → Nat} (hg : ∀ {a b}, g a = g b → a = b) (hF : ∀ a, F (g a) = (f a).map g) {x : Nat} {l : List Nat} (h : FwC f x l) : FwC F (g x) (l.map g) where
  hd := by rw [List.getElem?_map, h.hd]; rfl
  lk := fun i a b ha hb => by
    rw [List.getElem?_map] at ha hb
    obtain ⟨a', ha', rfl⟩ := Option.map_eq_some_iff.1 ha
    obtain ⟨b', hb', rfl⟩ := Option.map_eq_some_iff.1 hb
    rw [hF, h.lk i a' b' ha' hb']
    rfl
  ne := fun i z => by
    rw [List.getElem?_map] at z
    obtain ⟨a', ha', e⟩ := Option.map_eq_some_iff.1 z
    have := hg e
    subst this
    exact h.ne i ha'
  fin := fun z hz => by
    rw [List.getLast?_map] at hz
    obtain ⟨a', ha', rfl⟩ := Option.map_eq_some_iff.1 hz
    rw [hF]
    rcases h.fin a' ha' with q | q
    · exact .inl (by rw [q]; rfl)
    · exact .inr (by rw [q]; rfl)
end NP
set_option Elab.async false
set_option linter.all false
set_option maxRecDepth 100000
set_option maxHeartbeats 4000000
namespace NP
open PySem L2 DL LW NT NW
theorem Cls.eqv {hs : List Nat} {w : Nat → List Nat} (C : Cls hs w) {D : Nat → Bool} (hD : ∀ h, h ∈ hs ↔ D h = true) : Eqv D w where
  self := fun h d => C.self h ((hD h).2 d)
  dom := fun h a d m => (hD a).1 (C.sub h a ((hD h).2 d) m)
  same := fun h x y d m => C.same h x y ((hD h).2 d) m
section
variable {n : Nat} {on : List Nat} {ms : List (Option Nat)} (S : SkinP n on ms)
include S
variable (all : ∀ h, h < n → mt ms h ≠ none)
include all
/-- the mates as a map of all numbers -/
noncomputable def mg (n : Nat) (ms : List (Option Nat)) (h : Nat) : Nat := if h < n then (mt ms h).getD 0 else h
end
end NP
set_option Elab.async false
set_option linter.all false
set_option maxRecDepth 100000
set_option maxHeartbeats 4000000
namespace NP
open PySem L2 DL LW NT NW
/-- onward, ahead, mates, by numbers -/
structure FS (N : Nat) (o a : Nat → Nat) (m : Nat → Option Nat) : Prop where
  ol : ∀ x, x < N → o x < N
  al : ∀ x, x < N → a x < N
  oa : ∀ x, x < N → o (a x) = x
  ao : ∀ x, x < N → a (o x) = x
  ml : ∀ x y, x < N → m x = some y → y < N ∧ y ≠ x ∧ m y = some x
def upO (o : Nat → Nat) (x : Nat) : Nat := if x % 4 = 3 then 4 * o (x / 4) + 3 else 4 * (x / 4) + (x + 1) % 4 % 3
def upA (a : Nat → Nat) (x : Nat) : Nat := if x % 4 = 3 then 4 * a (x / 4) + 3 else 4 * (x / 4) + (x % 4 + 2) % 3
def upM (o a : Nat → Nat) (m : Nat → Option Nat) (x : Nat) : Option Nat := if x % 4 = 1 ∨ x % 4 = 3 then some (4 * (x / 4) + 4 - x % 4) else if x % 4 = 0 then (m (x / 4)).map fun y => 4 * o y + 2 else (m (a (x / 4))).map fun y => 4 * y
section
variable {o a : Nat → Nat} {m : Nat → Option Nat}
theorem d4 (h r : Nat) (hr : r < 4) : (4 * h + r) / 4 = h ∧ (4 * h + r) % 4 = r := by omega
theorem upO0 (h : Nat) : upO o (4 * h) = 4 * h + 1 := by
  unfold upO
  rw [if_neg (by omega)]
  omega
theorem upO1 (h : Nat) : upO o (4 * h + 1) = 4 * h + 2 := by
  unfold upO
  rw [if_neg (by omega)]
  omega
theorem upO2 (h : Nat) : upO o (4 * h + 2) = 4 * h := by
  unfold upO
  rw [if_neg (by omega)]
  omega
theorem upO3 (h : Nat) : upO o (4 * h + 3) = 4 * o h + 3 := by
  unfold upO
  rw [if_pos (by omega), show (4 * h + 3) / 4 = h by omega]
theorem upA0 (h : Nat) : upA a (4 * h) = 4 * h + 2 := by
  unfold upA
  rw [if_neg (by omega)]
  omega
theorem upA1 (h : Nat) : upA a (4 * h + 1) = 4 * h := by
  unfold upA
  rw [if_neg (by omega)]
  omega
theorem upA2 (h : Nat) : upA a (4 * h + 2) = 4 * h + 1 := by
  unfold upA
  rw [if_neg (by omega)]
  omega
theorem upA3 (h : Nat) : upA a (4 * h + 3) = 4 * a h + 3 := by
  unfold upA
  rw [if_pos (by omega), show (4 * h + 3) / 4 = h by omega]
theorem upM0 (h : Nat) : upM o a m (4 * h) = (m h).map fun y => 4 * o y + 2 := by
  unfold upM
  rw [if_neg (by omega), if_pos (by omega), show 4 * h / 4 = h by omega]
theorem upM1 (h : Nat) : upM o a m (4 * h + 1) = some (4 * h + 3) := by
  unfold upM
  rw [if_pos (by omega)]
  congr 1
  omega
theorem upM2 (h : Nat) : upM o a m (4 * h + 2) = (m (a h)).map fun y => 4 * y := by
  unfold upM
  rw [if_neg (by omega), if_neg (by omega), show (4 * h + 2) / 4 = h by omega]
theorem upM3 (h : Nat) : upM o a m (4 * h + 3) = some (4 * h + 1) := by
  unfold upM
  rw [if_pos (by omega)]
  congr 1
  omega
theorem by4 {N : Nat} {P : Nat → Prop} (h : ∀ h, h < N → P (4 * h) ∧ P (4 * h + 1) ∧ P (4 * h + 2) ∧ P (4 * h + 3)) (x : Nat) (hx : x < 4 * N) : P x := by
  obtain ⟨a, b, c, d⟩ := h (x / 4) (by omega)
  have : x = 4 * (x / 4) ∨ x = 4 * (x / 4) + 1 ∨ x = 4 * (x / 4) + 2 ∨ x = 4 * (x / 4) + 3 := by omega
  rcases this with e | e | e | e <;> rw [e] <;> assumption
theorem FS.up {N : Nat} (F : FS N o a m) : FS (4 * N) (upO o) (upA a) (upM o a m) where
  ol := by4 fun h hh => by
    have := F.ol h hh
    rw [upO0, upO1, upO2, upO3]
    omega
  al := by4 fun h hh => by
    have := F.al h hh
    rw [upA0, upA1, upA2, upA3]
    omega
  oa := by4 fun h hh => by
    rw [upA0, upA1, upA2, upA3, upO0, upO1, upO2, upO3, F.oa h hh]
    exact ⟨rfl, rfl, rfl, rfl⟩
  ao := by4 fun h hh => by
    rw [upO0, upO1, upO2, upO3, upA0, upA1, upA2, upA3, F.ao h hh]
    exact ⟨rfl, rfl, rfl, rfl⟩
  ml := fun x y hx => by
    revert x
    refine by4 (P := fun x => upM o a m x = some y → y < 4 * N ∧ y ≠ x ∧ upM o a m y = some x) fun h hh => ?_
    refine ⟨fun e => ?_, fun e => ?_, fun e => ?_, fun e => ?_⟩
    · rw [upM0] at e
      cases q : m h with
      | none => rw [q] at e; cases e
      | some z =>
        rw [q] at e
        have e' : 4 * o z + 2 = y := Option.some.inj e
        subst e'
        obtain ⟨h1, h2, h3⟩ := F.ml h z hh q
        have := F.ol z h1
        refine ⟨by omega, by omega, ?_⟩
        rw [upM2, F.ao z h1, h3]
        rfl
    · rw [upM1] at e
      cases e
      exact ⟨by omega, by omega, upM3 h⟩
    · rw [upM2] at e
      cases q : m (a h) with
      | none => rw [q] at e; cases e
      | some z =>
        rw [q] at e
        have e' : 4 * z = y := Option.some.inj e
        subst e'
        obtain ⟨h1, h2, h3⟩ := F.ml (a h) z (F.al h hh) q
        refine ⟨by omega, by omega, ?_⟩
        rw [upM0, h3]
        show some (4 * o (a h) + 2) = _
        rw [F.oa h hh]
    · rw [upM3] at e
      cases e
      exact ⟨by omega, by omega, upM1 h⟩
end
def fo (on : List Nat) : Nat → Nat → Nat
  | 0 => nx on
  | t + 1 => upO (fo on t)
def fa (on : List Nat) : Nat → Nat → Nat
  | 0 => ah on
  | t + 1 => upA (fa on t)
def fm (on : List Nat) (ms : List (Option Nat)) : Nat → Nat → Option Nat
  | 0 => mt ms
  | t + 1 => upM (fo on t) (fa on t) (fm on ms t)
end NP
set_option Elab.async false
set_option linter.all false
set_option maxRecDepth 100000
set_option maxHeartbeats 4000000
namespace NP
open PySem L2 DL LW NT NW
/-- to the left, so many times finer -/
def fl (on : List Nat) (ms : List (Option Nat)) (t x : Nat) : Option Nat := fm on ms t (fa on t x)
end NP
set_option Elab.async false
set_option linter.all false
set_option maxRecDepth 100000
set_option maxHeartbeats 4000000
namespace NP
open PySem L2 DL LW NT NW
end NP
set_option Elab.async false
set_option linter.all false
set_option maxRecDepth 100000
set_option maxHeartbeats 4000000
namespace NP
open PySem L2 DL LW NT NW NG
end NP
set_option Elab.async false
set_option linter.all false
set_option maxRecDepth 100000
set_option maxHeartbeats 4000000
namespace NG
structure Fin4 (n : Nat) (g a : Nat → Nat) (m : Nat → Option Nat) (g' : Nat → Nat) (m' : Nat → Option Nat) : Prop where
  g0 : ∀ h, h < n → g' (4 * h) = 4 * h + 1
  g1 : ∀ h, h < n → g' (4 * h + 1) = 4 * h + 2
  g2 : ∀ h, h < n → g' (4 * h + 2) = 4 * h
  g3 : ∀ h, h < n → g' (4 * h + 3) = 4 * g h + 3
  m0 : ∀ h, h < n → m' (4 * h) = (m h).map fun y => 4 * g y + 2
  m1 : ∀ h, h < n → m' (4 * h + 1) = some (4 * h + 3)
  m2 : ∀ h, h < n → m' (4 * h + 2) = (m (a h)).map fun y => 4 * y
  m3 : ∀ h, h < n → m' (4 * h + 3) = some (4 * h + 1)
  ga : ∀ h, h < n → g (a h) = h
  ag : ∀ h, h < n → a (g h) = h
def B4 (B : Nat → Prop) (x : Nat) : Prop := B (x / 4)
theorem q0 {B : Nat → Prop} {h : Nat} : B4 B (4 * h) ↔ B h := by unfold B4; rw [show 4 * h / 4 = h by omega]
theorem q1 {B : Nat → Prop} {h : Nat} : B4 B (4 * h + 1) ↔ B h := by unfold B4; rw [show (4 * h + 1) / 4 = h by omega]
theorem q2 {B : Nat → Prop} {h : Nat} : B4 B (4 * h + 2) ↔ B h := by unfold B4; rw [show (4 * h + 2) / 4 = h by omega]
theorem q3 {B : Nat → Prop} {h : Nat} : B4 B (4 * h + 3) ↔ B h := by unfold B4; rw [show (4 * h + 3) / 4 = h by omega]
theorem Er.sub {B Q : Nat → Prop} {R : Nat → Nat → Prop} (E : Er B R) : Er (fun x => B x ∧ Q x) R := ⟨fun x h => E.refl x h.1, fun x y hx hy => E.symm x y hx.1 hy.1, fun x y z hx hy hz => E.trans x y z hx.1 hy.1 hz.1⟩
section
variable {n : Nat} {B : Nat → Prop} {g a : Nat → Nat} {m : Nat → Option Nat} {g' : Nat → Nat} {m' : Nat → Option Nat} (S : Sk2 n B g m) (F : Fin4 n g a m g' m') (aB : ∀ h, B h → B (a h))
include S F aB
theorem t1 {h : Nat} (hb : B h) : tau g' m' (4 * h + 1) = 4 * g h + 3 := by
  unfold tau
  rw [F.m1 h (S.pm.lt h hb)]
  exact F.g3 h (S.pm.lt h hb)
theorem t3 {h : Nat} (hb : B h) : tau g' m' (4 * h + 3) = 4 * h + 2 := by
  unfold tau
  rw [F.m3 h (S.pm.lt h hb)]
  exact F.g1 h (S.pm.lt h hb)
/-- of an elder knot or rim -/
def Eld (a : Nat → Nat) (m : Nat → Option Nat) (x : Nat) : Prop := x % 4 = 0 ∨ (x % 4 = 1 ∧ m (x / 4) = none) ∨ (2 ≤ x % 4 ∧ m (a (x / 4)) = none)
theorem e0 (h : Nat) : Eld a m (4 * h) := .inl (by omega)
theorem e1 (h : Nat) : Eld a m (4 * h + 1) ↔ m h = none := by
  unfold Eld
  rw [show (4 * h + 1) / 4 = h by omega]
  constructor
  · rintro (q | q | q)
    · omega
    · exact q.2
    · omega
  · exact fun q => .inr (.inl ⟨by omega, q⟩)
theorem e2 (h : Nat) : Eld a m (4 * h + 2) ↔ m (a h) = none := by
  unfold Eld
  rw [show (4 * h + 2) / 4 = h by omega]
  constructor
  · rintro (q | q | q)
    · omega
    · omega
    · exact q.2
  · exact fun q => .inr (.inr ⟨by omega, q⟩)
theorem e3 (h : Nat) : Eld a m (4 * h + 3) ↔ m (a h) = none := by
  unfold Eld
  rw [show (4 * h + 3) / 4 = h by omega]
  constructor
  · rintro (q | q | q)
    · omega
    · omega
    · exact q.2
  · exact fun q => .inr (.inr ⟨by omega, q⟩)
/-- the seam on which a new knot lies -/
def sOf (a : Nat → Nat) (m : Nat → Option Nat) (x : Nat) : Nat := let h := if x % 4 = 1 then x / 4 else a (x / 4); min h ((m h).getD h)
theorem s1 (h : Nat) : sOf a m (4 * h + 1) = min h ((m h).getD h) := by
  unfold sOf
  rw [if_pos (by omega), show (4 * h + 1) / 4 = h by omega]
theorem s2 (h : Nat) : sOf a m (4 * h + 2) = min (a h) ((m (a h)).getD (a h)) := by
  unfold sOf
  rw [if_neg (by omega), show (4 * h + 2) / 4 = h by omega]
theorem s3 (h : Nat) : sOf a m (4 * h + 3) = min (a h) ((m (a h)).getD (a h)) := by
  unfold sOf
  rw [if_neg (by omega), show (4 * h + 3) / 4 = h by omega]
end
end NG
set_option Elab.async false
set_option linter.all false
set_option maxRecDepth 100000
set_option maxHeartbeats 4000000
namespace NP
open PySem L2 DL LW NT NW NG
end NP
set_option Elab.async false
set_option linter.all false
set_option maxRecDepth 100000
set_option maxHeartbeats 4000000
namespace NP
open PySem L2 DL LW NT NW NG
end NP
set_option Elab.async false
set_option linter.all false
set_option maxRecDepth 100000
set_option maxHeartbeats 4000000
namespace NP
open PySem L2 DL LW NT NW NG
end NP
set_option Elab.async false
set_option linter.all false
set_option maxRecDepth 100000
set_option maxHeartbeats 4000000
namespace NP
open PySem L2 DL LW NT NW NG
end NP
set_option Elab.async false
set_option linter.all false
set_option maxRecDepth 100000
set_option maxHeartbeats 4000000
namespace NP
open PySem L2 DL LW NT NW NG
/-- the next one that is not gone -/
def Nxt (g : Nat → Nat) (gone : List Nat) (x y : Nat) : Prop := ∃ j, it g (j + 1) x = y ∧ y ∉ gone ∧ ∀ i, i < j → it g (i + 1) x ∈ gone
theorem Nxt.inj {n : Nat} {g : Nat → Nat} {gone : List Nat} (P : Pm n (fun x => x < n) g) {x y z : Nat} (hx : x < n) (hy : y < n) (gx : x ∉ gone) (gy : y ∉ gone) (h : Nxt g gone x z) (k : Nxt g gone y z) : x = y := by
  obtain ⟨i, a1, a2, a3⟩ := h
  obtain ⟨j, b1, b2, b3⟩ := k
  have main : ∀ {x y i j : Nat}, x < n → y < n → x ∉ gone → it g (i + 1) x = z → it g (j + 1) y = z → (∀ k, k < j → it g (k + 1) y ∈ gone) → i ≤ j → x = y := fun {x y i j} hx hy gx a1 b1 b3 hij => by
    obtain ⟨d, rfl⟩ : ∃ d, j = d + i := ⟨j - i, by omega⟩
    have e : it g (d + (i + 1)) y = it g (i + 1) x := by rw [show d + (i + 1) = d + i + 1 by omega, b1, a1]
    rw [it_add] at e
    have e := P.cancel (P.its hy d) hx (i + 1) e
    cases d with
    | zero => exact e.symm
    | succ d =>
      exact absurd (b3 d (by omega)) (by rw [e]; exact gx)
  rcases Nat.le_total i j with c | c
  · exact main hx hy gx a1 b1 b3 c
  · exact (main hy hx gy b1 a1 a3 c).symm
theorem Nxt.ex {n : Nat} {g : Nat → Nat} {gone : List Nat} (P : Pm n (fun x => x < n) g) {x : Nat} (hx : x < n) (gx : x ∉ gone) : ∃ y, Nxt g gone x y := by
  obtain ⟨p, h0, e⟩ := P.per (show (fun x => x < n) x from hx)
  obtain ⟨q, rfl⟩ : ∃ q, p = q + 1 := ⟨p - 1, by omega⟩
  obtain ⟨m, h1, h2, h3⟩ := least_nat (p := fun k => it g (k + 1) x ∉ gone) q (by rw [e]; exact gx)
  exact ⟨_, m, rfl, h2, fun i hi => by
    have := h3 i hi
    exact Classical.not_not.1 this⟩
end NP
set_option Elab.async false
set_option linter.all false
set_option maxRecDepth 100000
set_option maxHeartbeats 4000000
namespace NP
open PySem L2 DL LW NT NW NG
end NP
set_option Elab.async false
set_option linter.all false
set_option maxRecDepth 100000
set_option maxHeartbeats 4000000
namespace NP
open PySem L2 DL LW NT NW NG
end NP
set_option Elab.async false
set_option linter.all false
set_option maxRecDepth 100000
set_option maxHeartbeats 4000000
namespace NP
open PySem L2 DL LW NT NW NG
end NP
set_option Elab.async false
set_option linter.all false
set_option maxRecDepth 100000
set_option maxHeartbeats 4000000
namespace NP
open PySem L2 DL LW NT NW NG
end NP
set_option Elab.async false
set_option linter.all false
set_option maxRecDepth 100000
set_option maxHeartbeats 4000000
namespace NP
open PySem L2 DL LW NT NW NG
end NP
set_option Elab.async false
set_option linter.all false
set_option maxRecDepth 100000
set_option maxHeartbeats 4000000
namespace NP
open PySem L2 DL LW NT NW NG
end NP
set_option Elab.async false
set_option linter.all false
set_option maxRecDepth 100000
set_option maxHeartbeats 4000000
namespace NP
open PySem L2 DL LW NT NW NG
end NP
set_option Elab.async false
set_option linter.all false
set_option maxRecDepth 100000
set_option maxHeartbeats 4000000
namespace NP
open PySem L2 DL LW NT NW NG
abbrev hlD : List (Str × Option Str) := [("Harm", some "word"), ("SkinError", none)]
/-- a refusal, and how it is told -/
structure Kd (x : Xc) (t : Str) : Prop where
  kind : kindT x hlD = .ok t
  ok : PyData.strOk t = true
  ne : t ≠ ("" : Str)
/-- what a deed comes to -/
inductive DoneR (n : Nat) (h : Int) (B : Nat → Nat → List Nat → Prop) (r : NT.N (List Int × List (Option Int))) : Prop
  | no (x : Xc) (t : Str) : r = .ex x → Kd x t → DoneR n h B r
  | ok (k n' : Nat) (on' : List Nat) (ms' : List (Option Nat)) : h = (k : Int) → k < n → r = .ok (sk on' ms') → SkinP n' on' ms' → 1 ≤ n' → n' ≤ 400 → B k n' on' → DoneR n h B r
theorem DoneR.any {n : Nat} {h : Int} {B : Nat → Nat → List Nat → Prop} {r : NT.N (List Int × List (Option Int))} (d : DoneR n h B r) : DoneR n h (fun _ _ _ => True) r := by
  cases d with
  | no x t a b => exact .no x t a b
  | ok k n' on' ms' a b c d e f _ => exact .ok k n' on' ms' a b c d e f trivial
end NP
set_option Elab.async false
set_option linter.all false
set_option maxRecDepth 100000
set_option maxHeartbeats 4000000
namespace NP
open PySem L2 DL LW NT NW NG
/-- rows of numbers of either kind -/
inductive RowD (xs : List Int) : D → Prop
  | t : RowD xs (eTs eI xs)
  | l : RowD xs (eLs eI xs)
theorem RowD.len {xs : List Int} {d : D} (h : RowD xs d) : intN (fLen [d]) = .ok (xs.length : Int) := by
  cases h
  · show intN (some (.int ((xs.map eI).length : Nat))) = _
    rw [List.length_map]
    rfl
  · show intN (some (.int ((xs.map eI).length : Nat))) = _
    rw [List.length_map]
    rfl
theorem pick_i {α : Type} (xs : List α) (r : Int) (h0 : 0 ≤ r) (h1 : r < (xs.length : Int)) : ∃ a, a ∈ xs ∧ idx xs r = .ok a := by
  obtain ⟨i, rfl⟩ := Int.eq_ofNat_of_zero_le h0
  have hi : i < xs.length := by omega
  exact ⟨xs[i], List.getElem_mem hi, idx_at hi⟩
end NP
set_option Elab.async false
set_option linter.all false
set_option maxRecDepth 100000
set_option maxHeartbeats 4000000
namespace K01
open PySem L2 DL LW NT NW NP
def wh (d : D) : Bool := isIntD d && !isBoolD d
theorem whole_n (d : D) : n_is_whole d = .ok (wh d) := rfl
theorem wh_int {d : D} (h : wh d = true) : ∃ i, d = .int i := by
  cases d with
  | int i => exact ⟨i, rfl⟩
  | none => cases h
  | bool _ => cases h
  | str _ => cases h
  | list _ => cases h
  | tuple _ => cases h
  | dict _ => cases h
def who (d : D) : Bool := isNone d || wh d
theorem who_opt {d : D} (h : who d = true) : d = .none ∨ ∃ i, d = .int i := by
  cases d with
  | none => exact .inl rfl
  | int i => exact .inr ⟨i, rfl⟩
  | bool _ => cases h
  | str _ => cases h
  | list _ => cases h
  | tuple _ => cases h
  | dict _ => cases h
theorem ints_all : ∀ xs : List D, xs.all wh = true → ∃ os : List Int, intsOf xs = some os ∧ os.length = xs.length
  | [], _ => ⟨[], rfl, rfl⟩
  | x :: xs, h => by
    rw [List.all_cons, Bool.and_eq_true] at h
    obtain ⟨i, rfl⟩ := wh_int h.1
    obtain ⟨os, e, l⟩ := ints_all xs h.2
    exact ⟨i :: os, by simp [intsOf, e], by simp [l]⟩
theorem opts_all : ∀ xs : List D, xs.all who = true → ∃ os : List (Option Int), optsOf xs = some os ∧ os.length = xs.length
  | [], _ => ⟨[], rfl, rfl⟩
  | x :: xs, h => by
    rw [List.all_cons, Bool.and_eq_true] at h
    obtain ⟨os, e, l⟩ := opts_all xs h.2
    rcases who_opt h.1 with rfl | ⟨i, rfl⟩
    · exact ⟨none :: os, by simp [optsOf, e], by simp [l]⟩
    · exact ⟨some i :: os, by simp [optsOf, e], by simp [l]⟩
def brk2 (xs ys : List D) : Bool := match intsOf xs, optsOf ys with
  | some os, some ms => (brkO os ms).isNone
  | _, _ => false
def okL (xs ys : List D) : Bool := decide (1 ≤ xs.length) && (decide (xs.length ≤ 400) && decide (ys.length = xs.length))
def isSk (d : D) : Bool := match d with
  | .tuple [.tuple xs, .tuple ys] => okL xs ys && (xs.all wh && (ys.all who && brk2 xs ys))
  | _ => false
theorem isSk_n (d : D) : n_is_skin_D d = .ok (isSk d) := by
  unfold n_is_skin_D
  match d with
  | .none => rfl
  | .bool _ => rfl
  | .int _ => rfl
  | .str _ => rfl
  | .list _ => rfl
  | .dict _ => rfl
  | .tuple [] => rfl
  | .tuple [x] =>
    have h : decide ((([x].length : Nat) : Int) = 2) = false := rfl
    simp only [isTupD, intN, fLen, ct_ok, h, Bool.not_true, Bool.not_false, Bool.false_eq_true, if_false, if_true, fn_rt]
    cases x <;> rfl
  | .tuple (x :: y :: c :: r) =>
    have h : decide ((((x :: y :: c :: r).length : Nat) : Int) = 2) = false := decide_eq_false (by simp; omega)
    simp only [isTupD, intN, fLen, ct_ok, h, Bool.not_true, Bool.not_false, Bool.false_eq_true, if_false, if_true, fn_rt]
    cases x <;> cases y <;> rfl
  | .tuple [x, y] =>
    have h : decide ((([x, y].length : Nat) : Int) = 2) = true := rfl
    have u : unP2 (.tuple [x, y]) = .ok (x, y) := rfl
    simp only [isTupD, intN, fLen, ct_ok, h, u, Bool.not_true, Bool.not_false, Bool.false_eq_true, if_false, fn_rt]
    cases x with
    | tuple xs =>
      cases y with
      | tuple ys =>
        have c1 : lcP (fun behind0 => ((n_is_whole behind0).ct fun r0 => .rt r0 : Ct Unit Unit Bool)) xs = if xs.length ≤ 100000 then .ok (xs.map wh) else .stuck := by
          by_cases l : xs.length ≤ 100000
          · rw [if_pos l]; exact lcP_map xs l fun a _ => by rw [whole_n]; rfl
          · rw [if_neg l]; unfold lcP; rw [if_neg l]
        have c2 : lcP (fun mate0 => ((Ct.fn ((if (isNone mate0) = true then .rt true else (n_is_whole mate0).ct fun r1 => .rt r1) : Ct Unit Unit Bool)).ct fun b2 => .rt b2 : Ct Unit Unit Bool)) ys = if ys.length ≤ 100000 then .ok (ys.map who) else .stuck := by
          by_cases l : ys.length ≤ 100000
          · rw [if_pos l]
            refine lcP_map ys l fun a _ => ?_
            unfold who
            cases q : isNone a with
            | true => simp
            | false => simp [whole_n]
          · rw [if_neg l]; unfold lcP; rw [if_neg l]
        show _ = NT.N.ok (okL xs ys && (xs.all wh && (ys.all who && brk2 xs ys)))
        unfold okL
        by_cases a1 : 1 ≤ xs.length
        · by_cases a2 : xs.length ≤ 400
          · by_cases a3 : ys.length = xs.length
            · have e1 : decide ((xs.length : Int) < 1) = false := decide_eq_false (by omega)
              have e2 : decide ((400 : Int) < (xs.length : Int)) = false := decide_eq_false (by omega)
              have e3 : decide ((ys.length : Int) = (xs.length : Int)) = true := decide_eq_true (by omega)
              have al : ∀ (f : D → Bool) (zs : List D), (zs.map f).all id = zs.all f := fun f zs => by rw [List.all_map]; rfl
              simp only [isTupD, Bool.not_true, Bool.or_self, Bool.false_eq_true, if_false, intN, fLen, ct_ok, e1, e2, e3, fn_rt, seqS, ofO_some, c1, c2, if_pos (show xs.length ≤ 100000 by omega), if_pos (show ys.length ≤ 100000 by omega), al, decide_eq_true a1, decide_eq_true a2, decide_eq_true a3, Bool.true_and]
              cases q1 : xs.all wh with
              | false => simp
              | true =>
                cases q2 : ys.all who with
                | false => simp
                | true =>
                  obtain ⟨os, i1, i2⟩ := ints_all xs q1
                  obtain ⟨ms, j1, j2⟩ := opts_all ys q2
                  have b := broken_n os ms (by omega) (by omega)
                  have t1 : unTI (.tuple xs) = .ok os := by show ofO (intsOf xs) = _; rw [i1]; rfl
                  have t2 : unTO (.tuple ys) = .ok ms := by show ofO (optsOf ys) = _; rw [j1]; rfl
                  simp only [Bool.not_true, Bool.false_eq_true, if_false, t1, t2, ct_ok, b, fn_rt, Bool.true_and, brk2, i1, j1]
            · have e1 : decide ((xs.length : Int) < 1) = false := decide_eq_false (by omega)
              have e2 : decide ((400 : Int) < (xs.length : Int)) = false := decide_eq_false (by omega)
              have e3 : decide ((ys.length : Int) = (xs.length : Int)) = false := decide_eq_false (by omega)
              simp only [isTupD, Bool.not_true, Bool.not_false, Bool.or_self, Bool.false_eq_true, if_false, if_true, intN, fLen, ct_ok, e1, e2, e3, fn_rt, decide_eq_true a1, decide_eq_true a2, decide_eq_false a3, Bool.false_and, Bool.true_and]
          · have e1 : decide ((xs.length : Int) < 1) = false := decide_eq_false (by omega)
            have e2 : decide ((400 : Int) < (xs.length : Int)) = true := decide_eq_true (by omega)
            simp only [isTupD, Bool.not_true, Bool.not_false, Bool.or_self, Bool.false_eq_true, if_false, if_true, intN, fLen, ct_ok, e1, e2, fn_rt, decide_eq_true a1, decide_eq_false a2, Bool.false_and, Bool.true_and]
        · have e1 : decide ((xs.length : Int) < 1) = true := decide_eq_true (by omega)
          simp only [isTupD, Bool.not_true, Bool.not_false, Bool.or_self, Bool.false_eq_true, if_false, if_true, intN, fLen, ct_ok, e1, fn_rt, decide_eq_false a1, Bool.false_and, Bool.true_and]
      | _ => rfl
    | _ => cases y <;> rfl
theorem loop_n : ∀ L : List D, (forC (fun number0 => fun (_ : Unit) => ((if ((!(isIntD number0)) || (isBoolD number0)) = true then .rt false else .nx ()) : Ct Unit Unit Bool)) L () : Ct Unit Unit Bool) = if L.all wh = true then .nx () else .rt false
  | [] => rfl
  | x :: L => by
    rw [forC_cons, List.all_cons]
    have e : ((!(isIntD x)) || (isBoolD x)) = !(wh x) := by unfold wh; cases isIntD x <;> cases isBoolD x <;> rfl
    rw [e]
    cases q : wh x with
    | false => rfl
    | true =>
      simp only [Bool.not_true, Bool.false_eq_true, if_false, again_nx, Bool.true_and]
      exact loop_n L
theorem filt_n : ∀ ys : List D, (ys.filter fun d => !(isNone d)).all wh = ys.all who
  | [] => rfl
  | y :: ys => by
    rw [List.filter_cons, List.all_cons]
    unfold who
    cases q : isNone y with
    | true => simpa using filt_n ys
    | false =>
      simp only [Bool.not_false, if_true, List.all_cons, Bool.false_or]
      rw [filt_n ys]
      rfl
theorem isLaw_n (d : D) : n__law_is_skin d = .ok (isSk d) := by
  unfold n__law_is_skin
  match d with
  | .none => rfl
  | .bool _ => rfl
  | .int _ => rfl
  | .str _ => rfl
  | .list _ => rfl
  | .dict _ => rfl
  | .tuple [] => rfl
  | .tuple [x] =>
    have h : decide ((([x].length : Nat) : Int) = 2) = false := rfl
    simp only [isTupD, intN, fLen, ct_ok, h, Bool.not_true, Bool.not_false, Bool.false_eq_true, if_false, if_true, fn_rt]
    cases x <;> rfl
  | .tuple (x :: y :: c :: r) =>
    have h : decide ((((x :: y :: c :: r).length : Nat) : Int) = 2) = false := decide_eq_false (by simp; omega)
    simp only [isTupD, intN, fLen, ct_ok, h, Bool.not_true, Bool.not_false, Bool.false_eq_true, if_false, if_true, fn_rt]
    cases x <;> cases y <;> rfl
  | .tuple [x, y] =>
    have h : decide ((([x, y].length : Nat) : Int) = 2) = true := rfl
    have u : lcP (fun part0 => (.rt (isTupD part0) : Ct Unit Unit Bool)) [x, y] = .ok [isTupD x, isTupD y] := lcP_map [x, y] (by simp) fun _ _ => rfl
    have i0 : dIx (.tuple [x, y]) (eI (0 : Int)) = some x := rfl
    have i1 : dIx (.tuple [x, y]) (eI (1 : Int)) = some y := rfl
    have sq : seqS (.tuple [x, y]) = some [x, y] := rfl
    have it : isTupD (.tuple [x, y]) = true := rfl
    simp only [it, intN, fLen, ct_ok, h, u, sq, ofO_some, Bool.not_true, Bool.not_false, Bool.false_eq_true, if_false, fn_rt]
    cases x with
    | tuple xs =>
      cases y with
      | tuple ys =>
        show _ = NT.N.ok (okL xs ys && (xs.all wh && (ys.all who && brk2 xs ys)))
        have b0 : (!([isTupD (.tuple xs), isTupD (.tuple ys)] : List Bool).all id) = false := rfl
        unfold okL
        by_cases a1 : 1 ≤ xs.length
        · by_cases a2 : xs.length ≤ 400
          · by_cases a3 : ys.length = xs.length
            · have e1 : decide ((xs.length : Int) < 1) = false := decide_eq_false (by omega)
              have e2 : decide ((400 : Int) < (xs.length : Int)) = false := decide_eq_false (by omega)
              have e3 : decide ((ys.length : Int) = (xs.length : Int)) = true := decide_eq_true (by omega)
              have c3 : lcP (fun mate0 => ((if (!(isNone mate0)) = true then .rt mate0 else .nx ()) : Ct Unit Unit D)) ys = .ok (ys.filter fun d => !(isNone d)) := by
                rw [lcP_fm (p := fun d => !(isNone d)) (g := fun d => d) ys (by omega) fun _ _ => rfl, List.map_id']
              have fl : (ys.filter fun d => !(isNone d)).length ≤ ys.length := List.length_filter_le ..
              have ad : dAdd (.tuple xs) ((eTs eD) (ys.filter fun d => !(isNone d))) = some (.tuple (xs ++ ys.filter fun d => !(isNone d))) := by
                show (if xs.length + ((ys.filter fun d => !(isNone d)).map eD).length ≤ 100000 then some (PyData.tuple (xs ++ (ys.filter fun d => !(isNone d)).map eD)) else none) = _
                rw [map_eD, if_pos (by omega)]
              simp only [i0, i1, b0, Bool.not_true, Bool.false_eq_true, if_false, intN, fLen, ct_ok, e1, e2, e3, fn_rt, seqS, ofO_some, c3, ad, loop_n, List.all_append, filt_n, decide_eq_true a1, decide_eq_true a2, decide_eq_true a3, Bool.true_and]
              cases q1 : xs.all wh with
              | false => simp
              | true =>
                cases q2 : ys.all who with
                | false => simp
                | true =>
                  obtain ⟨os, i1, i2⟩ := ints_all xs q1
                  obtain ⟨ms, j1, j2⟩ := opts_all ys q2
                  have b := lawbroken_t os ms (by omega) (by omega)
                  have t1 : unTI (.tuple xs) = .ok os := by show ofO (intsOf xs) = _; rw [i1]; rfl
                  have t2 : unTO (.tuple ys) = .ok ms := by show ofO (optsOf ys) = _; rw [j1]; rfl
                  simp only [Bool.and_self, if_true, sq_nx, t1, t2, ct_ok, b, fn_rt, Bool.true_and, brk2, i1, j1]
            · have e1 : decide ((xs.length : Int) < 1) = false := decide_eq_false (by omega)
              have e2 : decide ((400 : Int) < (xs.length : Int)) = false := decide_eq_false (by omega)
              have e3 : decide ((ys.length : Int) = (xs.length : Int)) = false := decide_eq_false (by omega)
              simp only [i0, i1, b0, ofO_some, Bool.not_true, Bool.not_false, Bool.false_eq_true, if_false, if_true, intN, fLen, ct_ok, e1, e2, e3, fn_rt, decide_eq_true a1, decide_eq_true a2, decide_eq_false a3, Bool.false_and, Bool.true_and]
          · have e1 : decide ((xs.length : Int) < 1) = false := decide_eq_false (by omega)
            have e2 : decide ((400 : Int) < (xs.length : Int)) = true := decide_eq_true (by omega)
            simp only [i0, i1, b0, ofO_some, Bool.not_true, Bool.not_false, Bool.false_eq_true, if_false, if_true, intN, fLen, ct_ok, e1, e2, fn_rt, decide_eq_true a1, decide_eq_false a2, Bool.false_and, Bool.true_and]
        · have e1 : decide ((xs.length : Int) < 1) = true := decide_eq_true (by omega)
          simp only [i0, i1, b0, ofO_some, Bool.not_true, Bool.not_false, Bool.false_eq_true, if_false, if_true, intN, fLen, ct_ok, e1, fn_rt, decide_eq_false a1, Bool.false_and, Bool.true_and]
      | _ => rfl
    | _ => cases y <;> rfl
abbrev oddA : List D := [(eI (-1 : Int)), (eI (0 : Int)), (eI (1 : Int)), (eI (2 : Int)), (eI (400 : Int)), (eI (401 : Int)), (eB true), (eB false), (eU ()), (eS ("" : Str)), (eS ("0" : Str)), (PyData.tuple []), (PyData.tuple [(eI (0 : Int))]), (PyData.tuple [(eU ())]), (PyData.tuple [(PyData.tuple [(eI (0 : Int))]), (PyData.tuple [(eU ())])]), (PyData.tuple [(PyData.tuple [(eI (0 : Int))]), (PyData.tuple [(eI (0 : Int))])]), (PyData.list [(eI (0 : Int))])]
abbrev oddB : List D := [(PyData.tuple [(PyData.tuple []), (PyData.tuple [])]), (PyData.tuple [(PyData.list [(eI (0 : Int))]), (PyData.tuple [(eU ())])]), (PyData.tuple [(PyData.tuple [(eI (0 : Int))]), (PyData.list [(eU ())])]), (PyData.tuple [(PyData.tuple [(eI (0 : Int)), (eI (1 : Int))]), (PyData.tuple [(eI (1 : Int)), (eI (0 : Int))])]), (PyData.tuple [(PyData.tuple [(eI (1 : Int)), (eI (0 : Int))]), (PyData.tuple [(eI (1 : Int)), (eI (0 : Int))])]), (PyData.tuple [(PyData.tuple [(eI (0 : Int)), (eI (1 : Int))]), (PyData.tuple [(eI (1 : Int))])])]
abbrev odds : List D := oddA ++ oddB
def Wd (m : Nat) : Nat → D → Prop
  | 0, d => shD 5 d
  | j + 1, d => shD (6 + j) d ∧ ∀ ds, d = .tuple ds → ds.length ≤ m ∧ ∀ x, x ∈ ds → Wd m j x
theorem Wd.sh {m : Nat} : ∀ {j : Nat} {d : D}, Wd m j d → shD (5 + j) d
  | 0, _, h => h
  | j + 1, _, h => by rw [show 5 + (j + 1) = 6 + j by omega]; exact h.1
theorem Wd.mono {m m' : Nat} (hm : m ≤ m') : ∀ {j : Nat} {d : D}, Wd m j d → Wd m' j d
  | 0, _, h => h
  | j + 1, _, h => ⟨h.1, fun ds e => ⟨Nat.le_trans (h.2 ds e).1 hm, fun x hx => Wd.mono hm ((h.2 ds e).2 x hx)⟩⟩
def cW (m : Nat) : Nat → D → Bool
  | 0, d => d.canLay0 && decide (d.depth ≤ 5)
  | j + 1, d => (d.canLay0 && decide (d.depth ≤ 6 + j)) && match d with
    | .tuple ds => decide (ds.length ≤ m) && ds.all (cW m j)
    | _ => true
theorem cW_ok {m : Nat} : ∀ {j : Nat} {d : D}, cW m j d = true → Wd m j d
  | 0, d, h => by
    unfold cW at h
    rw [Bool.and_eq_true] at h
    exact ⟨h.1, of_decide_eq_true h.2⟩
  | j + 1, d, h => by
    unfold cW at h
    rw [Bool.and_eq_true, Bool.and_eq_true] at h
    refine ⟨⟨h.1.1, of_decide_eq_true h.1.2⟩, fun ds e => ?_⟩
    subst e
    have h2 := h.2
    rw [Bool.and_eq_true] at h2
    exact ⟨of_decide_eq_true h2.1, fun x hx => cW_ok (List.all_eq_true.1 h2.2 x hx)⟩
theorem odds_W : ∀ j, j ∈ [0, 1, 2] → ∀ d, d ∈ odds → cW 2 j d = true := by decide +kernel
theorem odd_n (s : Int × Int) : ∃ d s', n__law_odd (bg s) = .ok (d, bg s') ∧ d ∈ odds := by
  obtain ⟨r, s', a, b, t⟩ := take_n s ((odds.length : Nat) : Int) (by decide +kernel) (by decide +kernel)
  obtain ⟨d, md, ed⟩ := pick_i odds r a b
  refine ⟨d, s', ?_, md⟩
  have g : catG oddA oddB = .ok () := by rfl
  unfold n__law_odd
  simp only [g, ct_ok, t, P2, ed, fn_rt]
theorem odd_W {m j : Nat} (hm : 2 ≤ m) (hj : j ≤ 2) {d : D} (h : d ∈ odds) : Wd m j d := (cW_ok (odds_W j (by simp; omega) d h)).mono hm
theorem tup_W {m j : Nat} {ds : List D} (hl : ds.length ≤ m) (h : ∀ x, x ∈ ds → Wd m j x) : Wd m (j + 1) (.tuple ds) := by
  refine ⟨?_, fun es e => by cases e; exact ⟨hl, h⟩⟩
  rw [show 6 + j = (5 + j) + 1 by omega]
  exact shD_tup fun x hx => (h x hx).sh
theorem sl_D (ds : List D) (lo hi : Option Int) : dSl (.tuple ds) lo hi = some (.tuple (cutL ds lo hi)) := by
  have e : ∀ xs : List D, eTs eD xs = .tuple xs := fun xs => congrArg PyData.tuple (map_eD xs)
  have := sl_T (f := eD) ds lo hi
  rwa [e, e] at this
theorem mid_n {α : Type} (xs : List α) (k : Nat) : (∀ x, x ∈ cutL xs (some (k : Int)) (some ((k : Int) + 2)) → x ∈ xs) ∧ (cutL xs (some (k : Int)) (some ((k : Int) + 2))).length ≤ 2 := by
  unfold cutL
  refine ⟨fun x hx => List.mem_of_mem_drop (List.mem_of_mem_take hx), ?_⟩
  rw [show ((k : Int) + 2) = ((k + 2 : Nat) : Int) by omega, HT.sIx_nat, HT.sIx_nat, List.length_take]
  omega
theorem add_D {xs ys : List D} (h : xs.length + ys.length ≤ 90000) : dAdd (.tuple xs) (.tuple ys) = some (.tuple (xs ++ ys)) := if_pos (by omega)
theorem rep_n {m : Nat} (hm : m ≤ 1000) (hm2 : 2 ≤ m) : ∀ j, j ≤ 2 → ∀ f, j < f → ∀ (s : Int × Int) (d : D), Wd m j d → ∃ d' s', n__law_replaced f (bg s) d (j : Int) = .ok (d', bg s') ∧ Wd (m + 1) j d' := by
  intro j
  induction j with
  | zero =>
    intro _ f hf s d _
    obtain ⟨d', s', e, md⟩ := odd_n s
    refine ⟨d', s', ?_, odd_W (by omega) (by omega) md⟩
    cases f with
    | zero => omega
    | succ f =>
      have c : decide (((0 : Nat) : Int) = 0) = true := rfl
      simp only [n__law_replaced, c, if_true, fn_rt, ct_ok, P2, e]
  | succ j ih =>
    intro hj f hf s d W
    cases f with
    | zero => omega
    | succ f =>
      have c : decide (((j + 1 : Nat) : Int) = 0) = false := decide_eq_false (by omega)
      by_cases tp : isTupD d = true
      · obtain ⟨ds, rfl⟩ : ∃ ds, d = .tuple ds := by
          cases d with
          | tuple ds => exact ⟨ds, rfl⟩
          | none => cases tp
          | bool _ => cases tp
          | int _ => cases tp
          | str _ => cases tp
          | list _ => cases tp
          | dict _ => cases tp
        obtain ⟨hl, hx⟩ := W.2 ds rfl
        have sd : SeqAt.shaped (.tuple ds) = true := shaped_of (by omega) W.sh
        cases ds with
        | nil =>
          have q : eqN (.tuple []) (.tuple []) = .ok true := by kernel_rfl
          obtain ⟨d', s', e, md⟩ := odd_n s
          refine ⟨d', s', ?_, odd_W (by omega) (by omega) md⟩
          simp only [n__law_replaced, c, Bool.false_eq_true, if_false, tp, Bool.not_true, q, ct_ok, if_true, fn_rt, P2, e]
        | cons x0 r0 =>
          generalize hds : x0 :: r0 = ds at *
          have q : eqN (.tuple ds) (.tuple []) = .ok false := by
            unfold eqN
            rw [if_pos ⟨sd, by decide +kernel⟩, ← hds]
            rfl
          have hn : 1 ≤ ds.length := by rw [← hds]; simp
          obtain ⟨r1, s1, a1, b1, t1⟩ := take_n s 6 (by decide) (by decide)
          by_cases c1 : r1 = 0
          · obtain ⟨d', s', e, md⟩ := odd_n s1
            refine ⟨d', s', ?_, odd_W (by omega) (by omega) md⟩
            simp only [n__law_replaced, c, Bool.false_eq_true, if_false, tp, Bool.not_true, q, ct_ok, t1, decide_eq_true c1, if_true, fn_rt, P2, e]
          · have fl : intN (fLen [.tuple ds]) = .ok (ds.length : Int) := rfl
            obtain ⟨r2, s2, a2, b2, t2⟩ := take_n s1 (ds.length : Int) (by omega) (by omega)
            obtain ⟨r3, s3, a3, b3, t3⟩ := take_n s2 9 (by decide) (by decide)
            obtain ⟨k, rfl⟩ := Int.eq_ofNat_of_zero_le a2
            have hk : k < ds.length := by omega
            have ix : dIx (.tuple ds) (eI (k : Int)) = some ds[k] := by
              have := idx_at hk
              exact ofO_ok this
            have g0 : dSl (.tuple ds) none (some (k : Int)) = some (.tuple (ds.take k)) := by rw [sl_D, cutL_take]
            have g1 : dSl (.tuple ds) (some ((k : Int) + 1)) none = some (.tuple (ds.drop (k + 1))) := by rw [sl_D, show ((k : Int) + 1) = ((k + 1 : Nat) : Int) by omega, cutL_drop]
            have g2 : dSl (.tuple ds) (some (k : Int)) none = some (.tuple (ds.drop k)) := by rw [sl_D, cutL_drop]
            have g3 : dSl (.tuple ds) (some ((k : Int) + 2)) none = some (.tuple (ds.drop (k + 2))) := by rw [sl_D, show ((k : Int) + 2) = ((k + 2 : Nat) : Int) by omega, cutL_drop]
            obtain ⟨m1, m2⟩ := mid_n ds k
            have g4 : dSl (.tuple ds) (some (k : Int)) (some ((k : Int) + 2)) = some (.tuple (cutL ds (some (k : Int)) (some ((k : Int) + 2)))) := sl_D _ _ _
            have up : ∀ x, x ∈ ds → Wd (m + 1) j x := fun x h => (hx x h).mono (by omega)
            have ut : ∀ i x, x ∈ ds.take i → Wd (m + 1) j x := fun i x h => up x (List.mem_of_mem_take h)
            have ud : ∀ i x, x ∈ ds.drop i → Wd (m + 1) j x := fun i x h => up x (List.mem_of_mem_drop h)
            have one : ∀ y : D, (eTs eD) [y] = .tuple [y] := fun _ => rfl
            have base : ∀ z, Wd (m + 1) (j + 1) z → ∀ M : N (D × List Int), M = .ok (z, bg s3) → ∃ d' s', M = .ok (d', bg s') ∧ Wd (m + 1) (j + 1) d' := fun z w M e => ⟨z, s3, e, w⟩
            by_cases h0 : r3 = 0
            · refine base (.tuple (ds.take k ++ ds.drop (k + 1))) (tup_W (by simp; omega) fun x h => (List.mem_append.1 h).elim (ut k x) (ud (k + 1) x)) _ ?_
              simp only [n__law_replaced, c, Bool.false_eq_true, if_false, tp, Bool.not_true, q, ct_ok, t1, decide_eq_false c1, fn_rt, P2, fl, t2, t3, decide_eq_true h0, if_true, g0, g1, ofO_some, add_D (show (ds.take k).length + (ds.drop (k + 1)).length ≤ 90000 by simp; omega)]
            · by_cases h1 : r3 = 1
              · refine base (.tuple ((ds.take k ++ [ds[k]]) ++ ds.drop k)) (tup_W (by simp; omega) fun x h => ?_) _ ?_
                · rcases List.mem_append.1 h with h | h
                  · rcases List.mem_append.1 h with h | h
                    · exact ut k x h
                    · rw [List.mem_singleton.1 h]; exact up _ (List.getElem_mem hk)
                  · exact ud k x h
                · simp only [n__law_replaced, c, Bool.false_eq_true, if_false, tp, Bool.not_true, q, ct_ok, t1, decide_eq_false c1, fn_rt, P2, fl, t2, t3, decide_eq_false h0, decide_eq_true h1, if_true, g0, g2, ix, one, ofO_some, add_D (show (ds.take k).length + ([ds[k]] : List D).length ≤ 90000 by simp; omega), add_D (show (ds.take k ++ [ds[k]]).length + (ds.drop k).length ≤ 90000 by simp; omega)]
              · by_cases h2 : r3 = 2
                · refine base ((eLs eD) ds) ⟨?_, fun es e => by cases e⟩ _ ?_
                  · rw [show 6 + j = (5 + j) + 1 by omega]
                    exact shD_lst fun x hx' => by rw [map_eD] at hx'; exact (up x hx').sh
                  · have fi : fList [.tuple ds] = some ds := rfl
                    simp only [n__law_replaced, c, Bool.false_eq_true, if_false, tp, Bool.not_true, q, ct_ok, t1, decide_eq_false c1, fn_rt, P2, fl, t2, t3, decide_eq_false h0, decide_eq_false h1, decide_eq_true h2, if_true, fi, ofO_some]
                · by_cases h3 : r3 = 3
                  · have rv : revO (.tuple (cutL ds (some (k : Int)) (some ((k : Int) + 2)))) = some (.tuple (cutL ds (some (k : Int)) (some ((k : Int) + 2))).reverse) := rfl
                    generalize cutL ds (some (k : Int)) (some ((k : Int) + 2)) = mid at *
                    refine base (.tuple ((ds.take k ++ mid.reverse) ++ ds.drop (k + 2))) (tup_W (by simp; omega) fun x h => ?_) _ ?_
                    · rcases List.mem_append.1 h with h | h
                      · rcases List.mem_append.1 h with h | h
                        · exact ut k x h
                        · exact up x (m1 x (List.mem_reverse.1 h))
                      · exact ud (k + 2) x h
                    · simp only [n__law_replaced, c, Bool.false_eq_true, if_false, tp, Bool.not_true, q, ct_ok, t1, decide_eq_false c1, fn_rt, P2, fl, t2, t3, decide_eq_false h0, decide_eq_false h1, decide_eq_false h2, decide_eq_true h3, if_true, g0, g3, g4, rv, ofO_some, add_D (show (ds.take k).length + mid.reverse.length ≤ 90000 by simp; omega), add_D (show (ds.take k ++ mid.reverse).length + (ds.drop (k + 2)).length ≤ 90000 by simp; omega)]
                  · obtain ⟨y, s4, ey, wy⟩ := ih (by omega) f (by omega) s3 ds[k] (hx _ (List.getElem_mem hk))
                    have dm : (((j + 1 : Nat) : Int) - 1) = (j : Int) := by omega
                    refine ⟨.tuple ((ds.take k ++ [y]) ++ ds.drop (k + 1)), s4, ?_, tup_W (by simp; omega) fun x h => ?_⟩
                    · simp only [n__law_replaced, c, Bool.false_eq_true, if_false, tp, Bool.not_true, q, ct_ok, t1, decide_eq_false c1, fn_rt, P2, fl, t2, t3, decide_eq_false h0, decide_eq_false h1, decide_eq_false h2, decide_eq_false h3, g0, g1, ix, one, dm, ey, ofO_some, add_D (show (ds.take k).length + ([y] : List D).length ≤ 90000 by simp; omega), add_D (show (ds.take k ++ [y]).length + (ds.drop (k + 1)).length ≤ 90000 by simp; omega)]
                    · rcases List.mem_append.1 h with h | h
                      · rcases List.mem_append.1 h with h | h
                        · exact ut k x h
                        · rw [List.mem_singleton.1 h]; exact wy
                      · exact ud (k + 1) x h
      · have tp : isTupD d = false := by simpa using tp
        obtain ⟨d', s', e, md⟩ := odd_n s
        refine ⟨d', s', ?_, odd_W (by omega) (by omega) md⟩
        simp only [n__law_replaced, c, Bool.false_eq_true, if_false, tp, Bool.not_false, if_true, fn_rt, ct_ok, P2, e]
end K01
set_option Elab.async false
set_option linter.all false
set_option maxRecDepth 100000
set_option maxHeartbeats 4000000
namespace K01
open PySem L2 DL LW NT NW NP
theorem allI (L : List Int) : (L.map eI).all wh = true := List.all_eq_true.2 fun x hx => by
  obtain ⟨i, _, rfl⟩ := List.mem_map.1 hx
  rfl
theorem allO (L : List (Option Int)) : (L.map (eO eI)).all who = true := List.all_eq_true.2 fun x hx => by
  obtain ⟨i, _, rfl⟩ := List.mem_map.1 hx
  cases i <;> rfl
theorem opts_eO : ∀ L : List (Option Int), optsOf (L.map (eO eI)) = some L
  | [] => rfl
  | none :: L => by
    show (optsOf (L.map (eO eI))).map (none :: ·) = _
    rw [opts_eO L]; rfl
  | some i :: L => by
    show (optsOf (L.map (eO eI))).map (some i :: ·) = _
    rw [opts_eO L]; rfl
theorem brk_none {os : List Int} {ms : List (Option Int)} {n : Nat} (l1 : os.length = n) (l2 : ms.length = n) (h1 : ∀ i (h : i < os.length), 0 ≤ os[i] ∧ os[i] < (n : Int)) (h2 : ∀ i j (hi : i < os.length) (hj : j < i), os[j]'(by omega) ≠ os[i])
    (h3 : ∀ i (h : i < ms.length), badM ms n i ms[i] = false) : brkO os ms = none := by
  unfold brkO
  rw [List.find?_eq_none.2 fun i hi => ?_]
  · rfl
  · have hi := List.mem_range.1 hi
    rw [bad_at hi (by omega), l1, h3 i (by omega)]
    obtain ⟨a, b⟩ := h1 i hi
    have c : ¬ os[i] ∈ os.take i := fun m => by
      obtain ⟨j, hj, e⟩ := List.getElem_of_mem m
      rw [List.length_take] at hj
      rw [List.getElem_take] at e
      exact h2 i j hi (by omega) e
    rw [decide_eq_false (show ¬ os[i] < 0 by omega), decide_eq_false (show ¬ (n : Int) ≤ os[i] by omega), decide_eq_false c]
    simp
theorem isSk_typed {os : List Int} {ms : List (Option Int)} (h1 : 1 ≤ os.length) (h2 : os.length ≤ 400) (h3 : ms.length = os.length) : isSk (.tuple [(eTs eI) os, (eTs (eO eI)) ms]) = (brkO os ms).isNone := by
  show (okL (os.map eI) (ms.map (eO eI)) && ((os.map eI).all wh && ((ms.map (eO eI)).all who && brk2 (os.map eI) (ms.map (eO eI))))) = _
  unfold okL brk2
  rw [allI, allO, intsOf_eI, opts_eO]
  simp [h1, h2, h3]
theorem skin_brk {n : Nat} {on : List Nat} {ms : List (Option Nat)} (S : SkinP n on ms) : brkO (nI on) (oI ms) = none := by
  have lo : on.length = n := by rw [S.perm.length_eq]; simp
  have nd : on.Nodup := S.perm.nodup_iff.2 List.nodup_range
  refine brk_none (n := n) (by simp [lo]) (by simp [S.len]) (fun i h => ?_) (fun i j hi hj => ?_) fun i h => ?_
  · have hm : on[i]'(by simpa using h) ∈ on := List.getElem_mem _
    have := List.mem_range.1 (S.perm.mem_iff.1 hm)
    simp
    omega
  · simp only [List.length_map] at hi
    simp only [List.getElem_map]
    intro e
    have e : on[j]'(by omega) = on[i] := by omega
    have := (List.getElem_inj nd).1 e
    omega
  · simp only [List.length_map] at h
    simp only [List.getElem_map]
    cases q : ms[i] with
    | none => rfl
    | some j =>
      obtain ⟨a, b, c⟩ := S.mate i j (by rw [List.getElem?_eq_getElem h, q])
      show (decide ((j : Int) < 0) || (decide ((n : Int) ≤ (j : Int)) || (decide ((j : Int) = (i : Int)) || !decide ((oI ms)[(j : Int).toNat]? = some (some (i : Int)))))) = false
      have d : (oI ms)[(j : Int).toNat]? = some (some (i : Int)) := by
        rw [Int.toNat_natCast, List.getElem?_map, c]
        rfl
      rw [decide_eq_false (by omega), decide_eq_false (by omega), decide_eq_false (by omega), decide_eq_true d]
      rfl
theorem truths_n {on : List Nat} (h : on.length ≤ 1000) : ∃ L, n__law_truths (nI on) = .ok L ∧ (0 ∈ on → (L.map eD).all wh = false) := by
  refine ⟨(nI on).map fun o => if memB o [(0 : Int), (1 : Int)] = true then eB (decide (o = 1)) else eI o, ?_, fun h0 => ?_⟩
  · unfold n__law_truths
    rw [lcP_map (g := fun o => if memB o [(0 : Int), (1 : Int)] = true then eB (decide (o = 1)) else eI o) (nI on) (by simp; omega) fun _ _ => rfl]
    rfl
  · rw [map_eD]
    refine List.all_eq_false.2 ⟨eB false, List.mem_map.2 ⟨0, List.mem_map.2 ⟨0, h0, rfl⟩, rfl⟩, by decide⟩
theorem truths_o {ms : List (Option Nat)} (h : ms.length ≤ 1000) : ∃ L, n__law_truths_o (oI ms) = .ok L ∧ L.length = ms.length ∧
    ((memB (some (0 : Int)) (oI ms) = true ∨ memB (some (1 : Int)) (oI ms) = true) → (L.map eD).all who = false) ∧ (memB (some (0 : Int)) (oI ms) = false → memB (some (1 : Int)) (oI ms) = false → L = (oI ms).map (eO eI)) := by
  refine ⟨(oI ms).map fun o => if memB o [(some (0 : Int)), (some (1 : Int))] = true then eB (decide (o = some (1 : Int))) else (eO eI) o, ?_, by simp, fun h0 => ?_, fun a b => List.map_congr_left fun o ho => ?_⟩
  · unfold n__law_truths_o
    rw [lcP_map (g := fun o => if memB o [(some (0 : Int)), (some (1 : Int))] = true then eB (decide (o = some (1 : Int))) else (eO eI) o) (oI ms) (by simp; omega) fun _ _ => rfl]
    rfl
  · rw [map_eD]
    rcases h0 with h0 | h0
    · have h0 : some (0 : Int) ∈ oI ms := by simpa [memB] using h0
      exact List.all_eq_false.2 ⟨eB false, List.mem_map.2 ⟨_, h0, rfl⟩, by decide⟩
    · have h0 : some (1 : Int) ∈ oI ms := by simpa [memB] using h0
      exact List.all_eq_false.2 ⟨eB true, List.mem_map.2 ⟨_, h0, rfl⟩, by decide⟩
  · have a : some (0 : Int) ∉ oI ms := by simpa [memB] using a
    have b : some (1 : Int) ∉ oI ms := by simpa [memB] using b
    have c : memB o [(some (0 : Int)), (some (1 : Int))] = false := by
      have : o ≠ some 0 := fun e => a (e ▸ ho)
      have : o ≠ some 1 := fun e => b (e ▸ ho)
      simp [memB, *]
    rw [c]
    rfl
theorem wds {n : Nat} {on : List Nat} {ms : List (Option Nat)} (S : SkinP n on ms) (h1 : 1 ≤ n) (hn : n ≤ 400) : Wd 400 2 (.tuple [(eTs eI) (nI on), (eTs (eO eI)) (oI ms)]) := by
  have lo : on.length = n := by rw [S.perm.length_eq]; simp
  refine tup_W (by simp) fun x hx => ?_
  simp only [List.mem_cons, List.not_mem_nil, or_false] at hx
  rcases hx with rfl | rfl
  · refine tup_W (by simp; omega) fun y hy => ?_
    obtain ⟨i, _, rfl⟩ := List.mem_map.1 hy
    exact shD_int 5 i
  · refine tup_W (by simp [S.len]; omega) fun y hy => ?_
    obtain ⟨i, _, rfl⟩ := List.mem_map.1 hy
    cases i with
    | none => exact shD_none 5
    | some i => exact shD_int 5 i
theorem great_brk (n s : Int) (hn : n = 400) : brkO ((nI (List.range 400)).map fun h => (h + s) % n) (List.replicate 400 none) = none := by
  subst hn
  refine brk_none (n := 400) (by simp) (by simp) (fun i h => ?_) (fun i j hi hj => ?_) fun i h => ?_
  · simp only [List.getElem_map]
    omega
  · simp only [List.length_map, List.length_range] at hi
    simp only [List.getElem_map, List.getElem_range]
    omega
  · rw [List.getElem_replicate]
    rfl
theorem optsU (n : Nat) : optsOf ((List.replicate n ()).map eU) = some (List.replicate n none) ∧ ((List.replicate n ()).map eU).all who = true := by
  induction n with
  | zero => exact ⟨rfl, rfl⟩
  | succ n ih =>
    refine ⟨?_, ?_⟩
    · show (optsOf ((List.replicate n ()).map eU)).map (none :: ·) = _
      rw [ih.1]; rfl
    · rw [List.replicate_succ, List.map_cons, List.all_cons, ih.2]; rfl
theorem flat_u (n : Nat) : (List.replicate n [()]).flatten = List.replicate n () := by
  induction n with
  | zero => rfl
  | succ k ih => rw [List.replicate_succ, List.flatten_cons, ih]; rfl
theorem isSk_no {xs ys : List D} (h : okL xs ys = false) : isSk (.tuple [.tuple xs, .tuple ys]) = false := by
  show (okL xs ys && (xs.all wh && (ys.all who && brk2 xs ys))) = false
  rw [h]
  rfl
theorem law_n (ns : List Int) (h : ns.length ≤ 63) : n_law ns = .ok true := by
  suffices H : ∃ r, n_law ns = .ok r ∧ r = true by
    obtain ⟨r, a, b⟩ := H
    rw [a, b]
  unfold n_law
  refine W_fn ?_
  obtain ⟨N, hN, hN2⟩ : ∃ N : Nat, 1 + imin (ns.length : Int) 40 = (N : Int) ∧ N ≤ 41 := by
    unfold imin
    split
    · exact ⟨41, rfl, by omega⟩
    · exact ⟨1 + ns.length, by omega, by omega⟩
  simp only [hN, rngN_k (show N ≤ 1000000 by omega), ct_ok]
  refine W_cut (fun _ => True) ?_ (fun _ _ => ?_)
  · refine W_for (fun _ _ => True) trivial ?_ (fun _ _ => trivial)
    rintro i a _ hi _
    obtain ⟨hi1, rfl⟩ := range_at hi
    obtain ⟨s, hb⟩ := bag_n ns i (by omega)
    obtain ⟨r1, s1, a1, b1, t1⟩ := take_n s 8 (by decide) (by decide)
    obtain ⟨m, hm, hm1, hm2⟩ : ∃ m : Nat, idx [(20 : Int), 400] (b2i (decide (r1 = 0))) = .ok (m : Int) ∧ 1 ≤ m ∧ m ≤ 400 := by
      unfold b2i
      by_cases c : r1 = 0
      · exact ⟨400, by rw [decide_eq_true c]; rfl, by omega, by omega⟩
      · exact ⟨20, by rw [decide_eq_false c]; rfl, by omega, by omega⟩
    obtain ⟨_, hs, n, on, ms, s2, hn1, hn2, hS, rfl⟩ := skin_n s1 m hm1 (by omega)
    have lo : on.length = n := by rw [hS.perm.length_eq]; simp
    have z0 : 0 ∈ on := hS.perm.mem_iff.2 (List.mem_range.2 (by omega))
    have k1 : isSk (.tuple [(eTs eI) (nI on), (eTs (eO eI)) (oI ms)]) = true := by
      rw [isSk_typed (by simp; omega) (by simp; omega) (by simp [hS.len, lo]), skin_brk hS]; rfl
    obtain ⟨L, eL, pL⟩ := truths_n (on := on) (by omega)
    have k2 : isSk (.tuple [(eTs eD) L, (eTs (eO eI)) (oI ms)]) = false := by
      show (okL (L.map eD) ((oI ms).map (eO eI)) && ((L.map eD).all wh && _)) = false
      rw [pL z0]; simp
    obtain ⟨M, eM, lM, pM, qM⟩ := truths_o (ms := ms) (by have := hS.len; omega)
    have k3 : isSk (.tuple [(eTs eI) (nI on), (eTs eD) M]) = ((!(memB (some (0 : Int)) (oI ms))) && (!(memB (some (1 : Int)) (oI ms)))) := by
      cases c0 : memB (some (0 : Int)) (oI ms) with
      | true =>
        show (okL ((nI on).map eI) (M.map eD) && (((nI on).map eI).all wh && ((M.map eD).all who && _))) = false
        rw [pM (.inl c0)]; simp
      | false =>
        cases c1 : memB (some (1 : Int)) (oI ms) with
        | true =>
          show (okL ((nI on).map eI) (M.map eD) && (((nI on).map eI).all wh && ((M.map eD).all who && _))) = false
          rw [pM (.inr c1)]; simp
        | false =>
          have : (eTs eD) M = (eTs (eO eI)) (oI ms) := by
            show PyData.tuple (M.map eD) = _
            rw [map_eD, qM c0 c1]
          rw [this, k1]; rfl
    obtain ⟨d, s3, ed, wd⟩ := rep_n (m := 400) (by omega) (by omega) 2 (by omega) 64 (by omega) s2 _ (wds hS hn1 (by omega))
    have ed : n__law_replaced 64 (bg s2) (.tuple [(eTs eI) (nI on), (eTs (eO eI)) (oI ms)]) (2 : Int) = .ok (d, bg s3) := ed
    obtain ⟨r9, s4, a9, b9, t9⟩ := take_n s3 3 (by decide) (by decide)
    have hs : n__law_skin (bg s1) (m : Int) = .ok ((nI on, oI ms), bg s2) := hs
    simp only [hb, ct_ok, t1, P2, hm, hs, isSk_n, k1, eL, k2, eM, k3, decide_true, Bool.not_true, Bool.false_eq_true, if_false, fn_rt, ed, t9]
    refine W_cut (fun st => ∃ s d, st = (bg s, d)) ?_ (fun st hst => ?_)
    · refine W_if (fun _ => ?_) (fun _ => ?_)
      · obtain ⟨d2, s5, e2, _⟩ := rep_n (m := 401) (by omega) (by omega) 2 (by omega) 64 (by omega) s4 d wd
        have e2 : n__law_replaced 64 (bg s4) d (2 : Int) = .ok (d2, bg s5) := e2
        simp only [e2, ct_ok, P2, W_nx]
        exact ⟨s5, d2, rfl⟩
      · simp only [W_nx]
        exact ⟨s4, d, rfl⟩
    · obtain ⟨s5, d2, rfl⟩ := hst
      obtain ⟨o, s6, eo, _⟩ := odd_n s5
      have bb : ∀ b : Bool, isBoolD (eB b) = true := fun _ => rfl
      simp only [P2, eo, ct_ok, forC_cons, forC_nil, isSk_n, isLaw_n, bb, decide_true, Bool.not_true, Bool.false_eq_true, if_false, fn_rt, again_nx, sq_nx, W_nx]
  · obtain ⟨s, hb⟩ := bag_n ns 0 (by omega)
    obtain ⟨r1, s1, a1, b1, t1⟩ := take_n s 399 (by decide) (by decide)
    have md : ∀ (k : Nat), 1 ≤ k → k ≤ 1000 → lcP (fun half0 => ((modN (half0 + ((1 : Int) + r1)) (k : Int)).ct fun n0 => .rt n0 : Ct Unit Unit Int)) (nI (List.range k)) = .ok ((nI (List.range k)).map fun h => (h + (1 + r1)) % (k : Int)) := fun k h1 h2 =>
      lcP_map _ (by simp; omega) fun a _ => by
        show ((modN (a + (1 + r1)) (k : Int)).ct fun n0 => .rt n0 : Ct Unit Unit Int) = _
        unfold modN
        rw [if_pos (by omega)]
        rfl
    have mu : ∀ (k : Nat), 2 ≤ k → k ≤ 1000 → mulTN [()] (k : Int) = .ok (List.replicate k ()) := fun k h1 h2 => by
      unfold mulTN
      rw [if_pos ⟨rfl, by omega, by omega, by decide⟩]
      congr 1
      exact flat_u k
    have x1 : rngN (400 : Int) = .ok (nI (List.range 400)) := rngN_k (n := 400) (by decide)
    have x2 : rngN (401 : Int) = .ok (nI (List.range 401)) := rngN_k (n := 401) (by decide)
    have y1 := md 400 (by decide) (by decide)
    have y2 := md 401 (by decide) (by decide)
    have z1 := mu 400 (by decide) (by decide)
    have z2 := mu 401 (by decide) (by decide)
    have q1 : isSk (.tuple [(eTs eI) ((nI (List.range 400)).map fun h => (h + (1 + r1)) % ((400 : Nat) : Int)), (eTs eU) (List.replicate 400 ())]) = true := by
      show (okL (((nI (List.range 400)).map fun h => (h + (1 + r1)) % ((400 : Nat) : Int)).map eI) ((List.replicate 400 ()).map eU) && ((((nI (List.range 400)).map fun h => (h + (1 + r1)) % ((400 : Nat) : Int)).map eI).all wh && (((List.replicate 400 ()).map eU).all who && brk2 (((nI (List.range 400)).map fun h => (h + (1 + r1)) % ((400 : Nat) : Int)).map eI) ((List.replicate 400 ()).map eU)))) = true
      unfold brk2 okL
      rw [allI, (optsU 400).2, intsOf_eI, (optsU 400).1]
      show ((decide _ && (decide _ && decide _)) && (true && (true && (brkO ((nI (List.range 400)).map fun h => (h + (1 + r1)) % ((400 : Nat) : Int)) (List.replicate 400 none)).isNone))) = true
      rw [great_brk ((400 : Nat) : Int) (1 + r1) rfl, decide_eq_true (by simp), decide_eq_true (by simp), decide_eq_true (by simp)]
      rfl
    have q2 : isSk (.tuple [(eTs eI) ((nI (List.range 401)).map fun h => (h + (1 + r1)) % ((401 : Nat) : Int)), (eTs eU) (List.replicate 401 ())]) = false := by
      exact isSk_no (xs := ((nI (List.range 401)).map fun h => (h + (1 + r1)) % ((401 : Nat) : Int)).map eI) (ys := (List.replicate 401 ()).map eU) (by unfold okL; simp)
    have y1 : lcP (fun half0 => ((modN (half0 + ((1 : Int) + r1)) (400 : Int)).ct fun n0 => .rt n0 : Ct Unit Unit Int)) (nI (List.range 400)) = .ok ((nI (List.range 400)).map fun h => (h + (1 + r1)) % ((400 : Nat) : Int)) := y1
    have y2 : lcP (fun half0 => ((modN (half0 + ((1 : Int) + r1)) (401 : Int)).ct fun n0 => .rt n0 : Ct Unit Unit Int)) (nI (List.range 401)) = .ok ((nI (List.range 401)).map fun h => (h + (1 + r1)) % ((401 : Nat) : Int)) := y2
    have z1 : mulTN [()] (400 : Int) = .ok (List.replicate 400 ()) := z1
    have z2 : mulTN [()] (401 : Int) = .ok (List.replicate 401 ()) := z2
    have c2 : decide ((401 : Int) = 400) = false := rfl
    simp only [hb, ct_ok, t1, P2, forC_cons, forC_nil, x1, x2, y1, y2, z1, z2, isSk_n, q1, q2, c2, decide_true, Bool.not_true, Bool.false_eq_true, if_false, again_nx, sq_nx, W_rt]
theorem law_true (ns : List Int) (h : ns.length ≤ 63) : ∃ outs, f_law [.v (scriptD ns)] = .ok (.bool true) outs := ⟨_, RF_ok (rf_law ns) (law_n ns h)⟩
end K01
set_option Elab.async false
set_option linter.all false
set_option maxRecDepth 100000
set_option maxHeartbeats 4000000
open PySem PySem.W PySem.Calls PyProof.Rows
set_option maxRecDepth 100000 in
set_option maxHeartbeats 0 in
theorem PySem.Challenge.cw_halfseams_k01_what_is_a_skin_holds : PySem.Challenge.rw_halfseams_k01_what_is_a_skin.Holds := by
  w_on; o_law
  refine HandSHeadRun.head_any (r := (OpenLaw.row PySem.Challenge.rw_halfseams_k01_what_is_a_skin)) (q := view (OpenLaw.row PySem.Challenge.rw_halfseams_k01_what_is_a_skin).prog [14]) (H := K01.hk) (ob := K01.ob) (M := 100000) (loose := K01.loose) (d := HandSHeadRun.topDef (OpenLaw.row PySem.Challenge.rw_halfseams_k01_what_is_a_skin).prog 14) (kwd := []) K01.ob_eq
    (by kernel_rfl) (fun s => by kernel_rfl) K01.run (by kernel_rfl) (by kernel_rfl) (by kernel_rfl) (by rfl) (by first | assumption | decide +kernel) (by decide +kernel) ⟨rfl, rfl, rfl, rfl, rfl, by decide +kernel⟩ ?hw ?hc
  case hw => w_witness2
  case hc =>
    refine DL.walk_ofR (l := PySem.Challenge.rw_halfseams_k01_what_is_a_skin) (n := 63) (k := 68) (F := K01.f_law) rfl (by decide) (by kernel_rfl) ⟨rfl, by decide, by decide⟩ (by kernel_rfl) K01.law_true ?C
    intro w mg h Y G
    obtain ⟨K, KX, c, e⟩ := Y
    have T := K01.txt KX G c e
    obtain ⟨fd, F⟩ := T.d_law
    exact ⟨K, fd, KX, T.g_law, fun s v => L2.FunD.bindsA (ps := ["script"]) F (fun _ _ _ _ _ _ us hl => match us, hl with | [_], _ => rfl) s [v] rfl, fun base _ _ => K01.law_fn T F⟩
