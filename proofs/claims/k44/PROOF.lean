import PyProof.Rows.All
import Wide.All
import OpenK.AllK
import Wide.FinOn
import PySem.Challenge.RW_halfseams_k44_deeds_as_texts
import HandS.ForMost
import HandS.ExcCtx
import HandS.HotCalls
import HandS.ExcIs
import HandS.ExcField
import HandS.ExcInit
import HandS.ForExc
import HandS.IsInst
import HandS.Wide
import HandS.Conv
import HandS.More
import HandS.TupAny
import HandS.CallSlots
import HandS.HeadHook1
import HandS.SortInts
import HandS.Strs
import HandS.Style
import HandS.HeadHook2
import HandS.HeadHook3
import HandS.HeadHook4
import HandS.Head0
import HandS.Head1
import HandS.Head2
import KE.KExcIs
import KE.KDictCopyH
import HandS.Deep
import HandS.StrSplit
import HandS.StrMore
import HandS.NoneIn
import HandS.Zip
import HandS.TupMul
import HandS.Defaults
import HandS.HeadEnd
import HandS.CallLocal
import KE.GoesEnum
import KE.KDictSum
import HandS.SetFor
import HandS.Steps
import PyProof.DictUpdate
import PyProof.FactsAll.set_1
import PyProof.FactsAll.subtypes_5
import PyProof.SumWalkG
import HandS.ExcOwn
import HandS.ExcValue
import KE.DataMinMax
import KE.SortData
import HandS.Text
import PyProof.Rows.StrRev
set_option Elab.async false
set_option linter.all false
set_option maxRecDepth 100000
set_option autoImplicit false
namespace DL
open PySem L2 PySem.Spec PyProof.Rows
def SqN (K : PySem.W.Frag) (H : Hp) (a : Addr) (xs : List V) : Prop :=
  (∃ o : Obj, H a = some (.frz o (.tup xs)) ∧ o.dict = none) ∨
    ∃ (o : Obj) (its : Array Value) (n : Nat), K.lookup a = some o ∧ o.cls = .type "tuple" ∧ o.dict = none ∧ o.data = .seq its n ∧ its.size ≤ sizeLine ∧ Vals xs its.toList
theorem SqN.t {K : PySem.W.Frag} {H : Hp} {a : Addr} {xs : List V} (h : SqN K H a xs) : SqT K H a xs := by
  rcases h with ⟨o, h, _⟩ | ⟨o, its, n, h1, h2, h3, h4, h5, h6⟩
  · exact .inl (.inr ⟨o, h⟩)
  · exact .inr ⟨o, its, n, h1, h2, h4, h5, h6⟩
section
variable {X : Cx}
theorem SqN.obj {pins : List (Addr × Obj)} {σ : L2.St} {H : Hp} {s : Shared} {a : Addr} {xs : List V} (I : Inv X pins σ H s) (h : SqN X.K H a xs) : s.TypeIs (.ref a) "tuple" ∧ ∃ o, s.heap.get? a = some o ∧ o.dict = none := by
  rcases h with ⟨o, h, hd⟩ | ⟨o, its, n, h1, h2, h3, h4, h5, h6⟩
  · obtain ⟨g, _, _, _, p⟩ := I.hok a _ h
    obtain ⟨o', e, c, _⟩ := p
    rw [g] at e
    cases e
    exact ⟨⟨o, g, c⟩, o, g, hd⟩
  · exact ⟨⟨o, I.kIn a o h1, h2⟩, o, I.kIn a o h1, h3⟩
/-- a display -/
def tTupF (t : TA) : TE := fun σ H Q => t σ H fun xs H1 => xs.length ≤ sizeLine ∧ ∀ (p : Addr) (o : Obj), H1 p = none → o.dict = none → Q (.ref p) (upd H1 p (.frz o (.tup xs)))
theorem pe_tupF {es : List Expr} {t : TA} {pos : Pos} {x1} (h : PA X es t) : PE X (.Tuple es x1 pos) (tTupF t) := by
  refine ⟨fun pins s σ H Q I hq => ?_⟩
  refine wpAny_Tuple_spliced (thn (h.run pos pins s σ H _ I hq) fun us s1 ⟨xs, H1, I1, r, z, q⟩ => ⟨by rw [← r.length]; exact z, ?_⟩)
  have hf : H1 s1.heap.objs.size = none := I1.hok.fresh (Nat.le_refl _)
  refine ⟨.ref s1.heap.objs.size, upd H1 s1.heap.objs.size (.frz { cls := .type "tuple", data := .seq us.toArray } (.tup xs)), I1.laid (t' := s1.toks) (fun b u e => Heap.get?_push_of_some _ e) (Nat.le_refl _) ?_, rfl, q _ _ hf rfl⟩
  exact ⟨Heap.get?_push_size _ rfl, z, us, r, ⟨_, Heap.get?_push_size _ rfl, rfl, _, rfl⟩⟩
/-- tuple(x) -/
theorem call_tuple_ofF : CallR X (.type "tuple") (fun xs H Q => ∃ p ys, xs = [.ref p] ∧ ((SqL X.K H p ys ∧ ∀ (l : Addr) (o : Obj), H l = none → o.dict = none → Q (.ref l) (upd H l (.frz o (.tup ys)))) ∨ (SqT X.K H p ys ∧ Q (.ref p) H))) := by
  intro pins s σ H xs us Q I r h
  obtain ⟨p, ys, rfl, h⟩ := h
  obtain ⟨u, rfl, rx⟩ := vals1 r
  cases rx
  rcases h with ⟨hq, q⟩ | ⟨hq, q⟩
  · obtain ⟨its, r', pl, hz⟩ := I.list hq
    have hlen := r'.length
    refine call_tuple_list pl.isList (fun h' kp => ?_) (by simp only [List.size_toArray] <;> omega)
    have I1 : Inv X pins σ H { s with heap := h' } := I.kept (t' := s.toks) kp
    have I2 : Inv X pins σ (upd H h'.objs.size (.frz { cls := .type "tuple", data := .seq its.toArray } (.tup ys))) { s with heap := h'.push { cls := .type "tuple", data := .seq its.toArray } } :=
      I1.laid (t' := s.toks) (fun b o e => Heap.get?_push_of_some _ e) (Nat.le_refl _) (show ObjOk X.prog X.w _ _ _ (.frz _ (.tup ys)) from ⟨Heap.get?_push_size _ rfl, hz, its, r', IsTup.new _ _⟩)
    exact ⟨.ref h'.objs.size, _, I2, rfl, q _ _ (I1.hok.fresh (Nat.le_refl _)) rfl⟩
  · obtain ⟨its, r', pl, hz⟩ := I.tuple hq
    exact call_tuple_same pl ⟨.ref p, H, I, rfl, q⟩
/-- t + u -/
def rCatF (K : PySem.W.Frag) : R2 := fun x y H Q => ∃ a b xs ys, x = .ref a ∧ y = .ref b ∧ SqT K H a xs ∧ SqT K H b ys ∧ xs.length + ys.length ≤ sizeLine ∧
  (xs = [] → Q (.ref b) H) ∧ (xs ≠ [] → ys = [] → Q (.ref a) H) ∧ (xs ≠ [] → ys ≠ [] → ∀ (p : Addr) (o : Obj), H p = none → o.dict = none → Q (.ref p) (upd H p (.frz o (.tup (xs ++ ys)))))
theorem op_catF : OpR X (binaryOp .Add) (rCatF X.K) := by
  intro pins s σ H x y v u Q I rx ry h
  obtain ⟨a, b, xs, ys, rfl, rfl, ha, hb, hz, q0, q1, q2⟩ := h
  cases rx
  cases ry
  obtain ⟨its, r1, p1, _⟩ := I.tuple ha
  obtain ⟨its2, r2, p2, _⟩ := I.tuple hb
  by_cases hx : xs = []
  · subst hx
    cases r1
    exact cat_tup0 p1 p2 ⟨.ref b, H, I, rfl, q0 rfl⟩
  · refine HT.cat_tup p1 p2 (fun z => hx (r1.nil_iff.mp z)) (fun z => ⟨.ref a, H, I, rfl, q1 hx (r2.nil_iff.mp z)⟩) (fun z => ?_) (by rw [← r1.length, ← r2.length]; exact hz)
    refine ⟨.ref s.heap.objs.size, _, I.laid (t' := s.toks) (o := .frz { cls := .type "tuple", data := .seq (its ++ its2).toArray } (.tup (xs ++ ys))) (fun b ob q => Heap.get?_push_of_some _ q) (Nat.le_refl _) ?_, rfl, q2 hx (fun w => z (r2.nil_iff.mpr w)) _ _ (I.hok.fresh (Nat.le_refl _)) rfl⟩
    exact ⟨Heap.get?_push_size _ rfl, by rw [List.length_append]; exact hz, _, r1.append r2, IsTup.new _ _⟩
/-- t[lo:hi] -/
def rSlF (K : PySem.W.Frag) : V → Option Int → Option Int → Hp → VK → Prop := fun x lo hi H Q => ∃ a xs, x = .ref a ∧ SqT K H a xs ∧
  (HT.sIx xs.length 0 lo = 0 ∧ HT.sIx xs.length xs.length hi = xs.length → Q (.ref a) H) ∧ (¬ (HT.sIx xs.length 0 lo = 0 ∧ HT.sIx xs.length xs.length hi = xs.length) → ∀ (p : Addr) (o : Obj), H p = none → o.dict = none → Q (.ref p) (upd H p (.frz o (.tup (cutV xs lo hi)))))
theorem sl_tupF : SlR X (rSlF X.K) := by
  intro pins s σ H x v vl vu lo hi sl Q I rx hs pl pu h
  obtain ⟨a, xs, rfl, hx, q1, q2⟩ := h
  cases rx
  obtain ⟨its, r, ht, hz⟩ := I.tuple hx
  have hlen : its.toArray.size = xs.length := by rw [List.size_toArray]; exact r.length.symm
  refine ⟨"tuple", _, PyProof.Rows.slot_tuple_getitem.lookup, ht.typeIs, ?_⟩
  by_cases hw : HT.sIx xs.length 0 lo = 0 ∧ HT.sIx xs.length xs.length hi = xs.length
  · exact getItem_tuple_whole ht hs pl pu (by rw [hlen]; exact hw) ⟨.ref a, H, I, rfl, q1 hw⟩
  · refine HT.getItem_tuple_cut ht hs pl pu (by rw [hlen]; exact hw) ?_ (by rw [hlen]; exact hz)
    rw [hlen]
    refine ⟨.ref s.heap.objs.size, _, I.laid (t' := s.toks) (o := .frz { cls := .type "tuple", data := .seq (List.take (HT.sIx xs.length xs.length hi - HT.sIx xs.length 0 lo) (List.drop (HT.sIx xs.length 0 lo) its.toArray.toList)).toArray } (.tup (cutV xs lo hi))) (fun b ob q => Heap.get?_push_of_some _ q) (Nat.le_refl _) ?_, rfl, q2 hw _ _ (I.hok.fresh (Nat.le_refl _)) rfl⟩
    exact ⟨Heap.get?_push_size _ rfl, Nat.le_trans (cutV_length xs lo hi) hz, _, (r.drop (HT.sIx xs.length 0 lo)).take (HT.sIx xs.length xs.length hi - HT.sIx xs.length 0 lo), IsTup.new _ _⟩
end
end DL
set_option Elab.async false
set_option linter.all false
set_option maxRecDepth 100000
set_option autoImplicit false
namespace DL
open PySem L2 PySem.Spec PyProof.Rows
def obsB (n : Nat) (fa : List He.Fa) (fn : List He.DefD) (ex : PySem.W.Frag → Bool) (g : Addr → Option Obj) : He.AlD × Bool := (fun K : PySem.W.Frag => (He.obsD fa fn K, ex K)) (He.frG g (PySem.mainGlobals :: PySem.cStatics :: List.range n))
def hookB (n : Nat) (fa : List He.Fa) (fn : List He.DefD) (ex : PySem.W.Frag → Bool) : PySem.W.Hook where
  α := He.AlD × Bool
  obs := fun s => obsB n fa fn ex s.heap.get?
  val := fun _ => (He.valD fn, true)
  says := fun _ h => ∃ K : PySem.W.Frag, K.In h ∧ He.SaysD fa fn K ∧ ex K = true
  of := fun _ _ e => ⟨_, He.frG_in, congrArg (fun z : He.AlD × Bool => z.1) e, congrArg (fun z : He.AlD × Bool => z.2) e⟩
  keeps := fun _ _ _ ⟨K, hK, c⟩ k => ⟨K, PySem.W.Frag.In.keeps hK k, c⟩
theorem obsB_eq {n : Nat} {fa : List He.Fa} {fn : List He.DefD} {ex : PySem.W.Frag → Bool} {g : Addr → Option Obj} {s : Shared} (h : ∀ a, g a = s.heap.get? a) : obsB n fa fn ex g = (hookB n fa fn ex).obs s := by
  have e : g = s.heap.get? := funext h
  rw [e] <;> rfl
def defD (x : Str) (st : Stmt) : He.DefD := ⟨(x, none), x, x, defArgs st, defBody st, defScope st, [], []⟩
def tupBN (K : PySem.W.Frag) (x : Str) (vs : List He.Dv) : Bool := match K.lookup (He.ga K x) with
  | some ⟨.type c, none, .seq its _, _⟩ => decide (c = "tuple") && (decide (its.size ≤ sizeLine) && He.relAll (vs.map (He.Dv.v K)) its.toList)
  | _ => false
def exiB (K : PySem.W.Frag) (C : Addr) : Bool :=
  (PySem.W.clsIn K C).isSome && (decide (PySem.W.findIn K (.ref C) "__getattribute__" = some (some (.builtin "BaseException.__getattribute__"))) && (decide (PySem.W.findIn K (.ref C) "__getattr__" = some none) &&
    (decide (PySem.W.subIn K (.ref C) (.type "BaseException") = some true) && (decide (PySem.W.findIn K (.ref C) "__class__" = some (some (.builtin "object.__class__"))) &&
      (decide (PySem.W.specialIn K (.builtin "object.__class__") "__get__" = some (some (.builtin "getset_descriptor.__get__"))) && (decide (PySem.W.takesIn K (.builtin "object.__class__") = some true) && decide (PySem.W.mroIn K C (.type "object") = some true)))))))
def kNames : List Str := ["Harm", "NoHalf", "NoMarks", "NoPlain", "NoRim", "NoRow", "NoSkin", "NoText", "NothingLeft", "TooMany", "Unfit", "Unlike"]
def mtC (n c : Str) : Bool := n == ("SkinError" : Str) || c == n
def kxB (K : PySem.W.Frag) : Bool := kNames.all fun c => exiB K (He.ga K c) && (kNames.all (fun n => decide (PySem.W.kitOne K (.ref (He.ga K c)) (.ref (He.ga K n)) = some (c == n))) && (decide (PySem.W.kitOne K (.ref (He.ga K c)) (.type "ValueError") = some true) &&
  ((("SkinError" : Str) :: kNames).all (fun n => decide (PySem.W.exmOne K (.ref (He.ga K c)) (.ref (He.ga K n)) = some (mtC n c))) && (xfB K (He.ga K c) && (decide (PySem.W.findIn K (.ref (He.ga K c)) "word" = some none) && decide (PySem.W.findIn K (.ref (He.ga K c)) "half" = some none))))))
end DL
set_option Elab.async false
set_option linter.all false
set_option maxRecDepth 100000
set_option maxHeartbeats 4000000
namespace K44
open PySem L2 DL
def topS (i : Nat) : Stmt := PySem.Challenge.pw_halfseams_k44_deeds_as_texts.main.body.getD i (.Pass ⟨0, 0, 0, 0⟩)
abbrev s_is_whole : Stmt := topS 15
abbrev N_is_whole : List Str := ["thing"]
abbrev P_is_whole : List Str := ["thing"]
abbrev s_is_deed : Stmt := topS 19
abbrev N_is_deed : List Str := ["thing", "number"]
abbrev P_is_deed : List Str := ["thing"]
abbrev s_number_of : Stmt := topS 22
abbrev N_number_of : List Str := ["word", "sign"]
abbrev P_number_of : List Str := ["word"]
abbrev s_numbers_text : Stmt := topS 23
abbrev N_numbers_text : List Str := ["numbers", "number"]
abbrev P_numbers_text : List Str := ["numbers"]
abbrev s_deed_text : Stmt := topS 24
abbrev N_deed_text : List Str := ["deed"]
abbrev P_deed_text : List Str := ["deed"]
abbrev s_read_deed : Stmt := topS 25
abbrev N_read_deed : List Str := ["text", "words", "deed", "word"]
abbrev P_read_deed : List Str := ["text"]
abbrev s__law_kinds : Stmt := topS 31
abbrev N__law_kinds : List Str := ["e", "some", "words", "k"]
abbrev P__law_kinds : List Str := ["e"]
abbrev s__law_told_text : Stmt := topS 27
abbrev N__law_told_text : List Str := ["text", "found", "kind", "e"]
abbrev P__law_told_text : List Str := ["text"]
abbrev s__law_number : Stmt := topS 33
abbrev N__law_number : List Str := ["word", "sign"]
abbrev P__law_number : List Str := ["word"]
abbrev s__law_words : Stmt := topS 32
abbrev N__law_words : List Str := ["words"]
abbrev P__law_words : List Str := []
abbrev s__law_read_deed : Stmt := topS 28
abbrev N__law_read_deed : List Str := ["text", "words", "numbers", "many", "word"]
abbrev P__law_read_deed : List Str := ["text"]
abbrev s__law_bag : Stmt := topS 29
abbrev N__law_bag : List Str := ["script", "k", "cell"]
abbrev P__law_bag : List Str := ["script", "k"]
abbrev s__law_take : Stmt := topS 30
abbrev N__law_take : List Str := ["bag", "many", "found"]
abbrev P__law_take : List Str := ["bag", "many"]
abbrev s__law_bent : Stmt := topS 34
abbrev N__law_bent : List Str := ["bag", "text", "more", "signs", "sign", "at", "way", "words", "some"]
abbrev P__law_bent : List Str := ["bag", "text", "more"]
abbrev s_law : Stmt := topS 35
abbrev N_law : List Str := ["script", "k", "bag", "word", "numbers", "j", "text", "turn", "thing", "number"]
abbrev P_law : List Str := ["script"]
def fn : List He.DefD := [defD "is_whole" s_is_whole, defD "is_deed" s_is_deed, defD "number_of" s_number_of, defD "numbers_text" s_numbers_text, defD "deed_text" s_deed_text, defD "read_deed" s_read_deed, defD "_law_kinds" s__law_kinds, defD "_law_told_text" s__law_told_text, defD "_law_number" s__law_number, defD "_law_words" s__law_words, defD "_law_read_deed" s__law_read_deed, defD "_law_bag" s__law_bag, defD "_law_take" s__law_take, defD "_law_bent" s__law_bent, defD "law" s_law]
def fa : List He.Fa := [.glo "is_whole", .glo "is_deed", .glo "number_of", .glo "numbers_text", .glo "deed_text", .glo "read_deed", .glo "_law_kinds", .glo "_law_told_text", .glo "_law_number", .glo "_law_words", .glo "_law_read_deed", .glo "_law_bag", .glo "_law_take", .glo "_law_bent", .glo "law", .glo "ONES", .glo "TWOS", .free "ValueError", .free "all", .free "bool", .free "int", .free "isinstance", .free "len", .free "min", .free "range", .free "str", .free "tuple", .int "MOST_FIGURES" 9, .glo "NoText", .exc "NoText", .glo "Harm", .glo "NoHalf", .glo "NoMarks", .glo "NoPlain", .glo "NoRim", .glo "NoRow", .glo "NoSkin", .glo "NoText", .glo "NothingLeft", .glo "TooMany", .glo "Unfit", .glo "Unlike", .glo "SkinError"]
def exB (K : PySem.W.Frag) : Bool := kxB K && (tupBN K "ONES" ((["split", "merge", "join", "turn", "unturn", "fold", "puff", "draw", "grow", "cap", "open", "rip"] : List Str).map He.Dv.str) && (tupBN K "TWOS" ((["cut", "part", "sew"] : List Str).map He.Dv.str)))
abbrev Rw : PySem.W.OpenRow := PySem.W.OpenLaw.row PySem.Challenge.rw_halfseams_k44_deeds_as_texts
abbrev hk : PySem.W.Hook := hookB 800 fa fn exB
def ob (s : PySem.W.SharedT) : He.AlD × Bool := obsB 800 fa fn exB (HandSHeadRun.getT s)
theorem ob_eq (s : PySem.W.SharedT) : ob s = hk.obs s.abs := obsB_eq (HandSHeadRun.getT_eq s)
def loose : List Str := (["SkinError", "NoHalf", "NoRim", "Unlike", "TooMany", "NoPlain", "NoMarks", "NothingLeft", "Unfit", "NoText", "NoRow", "NoSkin", "Harm", "ONES", "TWOS", "MOST_FIGURES", "is_whole", "is_deed", "number_of", "numbers_text", "deed_text", "read_deed", "_law_told_text", "_law_read_deed", "_law_bag", "_law_take", "_law_kinds", "_law_words", "_law_number", "_law_bent"] : List Str)
theorem run (w : World) : HandSHeadRun.RunEq Rw (PySem.W.view Rw.prog [35]) hk ob 100000 loose w := by
  intro os
  kernel_rfl
end K44
set_option Elab.async false
set_option linter.all false
set_option maxRecDepth 100000
set_option autoImplicit false
namespace DL
open PySem L2
abbrev LV (kvs : List (Leaf × V)) (vs : List (Leaf × Value)) : Prop := Paired (fun (p : Leaf × V) (q : Leaf × Value) => p.1 = q.1 ∧ RelV p.2 q.2) kvs vs
/-- such a dict as a thing that is held -/
def hoLf (a : Addr) (kvs : List (Leaf × V)) : HO := .ext fun h => kvs.length ≤ sizeLine ∧ (a == sysModules) = false ∧ ∃ vs, LV kvs vs ∧ ∀ P w, h.DictOf (leafKind P w) a vs
def valLf (kvs : List (Leaf × V)) (k : Leaf) : Option V := (kvs.find? fun kv => kv.1 = k).map (·.2)
theorem LV.val {kvs : List (Leaf × V)} {vs : List (Leaf × Value)} (h : LV kvs vs) (k : Leaf) : RelO (valLf kvs k) (valueAt vs k) := by
  induction h with
  | nil => exact True.intro
  | @cons p q l1 l2 r t ih =>
    unfold valLf valueAt at ih ⊢
    rw [List.find?_cons, List.find?_cons, r.1]
    by_cases c : q.1 = k
    · simp only [c, decide_true]
      exact r.2
    · simp only [c, decide_false]
      exact ih
end DL
set_option Elab.async false
set_option linter.all false
set_option maxRecDepth 100000
set_option autoImplicit false
namespace DL
open PySem L2
abbrev D := PyData
/-- a whole number or None -/
def oiV : Option Int → V
  | none => .non
  | some i => .int i
abbrev LO := List (Leaf × Option Int)
def oV (kvs : LO) : List (Leaf × V) := kvs.map fun kv => (kv.1, oiV kv.2)
/-- a thing of the def's own that is changed in place, with what it holds: data that stands still; a dict with None among its keys; a list; a dict with texts as keys; an object of an own class; anything at all, none of it one's own -/
inductive Tr where
  | d (x : D)
  | n (kvs : LO)
  | l (xs : List Tr)
  | k (kvs : List (Str × Tr))
  | o (c : Str) (fs : List (Str × Tr))
  | w
/-- what a slot holds: nothing known, data that stands still, a list of the def's own that is changed in place, a parameter's list that is changed in place, a dict of the def's own, a dict with None among its keys that stands, a def, an exception, a thing of its own (or a parameter's) that is changed in place -/
inductive Sl where
  | no
  | v (d : D)
  | l (xs : List D)
  | p (xs : List D)
  | m (kvs : List (D × D))
  | n (kvs : List (Leaf × Option Int))
  | f (x : Str)
  | a (b : Addr) (d : Option Addr) (f : Option (Str × PyData))
  | t (x : Tr)
  | u (x : Tr)
abbrev DEnv := List Sl
def Sl.own : Sl → Bool
  | .l _ => true
  | .p _ => true
  | .m _ => true
  | .t _ => true
  | .u _ => true
  | _ => false
/-- owns one thing -/
def Sl.lst : Sl → Bool
  | .l _ => true
  | .p _ => true
  | .m _ => true
  | _ => false
/-- a parameter that is changed -/
def Sl.pk : Sl → Nat
  | .p _ => 1
  | .u _ => 2
  | _ => 0
/-- an exception: its class's name, its field with its value -/
structure Xc where
  c : Str
  f : Option (Str × D)
inductive Rs (α : Type) where
  | ok (a : α) (env : DEnv)
  | ex (x : Xc) (env : DEnv)
  | stuck
abbrev DE := DEnv → Rs D
abbrev DT := DEnv → Rs Bool
abbrev DA := DEnv → Rs (List D)
def Rs.bind {α β : Type} (r : Rs α) (f : α → DEnv → Rs β) : Rs β := match r with
  | .ok a env => f a env
  | .ex x env => .ex x env
  | .stuck => .stuck
theorem bind_ok {α β : Type} (a : α) (env : DEnv) (f : α → DEnv → Rs β) : (Rs.ok a env).bind f = f a env := rfl
/-- an answer that may lack, in place -/
def put {α : Type} (o : Option α) (env : DEnv) : Rs α := match o with
  | some a => .ok a env
  | none => .stuck
structure I62 (i : Int) : Prop where
  lo : -(2 ^ 62) ≤ i
  hi : i < 2 ^ 62
structure I63 (i : Int) : Prop where
  lo : -(2 ^ 63) ≤ i
  hi : i < 2 ^ 63
noncomputable instance (i : Int) : Decidable (I62 i) := Classical.propDecidable _
noncomputable instance (i : Int) : Decidable (I63 i) := Classical.propDecidable _
theorem i62_of {i : Int} (h : -1000000 ≤ i) (h2 : i ≤ 1000000) : I62 i := ⟨by omega, by omega⟩
def Ex (G H : Hp) : Prop := ∀ a o, G a = some o → H a = some o
theorem Ex.refl (H : Hp) : Ex H H := fun _ _ h => h
theorem Ex.trans {H H1 H2 : Hp} (a : Ex H H1) (b : Ex H1 H2) : Ex H H2 := fun x o h => b x o (a x o h)
theorem Ex.new {H : Hp} {p : Addr} {o : HO} (h : H p = none) : Ex H (upd H p o) := fun a u e => by
  rw [upd_ne (ne_of_none e h)]; exact e
theorem Ex.none {G H : Hp} {a : Addr} (e : Ex G H) (h : H a = none) : G a = none := by
  cases q : G a with
  | none => rfl
  | some o => rw [e a o q] at h; cases h
theorem Ex.both {G H : Hp} {p : Addr} {o : HO} (e : Ex G H) : Ex (upd G p o) (upd H p o) := fun a u h => by
  by_cases hp : a = p
  · subst hp; rw [upd_same] at h ⊢; exact h
  · rw [upd_ne hp] at h ⊢; exact e a u h
theorem Ex.rd {H H' : Hp} {a : Addr} {u : HO} (e : Ex H H') (h : Rd H a u) : Rd H' a u := by
  rcases h with h | ⟨o, h⟩
  · exact Or.inl (e a _ h)
  · exact Or.inr ⟨o, e a _ h⟩
theorem Ex.l {K : PySem.W.Frag} {H H' : Hp} {a : Addr} {xs : List V} (e : Ex H H') (h : SqL K H a xs) : SqL K H' a xs := by
  rcases h with h | h
  · exact Or.inl (e.rd h)
  · exact Or.inr h
theorem Ex.n {K : PySem.W.Frag} {H H' : Hp} {a : Addr} {xs : List V} (e : Ex H H') (h : SqN K H a xs) : SqN K H' a xs := by
  rcases h with ⟨o, h, hd⟩ | h
  · exact .inl ⟨o, e _ _ h, hd⟩
  · exact .inr h
theorem Ex.t {K : PySem.W.Frag} {H H' : Hp} {a : Addr} {xs : List V} (e : Ex H H') (h : SqT K H a xs) : SqT K H' a xs := by
  rcases h with h | h
  · exact Or.inl (e.rd h)
  · exact Or.inr h
/-- a list to be read: tracked, known (the script), or written at the top just so -/
def RL (K : PySem.W.Frag) (G : Hp) (a : Addr) (xs : List V) : Prop := Rd G a (.lst xs) ∨ ∃ (its : Array Value) (n : Nat), K.lookup a = some { cls := .type "list", data := .seq its n } ∧ its.size ≤ sizeLine ∧ Vals xs its.toList
theorem Ex.rl {K : PySem.W.Frag} {G G' : Hp} {a : Addr} {xs : List V} (e : Ex G G') (h : RL K G a xs) : RL K G' a xs := by
  rcases h with h | h
  · exact .inl (e.rd h)
  · exact .inr h
theorem RL.sq {K : PySem.W.Frag} {G : Hp} {a : Addr} {xs : List V} (h : RL K G a xs) : SqL K G a xs := by
  rcases h with h | ⟨its, n, h1, h2, h3⟩
  · exact .inl h
  · exact .inr ⟨_, its, n, h1, rfl, rfl, rfl, h2, h3⟩
theorem RL.of {K : PySem.W.Frag} {G : Hp} {a : Addr} {xs : List V} (h : G a = some (.lst xs)) : RL K G a xs := .inl (.inl h)
/-- a key as data -/
def kD : Key → D
  | .inl i => .int i
  | .inr x => .str x
mutual
/-- data that stands still, by a value: lists are tracked ones (or the script), tuples may be written ones -/
inductive Dv (K : PySem.W.Frag) (G : Hp) : V → PyData → Prop
  | non : Dv K G .non .none
  | bl (b : Bool) : Dv K G (.bl b) (.bool b)
  | int (i : Int) : Dv K G (.int i) (.int i)
  | str (x : Str) : Dv K G (.str x) (.str x)
  | lst {a : Addr} {xs : List V} {ds : List PyData} : RL K G a xs → DvAll K G xs ds → Dv K G (.ref a) (.list ds)
  | tup {a : Addr} {xs : List V} {ds : List PyData} : SqN K G a xs → DvAll K G xs ds → Dv K G (.ref a) (.tuple ds)
  | dct {a : Addr} {xs : List (Key × V)} {ds : List (PyData × PyData)} : Rd G a (.dK xs) → DvKv K G xs ds → Dv K G (.ref a) (.dict ds)
inductive DvKv (K : PySem.W.Frag) (G : Hp) : List (Key × V) → List (PyData × PyData) → Prop
  | nil : DvKv K G [] []
  | cons {k : Key} {v : V} {d : D} {xs : List (Key × V)} {ys : List (D × D)} : Dv K G v d → DvKv K G xs ys → DvKv K G ((k, v) :: xs) ((kD k, d) :: ys)
inductive DvAll (K : PySem.W.Frag) (G : Hp) : List V → List PyData → Prop
  | nil : DvAll K G [] []
  | cons {v : V} {vs : List V} {d : PyData} {ds : List PyData} : Dv K G v d → DvAll K G vs ds → DvAll K G (v :: vs) (d :: ds)
end
mutual
theorem Dv.mono {K : PySem.W.Frag} {G G' : Hp} (e : Ex G G') : ∀ (d : D) (v : V), Dv K G v d → Dv K G' v d
  | .none, _, h => by cases h; exact .non
  | .bool b, _, h => by cases h; exact .bl b
  | .int i, _, h => by cases h; exact .int i
  | .str x, _, h => by cases h; exact .str x
  | .list ds, _, h => by
    cases h with
    | lst a b => exact .lst (e.rl a) (Dv.monoAll e ds _ b)
  | .tuple ds, _, h => by
    cases h with
    | tup a b => exact .tup (e.n a) (Dv.monoAll e ds _ b)
  | .dict ds, _, h => by
    cases h with
    | dct a b => exact .dct (e.rd a) (Dv.monoKv e ds _ b)
theorem Dv.monoKv {K : PySem.W.Frag} {G G' : Hp} (e : Ex G G') : ∀ (ds : List (D × D)) (vs : List (Key × V)), DvKv K G vs ds → DvKv K G' vs ds
  | [], _, h => by cases h; exact .nil
  | (_, d) :: ds, _, h => by
    cases h with
    | cons a b => exact .cons (Dv.mono e d _ a) (Dv.monoKv e ds _ b)
theorem Dv.monoAll {K : PySem.W.Frag} {G G' : Hp} (e : Ex G G') : ∀ (ds : List D) (vs : List V), DvAll K G vs ds → DvAll K G' vs ds
  | [], _, h => by cases h; exact .nil
  | d :: ds, _, h => by
    cases h with
    | cons a b => exact .cons (Dv.mono e d _ a) (Dv.monoAll e ds _ b)
end
theorem Dv.up {K : PySem.W.Frag} {G G' : Hp} {d : D} {v : V} (h : Dv K G v d) (e : Ex G G') : Dv K G' v d := Dv.mono e d v h
theorem DvKv.up {K : PySem.W.Frag} {G G' : Hp} {d : List (D × D)} {v : List (Key × V)} (h : DvKv K G v d) (e : Ex G G') : DvKv K G' v d := Dv.monoKv e d v h
theorem DvAll.up {K : PySem.W.Frag} {G G' : Hp} {d : List D} {v : List V} (h : DvAll K G v d) (e : Ex G G') : DvAll K G' v d := Dv.monoAll e d v h
section
variable {K : PySem.W.Frag} {G : Hp}
theorem DvAll.length : ∀ {vs : List V} {ds : List D}, DvAll K G vs ds → vs.length = ds.length
  | _, _, .nil => rfl
  | _, _, .cons _ t => by rw [List.length_cons, List.length_cons, DvAll.length t]
theorem DvAll.get : ∀ {vs : List V} {ds : List D} {i : Nat} {d : D}, DvAll K G vs ds → ds[i]? = some d → ∃ v, vs[i]? = some v ∧ Dv K G v d
  | _, _, _, _, .nil, e => by simp at e
  | _, _, 0, _, .cons r _, e => by simp at e; subst e; exact ⟨_, rfl, r⟩
  | _, _, i + 1, d, .cons _ t, e => by
    obtain ⟨u, h1, h2⟩ := DvAll.get (i := i) (d := d) t (by simpa using e)
    exact ⟨u, by simpa using h1, h2⟩
theorem DvAll.append : ∀ {xs ys : List V} {us ws : List D}, DvAll K G xs us → DvAll K G ys ws → DvAll K G (xs ++ ys) (us ++ ws)
  | _, _, _, _, .nil, s => s
  | _, _, _, _, .cons r t, s => .cons r (DvAll.append t s)
theorem DvAll.take : ∀ {xs : List V} {us : List D} (n : Nat), DvAll K G xs us → DvAll K G (xs.take n) (us.take n)
  | _, _, 0, _ => .nil
  | _, _, _ + 1, .nil => .nil
  | _, _, n + 1, .cons r t => .cons r (DvAll.take n t)
theorem DvAll.drop : ∀ {xs : List V} {us : List D} (n : Nat), DvAll K G xs us → DvAll K G (xs.drop n) (us.drop n)
  | _, _, 0, r => r
  | _, _, _ + 1, .nil => .nil
  | _, _, n + 1, .cons _ t => DvAll.drop n t
theorem DvAll.set {x : V} {u : D} (r : Dv K G x u) : ∀ {xs : List V} {us : List D} (i : Nat), DvAll K G xs us → DvAll K G (xs.set i x) (us.set i u)
  | _, _, _, .nil => .nil
  | _, _, 0, .cons _ t => .cons r t
  | _, _, i + 1, .cons q t => .cons q (DvAll.set r i t)
theorem DvAll.eraseIdx : ∀ {xs : List V} {us : List D} (i : Nat), DvAll K G xs us → DvAll K G (xs.eraseIdx i) (us.eraseIdx i)
  | _, _, _, .nil => .nil
  | _, _, 0, .cons _ t => t
  | _, _, i + 1, .cons q t => .cons q (DvAll.eraseIdx i t)
theorem DvAll.one {v : V} {d : D} (h : Dv K G v d) : DvAll K G [v] [d] := .cons h .nil
theorem DvAll.inv1 {vs : List V} {d : D} (h : DvAll K G vs [d]) : ∃ v, vs = [v] ∧ Dv K G v d := by
  cases h with
  | cons a b => cases b; exact ⟨_, rfl, a⟩
theorem DvAll.of_ints : ∀ (ns : List Int), DvAll K G (ns.map V.int) (ns.map PyData.int)
  | [] => .nil
  | n :: ns => .cons (.int n) (DvAll.of_ints ns)
end
mutual
theorem Dv.dp {K : PySem.W.Frag} {G H : Hp} (e : Ex G H) : ∀ (d : D) (v : V), d.canLay0 = true → Dv K G v d → Dp K H v d
  | .none, _, _, h => by cases h; exact .non
  | .bool b, _, _, h => by cases h; exact .bl b
  | .int i, _, _, h => by cases h; exact .int i
  | .str x, _, _, h => by cases h; exact .str x
  | .list ds, _, c, h => by
    cases h with
    | lst a b => exact .lst (e.rl a).sq (Dv.dpAll e ds _ (by simpa [PyData.canLay0] using c) b)
  | .tuple ds, _, c, h => by
    cases h with
    | tup a b => exact .tup (e.n a).t (Dv.dpAll e ds _ (by simpa [PyData.canLay0] using c) b)
  | .dict _, _, c, _ => by simp [PyData.canLay0] at c
theorem Dv.dpAll {K : PySem.W.Frag} {G H : Hp} (e : Ex G H) : ∀ (ds : List D) (vs : List V), PyData.canLayAll0 ds = true → DvAll K G vs ds → DpAll K H vs ds
  | [], _, _, h => by cases h; exact .nil
  | d :: ds, _, c, h => by
    have c' : d.canLay0 = true ∧ PyData.canLayAll0 ds = true := by simpa [PyData.canLayAll0] using c
    cases h with
    | cons a b => exact .cons (Dv.dp e d _ c'.1 a) (Dv.dpAll e ds _ c'.2 b)
end
/-- an exception's field stands -/
def XD (K : PySem.W.Frag) (G : Hp) (d : Option Addr) (f : Option (Str × D)) : Prop := match f with
  | none => d = none
  | some (n, x) => ∃ a v, d = some a ∧ G a = some (.xd [(n, v)]) ∧ Dv K G v x
theorem XD.up {K : PySem.W.Frag} {G G' : Hp} {d : Option Addr} {f : Option (Str × D)} (h : XD K G d f) (e : Ex G G') : XD K G' d f := by
  cases f with
  | none => exact h
  | some p => obtain ⟨a, v, h1, h2, h3⟩ := h; exact ⟨a, v, h1, e _ _ h2, h3.up e⟩
def adr : V → List Addr
  | .ref a => [a]
  | _ => []
def lstOf (H : Hp) : V → List V
  | .ref a => match H a with
    | some (.lst vs) => vs
    | _ => []
  | _ => []
def dkOf (H : Hp) : V → List V
  | .ref a => match H a with
    | some (.dK kvs) => kvs.map (·.2)
    | _ => []
  | _ => []
def insOf (H : Hp) : V → List V
  | .ref a => match H a with
    | some (.ins _ _ fs) => fs.map (·.2)
    | _ => []
  | _ => []
def dxOf (H : Hp) : V → List Addr
  | .ref a => match H a with
    | some (.ins _ dx _) => [dx]
    | _ => []
  | _ => []
mutual
/-- the addresses that a thing takes up -/
def reach (H : Hp) : V → Tr → List Addr
  | _, .d _ => []
  | v, .n _ => adr v
  | v, .l xs => adr v ++ reachL H (lstOf H v) xs
  | v, .k kvs => adr v ++ reachK H (dkOf H v) kvs
  | v, .o _ fs => adr v ++ (dxOf H v ++ reachK H (insOf H v) fs)
  | _, .w => []
def reachL (H : Hp) : List V → List Tr → List Addr
  | v :: vs, t :: ts => reach H v t ++ reachL H vs ts
  | _, _ => []
def reachK (H : Hp) : List V → List (Str × Tr) → List Addr
  | v :: vs, (_, t) :: ts => reach H v t ++ reachK H vs ts
  | _, _ => []
end
mutual
/-- a thing stands at v -/
def TreeAt (K : PySem.W.Frag) (G H : Hp) : V → Tr → Prop
  | v, .d x => Dv K G v x
  | v, .n kvs => ∃ a, v = .ref a ∧ H a = some (hoLf a (oV kvs))
  | v, .l xs => ∃ a vs, v = .ref a ∧ H a = some (.lst vs) ∧ TreesAt K G H vs xs
  | v, .k kvs => ∃ a ws, v = .ref a ∧ H a = some (.dK ws) ∧ ws.map (·.1) = kvs.map (fun p => Sum.inr p.1) ∧ TreesK K G H (ws.map (·.2)) kvs
  | v, .o c fs => ∃ a dx ws, v = .ref a ∧ H a = some (.ins (He.ga K c) dx ws) ∧ H dx = some (.own a) ∧ ws.map (·.1) = fs.map (·.1) ∧ TreesK K G H (ws.map (·.2)) fs
  | _, .w => True
def TreesAt (K : PySem.W.Frag) (G H : Hp) : List V → List Tr → Prop
  | [], [] => True
  | v :: vs, t :: ts => TreeAt K G H v t ∧ TreesAt K G H vs ts
  | _, _ => False
def TreesK (K : PySem.W.Frag) (G H : Hp) : List V → List (Str × Tr) → Prop
  | [], [] => True
  | v :: vs, (_, t) :: ts => TreeAt K G H v t ∧ TreesK K G H vs ts
  | _, _ => False
end
section
variable {K : PySem.W.Frag} {G H : Hp}
mutual
theorem tree_all : ∀ (t : Tr) (v : V), TreeAt K G H v t → ∀ a, a ∈ reach H v t → H a ≠ none
  | .w, v, h, a, ha => by simp [reach] at ha
  | .d x, v, h, a, ha => by simp [reach] at ha
  | .n kvs, v, h, a, ha => by
    simp only [TreeAt] at h
    obtain ⟨b, rfl, hb⟩ := h
    simp only [reach, adr, List.mem_singleton] at ha
    subst ha
    rw [hb]; exact fun z => nomatch z
  | .l xs, v, h, a, ha => by
    simp only [TreeAt] at h
    obtain ⟨b, vs, rfl, hb, ht⟩ := h
    simp only [reach, adr, lstOf, hb, List.mem_append, List.mem_singleton] at ha
    rcases ha with rfl | ha
    · rw [hb]; exact fun z => nomatch z
    · exact trees_all xs vs ht a ha
  | .k kvs, v, h, a, ha => by
    simp only [TreeAt] at h
    obtain ⟨b, ws, rfl, hb, _, ht⟩ := h
    simp only [reach, adr, dkOf, hb, List.mem_append, List.mem_singleton] at ha
    rcases ha with rfl | ha
    · rw [hb]; exact fun z => nomatch z
    · exact treesK_all kvs _ ht a ha
  | .o c fs, v, h, a, ha => by
    simp only [TreeAt] at h
    obtain ⟨b, dx, ws, rfl, hb, hd, _, ht⟩ := h
    simp only [reach, adr, insOf, dxOf, hb, List.mem_append, List.mem_singleton] at ha
    rcases ha with rfl | rfl | ha
    · rw [hb]; exact fun z => nomatch z
    · rw [hd]; exact fun z => nomatch z
    · exact treesK_all fs _ ht a ha
theorem trees_all : ∀ (ts : List Tr) (vs : List V), TreesAt K G H vs ts → ∀ a, a ∈ reachL H vs ts → H a ≠ none
  | [], [], _, a, ha => by simp [reachL] at ha
  | [], _ :: _, h, a, ha => by simp [reachL] at ha
  | _ :: _, [], h, a, ha => by simp [reachL] at ha
  | t :: ts, v :: vs, h, a, ha => by
    simp only [TreesAt] at h
    simp only [reachL, List.mem_append] at ha
    rcases ha with ha | ha
    · exact tree_all t v h.1 a ha
    · exact trees_all ts vs h.2 a ha
theorem treesK_all : ∀ (ts : List (Str × Tr)) (vs : List V), TreesK K G H vs ts → ∀ a, a ∈ reachK H vs ts → H a ≠ none
  | [], [], _, a, ha => by simp [reachK] at ha
  | [], _ :: _, h, a, ha => by simp [reachK] at ha
  | _ :: _, [], h, a, ha => by simp [reachK] at ha
  | (x, t) :: ts, v :: vs, h, a, ha => by
    simp only [TreesK] at h
    simp only [reachK, List.mem_append] at ha
    rcases ha with ha | ha
    · exact tree_all t v h.1 a ha
    · exact treesK_all ts vs h.2 a ha
end
variable {G' H' : Hp}
mutual
/-- where nothing of it is changed -/
theorem tree_keep (e : Ex G G') : ∀ (t : Tr) (v : V), TreeAt K G H v t → (∀ a, a ∈ reach H v t → H' a = H a) → TreeAt K G' H' v t ∧ reach H' v t = reach H v t
  | .w, v, h, _ => by simp only [TreeAt, reach, and_self]
  | .d x, v, h, _ => by
    simp only [TreeAt] at h ⊢
    exact ⟨h.up e, rfl⟩
  | .n kvs, v, h, k => by
    simp only [TreeAt] at h ⊢
    obtain ⟨b, rfl, hb⟩ := h
    have := k b (by simp [reach, adr])
    exact ⟨⟨b, rfl, by rw [this]; exact hb⟩, by simp only [reach, adr]⟩
  | .l xs, v, h, k => by
    simp only [TreeAt] at h ⊢
    obtain ⟨b, vs, rfl, hb, ht⟩ := h
    simp only [reach, adr, lstOf, hb, List.mem_append, List.mem_singleton] at k
    have kb := k b (.inl rfl)
    obtain ⟨h1, h2⟩ := trees_keep e xs vs ht fun a ha => k a (.inr ha)
    exact ⟨⟨b, vs, rfl, by rw [kb]; exact hb, h1⟩, by simp only [reach, adr, lstOf, kb, hb, h2]⟩
  | .k kvs, v, h, k => by
    simp only [TreeAt] at h ⊢
    obtain ⟨b, ws, rfl, hb, hk, ht⟩ := h
    simp only [reach, adr, dkOf, hb, List.mem_append, List.mem_singleton] at k
    have kb := k b (.inl rfl)
    obtain ⟨h1, h2⟩ := treesK_keep e kvs _ ht fun a ha => k a (.inr ha)
    exact ⟨⟨b, ws, rfl, by rw [kb]; exact hb, hk, h1⟩, by simp only [reach, adr, dkOf, kb, hb, h2]⟩
  | .o c fs, v, h, k => by
    simp only [TreeAt] at h ⊢
    obtain ⟨b, dx, ws, rfl, hb, hd, hk, ht⟩ := h
    simp only [reach, adr, insOf, dxOf, hb, List.mem_append, List.mem_singleton] at k
    have kb := k b (.inl rfl)
    have kd := k dx (.inr (.inl rfl))
    obtain ⟨h1, h2⟩ := treesK_keep e fs _ ht fun a ha => k a (.inr (.inr ha))
    exact ⟨⟨b, dx, ws, rfl, by rw [kb]; exact hb, by rw [kd]; exact hd, hk, h1⟩, by simp only [reach, adr, insOf, dxOf, kb, hb, h2]⟩
theorem trees_keep (e : Ex G G') : ∀ (ts : List Tr) (vs : List V), TreesAt K G H vs ts → (∀ a, a ∈ reachL H vs ts → H' a = H a) → TreesAt K G' H' vs ts ∧ reachL H' vs ts = reachL H vs ts
  | [], [], _, _ => by simp [TreesAt, reachL]
  | [], _ :: _, h, _ => by simp [TreesAt] at h
  | _ :: _, [], h, _ => by simp [TreesAt] at h
  | t :: ts, v :: vs, h, k => by
    simp only [TreesAt] at h ⊢
    simp only [reachL, List.mem_append] at k
    obtain ⟨a1, a2⟩ := tree_keep e t v h.1 fun a ha => k a (.inl ha)
    obtain ⟨b1, b2⟩ := trees_keep e ts vs h.2 fun a ha => k a (.inr ha)
    exact ⟨⟨a1, b1⟩, by simp only [reachL, a2, b2]⟩
theorem treesK_keep (e : Ex G G') : ∀ (ts : List (Str × Tr)) (vs : List V), TreesK K G H vs ts → (∀ a, a ∈ reachK H vs ts → H' a = H a) → TreesK K G' H' vs ts ∧ reachK H' vs ts = reachK H vs ts
  | [], [], _, _ => by simp [TreesK, reachK]
  | [], _ :: _, h, _ => by simp [TreesK] at h
  | _ :: _, [], h, _ => by simp [TreesK] at h
  | (x, t) :: ts, v :: vs, h, k => by
    simp only [TreesK] at h ⊢
    simp only [reachK, List.mem_append] at k
    obtain ⟨a1, a2⟩ := tree_keep e t v h.1 fun a ha => k a (.inl ha)
    obtain ⟨b1, b2⟩ := treesK_keep e ts vs h.2 fun a ha => k a (.inr ha)
    exact ⟨⟨a1, b1⟩, by simp only [reachK, a2, b2]⟩
end
end
/-- a thing of one's own stands at a slot's value -/
def TSl (K : PySem.W.Frag) (G H : Hp) (T : Tr) (o : Option V) : Prop := ∃ v, o = some v ∧ TreeAt K G H v T ∧ (reach H v T).Nodup ∧ ∀ a, a ∈ reach H v T → G a = none
/-- what a slot's word says of its value -/
def RS (K : PySem.W.Frag) (G H : Hp) (s : Sl) (o : Option V) : Prop := match s with
  | .no => True
  | .v d => ∃ v, o = some v ∧ Dv K G v d
  | .l xs => ∃ a vs, o = some (.ref a) ∧ H a = some (.lst vs) ∧ G a = none ∧ DvAll K G vs xs
  | .p xs => ∃ a vs, o = some (.ref a) ∧ H a = some (.lst vs) ∧ G a = none ∧ DvAll K G vs xs
  | .m kvs => ∃ a vs, o = some (.ref a) ∧ H a = some (.dK vs) ∧ G a = none ∧ DvKv K G vs kvs
  | .n kvs => ∃ a, o = some (.ref a) ∧ G a = some (hoLf a (kvs.map fun kv => (kv.1, oiV kv.2)))
  | .f x => o = some (.ref (He.ga K x))
  | .a b d f => o = some (.ref b) ∧ XD K G d f
  | .t T => TSl K G H T o
  | .u T => TSl K G H T o
/-- what a slot owns -/
def OwnS (H : Hp) (s : Sl) (o : Option V) (a : Addr) : Prop := match s with
  | .l _ => o = some (.ref a)
  | .p _ => o = some (.ref a)
  | .m _ => o = some (.ref a)
  | .t T => ∃ v, o = some v ∧ a ∈ reach H v T
  | .u T => ∃ v, o = some v ∧ a ∈ reach H v T
  | _ => False
/-- slot i owns the object at a -/
def OwnAt (env : DEnv) (σ : St) (H : Hp) (i : Nat) (a : Addr) : Prop := ∃ s o, env[i]? = some s ∧ σ[i]? = some o ∧ OwnS H s o a
def Own (env : DEnv) (σ : St) (H : Hp) (a : Addr) : Prop := ∃ i, OwnAt env σ H i a
theorem OwnS.lst {H : Hp} {s : Sl} {a : Addr} (h : s.lst = true) : OwnS H s (some (.ref a)) a := by cases s <;> first | rfl | cases h
theorem OwnS.own {H : Hp} {s : Sl} {o : Option V} {a : Addr} (h : OwnS H s o a) : s.own = true := by cases s <;> first | rfl | exact h.elim
theorem OwnAt.of {env : DEnv} {σ : St} {H : Hp} {i : Nat} {a : Addr} {s : Sl} (e : env[i]? = some s) (h : s.lst = true) (o : σ[i]? = some (some (.ref a))) : OwnAt env σ H i a := ⟨s, _, e, o, OwnS.lst h⟩
/-- a slot where nothing of its own is changed -/
theorem RS.move {K : PySem.W.Frag} {G H G' H' : Hp} {s : Sl} {o : Option V} (h : RS K G H s o) (e : Ex G G') (k : ∀ a, OwnS H s o a → H' a = H a) (g : ∀ a, OwnS H s o a → G' a = none) : RS K G' H' s o ∧ ∀ a, OwnS H' s o a ↔ OwnS H s o a := by
  cases s with
  | no => exact ⟨trivial, fun _ => Iff.rfl⟩
  | v d => obtain ⟨v, q, h⟩ := h; exact ⟨⟨v, q, h.up e⟩, fun _ => Iff.rfl⟩
  | l xs => obtain ⟨a, vs, q, h1, h2, h3⟩ := h; exact ⟨⟨a, vs, q, by rw [k a q]; exact h1, g a q, h3.up e⟩, fun _ => Iff.rfl⟩
  | p xs => obtain ⟨a, vs, q, h1, h2, h3⟩ := h; exact ⟨⟨a, vs, q, by rw [k a q]; exact h1, g a q, h3.up e⟩, fun _ => Iff.rfl⟩
  | m xs => obtain ⟨a, vs, q, h1, h2, h3⟩ := h; exact ⟨⟨a, vs, q, by rw [k a q]; exact h1, g a q, h3.up e⟩, fun _ => Iff.rfl⟩
  | n xs => obtain ⟨a, q, h1⟩ := h; exact ⟨⟨a, q, e _ _ h1⟩, fun _ => Iff.rfl⟩
  | f x => exact ⟨h, fun _ => Iff.rfl⟩
  | a x _ _ => exact ⟨⟨h.1, h.2.up e⟩, fun _ => Iff.rfl⟩
  | t T =>
    obtain ⟨v, rfl, h1, h2, h3⟩ := h
    obtain ⟨k1, k2⟩ := tree_keep (K := K) e T v h1 fun a ha => k a ⟨v, rfl, ha⟩
    refine ⟨⟨v, rfl, k1, by rw [k2]; exact h2, fun a ha => g a ⟨v, rfl, by rw [← k2]; exact ha⟩⟩, fun a => ?_⟩
    show (∃ w, some v = some w ∧ a ∈ reach H' w T) ↔ ∃ w, some v = some w ∧ a ∈ reach H w T
    constructor <;> (rintro ⟨w, q, hw⟩; cases q; exact ⟨v, rfl, by first | (rw [← k2]; exact hw) | (rw [k2]; exact hw)⟩)
  | u T =>
    obtain ⟨v, rfl, h1, h2, h3⟩ := h
    obtain ⟨k1, k2⟩ := tree_keep (K := K) e T v h1 fun a ha => k a ⟨v, rfl, ha⟩
    refine ⟨⟨v, rfl, k1, by rw [k2]; exact h2, fun a ha => g a ⟨v, rfl, by rw [← k2]; exact ha⟩⟩, fun a => ?_⟩
    show (∃ w, some v = some w ∧ a ∈ reach H' w T) ↔ ∃ w, some v = some w ∧ a ∈ reach H w T
    constructor <;> (rintro ⟨w, q, hw⟩; cases q; exact ⟨v, rfl, by first | (rw [← k2]; exact hw) | (rw [k2]; exact hw)⟩)
/-- what is owned is there -/
theorem RS.there {K : PySem.W.Frag} {G H : Hp} {s : Sl} {o : Option V} (h : RS K G H s o) {a : Addr} (w : OwnS H s o a) : H a ≠ none ∧ G a = none := by
  have one : ∀ {b : Addr} {u : HO}, o = some (.ref b) → H b = some u → G b = none → o = some (.ref a) → H a ≠ none ∧ G a = none := fun {b u} e1 e2 e3 e4 => by
    rw [e1] at e4
    cases e4
    exact ⟨fun z => (by rw [z] at e2; cases e2), e3⟩
  cases s with
  | no => exact w.elim
  | v d => exact w.elim
  | n d => exact w.elim
  | f d => exact w.elim
  | a _ _ _ => exact w.elim
  | l xs => obtain ⟨b, vs, e1, e2, e3, _⟩ := h; exact one e1 e2 e3 w
  | p xs => obtain ⟨b, vs, e1, e2, e3, _⟩ := h; exact one e1 e2 e3 w
  | m xs => obtain ⟨b, vs, e1, e2, e3, _⟩ := h; exact one e1 e2 e3 w
  | t T =>
    obtain ⟨v, rfl, h1, _, h3⟩ := h
    obtain ⟨v', q, w⟩ := w
    cases q
    exact ⟨tree_all T v h1 a w, h3 a w⟩
  | u T =>
    obtain ⟨v, rfl, h1, _, h3⟩ := h
    obtain ⟨v', q, w⟩ := w
    cases q
    exact ⟨tree_all T v h1 a w, h3 a w⟩
structure Rel (K : PySem.W.Frag) (env : DEnv) (σ : St) (G H : Hp) : Prop where
  ex : Ex G H
  len : env.length = σ.length
  slot : ∀ (i : Nat) (s : Sl) (o : Option V), env[i]? = some s → σ[i]? = some o → RS K G H s o
  dist : ∀ (i j : Nat) (a : Addr), OwnAt env σ H i a → OwnAt env σ H j a → i = j
structure Fr (env : DEnv) (σ : St) (G H : Hp) (env' : DEnv) (σ' : St) (G' H' : Hp) : Prop where
  gg : Ex G G'
  keep : ∀ a o, H a = some o → ¬ Own env σ H a → H' a = some o
  dom : ∀ a, H' a = none → H a = none
  fresh : ∀ a, G' a ≠ none → G a ≠ none ∨ H a = none ∨ Own env σ H a
  own : ∀ a, Own env' σ' H' a → Own env σ H a ∨ H a = none
  par : ∀ (i : Nat) (s : Sl), env'[i]? = some s → s.pk ≠ 0 → σ'[i]? = σ[i]? ∧ ∃ s0, env[i]? = some s0 ∧ s0.pk = s.pk
theorem Fr.refl (env : DEnv) (σ : St) (G H : Hp) : Fr env σ G H env σ G H :=
  ⟨Ex.refl _, fun _ _ h _ => h, fun _ h => h, fun _ h => .inl h, fun _ h => .inl h, fun _ s h _ => ⟨rfl, s, h, rfl⟩⟩
theorem Fr.trans {e0 e1 e2 : DEnv} {s0 s1 s2 : St} {G0 G1 G2 H0 H1 H2 : Hp} (x : Fr e0 s0 G0 H0 e1 s1 G1 H1) (y : Fr e1 s1 G1 H1 e2 s2 G2 H2) : Fr e0 s0 G0 H0 e2 s2 G2 H2 where
  gg := x.gg.trans y.gg
  keep := fun a o h n => y.keep a o (x.keep a o h n) fun q => by
    rcases x.own a q with q | q
    · exact n q
    · rw [q] at h; cases h
  dom := fun a h => x.dom a (y.dom a h)
  fresh := fun a h => by
    rcases y.fresh a h with q | q | q
    · exact x.fresh a q
    · exact .inr (.inl (x.dom a q))
    · rcases x.own a q with q | q
      · exact .inr (.inr q)
      · exact .inr (.inl q)
  own := fun a h => by
    rcases y.own a h with q | q
    · exact x.own a q
    · exact .inr (x.dom a q)
  par := fun i s h n => by
    obtain ⟨a, t, b, c⟩ := y.par i s h n
    obtain ⟨a2, t2, b2, c2⟩ := x.par i t b (by rw [c]; exact n)
    exact ⟨a.trans a2, t2, b2, c2.trans c⟩
theorem OwnAt.there {K : PySem.W.Frag} {env : DEnv} {σ : St} {G H : Hp} (R : Rel K env σ G H) {i : Nat} {a : Addr} (h : OwnAt env σ H i a) : H a ≠ none ∧ G a = none := by
  obtain ⟨s, o, e, q, w⟩ := h
  exact (R.slot i s o e q).there w
theorem Own.there {K : PySem.W.Frag} {env : DEnv} {σ : St} {G H : Hp} (R : Rel K env σ G H) {a : Addr} (h : Own env σ H a) : H a ≠ none ∧ G a = none := let ⟨_, q⟩ := h; q.there R
/-- what is owned stays owned where nothing of it is changed -/
theorem OwnAt.move {K : PySem.W.Frag} {env : DEnv} {σ : St} {G H G' H' : Hp} (R : Rel K env σ G H) {i : Nat} (e : Ex G G') (k : ∀ b, OwnAt env σ H i b → H' b = H b) (g : ∀ b, OwnAt env σ H i b → G' b = none) {a : Addr} : OwnAt env σ H' i a ↔ OwnAt env σ H i a := by
  constructor
  · rintro ⟨s, o, e1, e2, w⟩
    exact ⟨s, o, e1, e2, (((R.slot i s o e1 e2).move e (fun b hb => k b ⟨s, o, e1, e2, hb⟩) (fun b hb => g b ⟨s, o, e1, e2, hb⟩)).2 a).1 w⟩
  · rintro ⟨s, o, e1, e2, w⟩
    exact ⟨s, o, e1, e2, (((R.slot i s o e1 e2).move e (fun b hb => k b ⟨s, o, e1, e2, hb⟩) (fun b hb => g b ⟨s, o, e1, e2, hb⟩)).2 a).2 w⟩
/-- all slots stand where nothing of theirs is changed -/
theorem Rel.move {K : PySem.W.Frag} {env : DEnv} {σ : St} {G H G' H' : Hp} (R : Rel K env σ G H) (ex : Ex G' H') (e : Ex G G') (k : ∀ a, Own env σ H a → H' a = H a) (g : ∀ a, Own env σ H a → G' a = none) : Rel K env σ G' H' ∧ ∀ i a, OwnAt env σ H' i a ↔ OwnAt env σ H i a := by
  have m : ∀ i a, OwnAt env σ H' i a ↔ OwnAt env σ H i a := fun i a => OwnAt.move R e (fun b h => k b ⟨i, h⟩) fun b h => g b ⟨i, h⟩
  exact ⟨⟨ex, R.len, fun i s o e1 e2 => ((R.slot i s o e1 e2).move e (fun a w => k a ⟨i, s, o, e1, e2, w⟩) fun a w => g a ⟨i, s, o, e1, e2, w⟩).1, fun i j a x y => R.dist i j a ((m i a).1 x) ((m j a).1 y)⟩, m⟩
/-- only new things that stand still come -/
structure Grow (G H G' H' : Hp) : Prop where
  gg : Ex G G'
  hh : Ex H H'
  ex : Ex G' H'
  fresh : ∀ a, G' a ≠ none → G a ≠ none ∨ H a = none
theorem Grow.refl {G H : Hp} (e : Ex G H) : Grow G H G H := ⟨Ex.refl _, Ex.refl _, e, fun _ h => .inl h⟩
theorem Grow.one {G H : Hp} {p : Addr} {o : HO} (e : Ex G H) (h : H p = none) : Grow G H (upd G p o) (upd H p o) :=
  ⟨Ex.new (e.none h), Ex.new h, e.both, fun a q => by
    by_cases hp : a = p
    · subst hp; exact .inr h
    · rw [upd_ne hp] at q; exact .inl q⟩
theorem Grow.trans {G H G1 H1 G2 H2 : Hp} (a : Grow G H G1 H1) (b : Grow G1 H1 G2 H2) : Grow G H G2 H2 :=
  ⟨a.gg.trans b.gg, a.hh.trans b.hh, b.ex, fun x q => by
    rcases b.fresh x q with z | z
    · exact a.fresh x z
    · exact .inr (a.hh.none z)⟩
theorem Grow.nn {G H G' H' : Hp} (g : Grow G H G' H') {a : Addr} (h1 : H a ≠ none) (h2 : G a = none) : G' a = none := by
  cases q : G' a with
  | none => rfl
  | some z =>
    rcases g.fresh a (by rw [q]; exact fun z => by cases z) with y | y
    · exact absurd h2 y
    · exact absurd y h1
theorem Grow.hs {G H G' H' : Hp} (g : Grow G H G' H') {a : Addr} (h1 : H a ≠ none) : H' a = H a := by
  cases q : H a with
  | none => exact absurd q h1
  | some o => exact g.hh _ _ q
theorem RS.grow {K : PySem.W.Frag} {G H G' H' : Hp} (g : Grow G H G' H') {s : Sl} {o : Option V} (h : RS K G H s o) : RS K G' H' s o :=
  (h.move g.gg (fun a w => g.hs (h.there w).1) fun a w => g.nn (h.there w).1 (h.there w).2).1
theorem Rel.growO {K : PySem.W.Frag} {env : DEnv} {σ : St} {G H G' H' : Hp} (R : Rel K env σ G H) (g : Grow G H G' H') : Rel K env σ G' H' ∧ ∀ i a, OwnAt env σ H' i a ↔ OwnAt env σ H i a :=
  R.move g.ex g.gg (fun _ w => g.hs (w.there R).1) fun _ w => g.nn (w.there R).1 (w.there R).2
theorem Rel.grow {K : PySem.W.Frag} {env : DEnv} {σ : St} {G H G' H' : Hp} (R : Rel K env σ G H) (g : Grow G H G' H') : Rel K env σ G' H' := (R.growO g).1
theorem Grow.fr {K : PySem.W.Frag} {env : DEnv} {σ : St} {G H G' H' : Hp} (g : Grow G H G' H') (R : Rel K env σ G H) : Fr env σ G H env σ G' H' :=
  ⟨g.gg, fun a o h _ => g.hh a o h, fun a h => g.hh.none h, fun a h => (g.fresh a h).elim .inl fun z => .inr (.inl z), fun a h => .inl (let ⟨i, w⟩ := h; ⟨i, ((R.growO g).2 i a).1 w⟩), fun _ s h _ => ⟨rfl, s, h, rfl⟩⟩
/-- one slot is put otherwise -/
theorem Rel.put {K : PySem.W.Frag} {env : DEnv} {σ σ' : St} {G H G' H' : Hp} {i : Nat} {s1 : Sl} {o1 : Option V} (R : Rel K env σ G H) (li : i < env.length) (hl : σ'.length = σ.length) (hs : σ'[i]? = some o1) (hn : ∀ j, j ≠ i → σ'[j]? = σ[j]?) (ex : Ex G' H') (e : Ex G G')
    (k : ∀ j a, j ≠ i → OwnAt env σ H j a → H' a = H a ∧ G' a = none) (n : RS K G' H' s1 o1) (d : ∀ a, OwnS H' s1 o1 a → ∀ j, j ≠ i → ¬ OwnAt env σ H j a) :
    Rel K (env.set i s1) σ' G' H' ∧ (∀ a, OwnAt (env.set i s1) σ' H' i a ↔ OwnS H' s1 o1 a) ∧ ∀ j a, j ≠ i → (OwnAt (env.set i s1) σ' H' j a ↔ OwnAt env σ H j a) := by
  have m : ∀ a, OwnAt (env.set i s1) σ' H' i a ↔ OwnS H' s1 o1 a := fun a => by
    constructor
    · rintro ⟨s, o, e1, e2, w⟩
      rw [List.getElem?_set_self li] at e1
      rw [hs] at e2
      cases e1; cases e2
      exact w
    · exact fun w => ⟨_, _, List.getElem?_set_self li, hs, w⟩
  have m2 : ∀ j a, j ≠ i → (OwnAt (env.set i s1) σ' H' j a ↔ OwnAt env σ H j a) := fun j a ne => by
    rw [← OwnAt.move R (i := j) e (fun b h => (k j b ne h).1) (fun b h => (k j b ne h).2)]
    constructor
    · rintro ⟨s, o, e1, e2, w⟩
      rw [List.getElem?_set_ne (Ne.symm ne)] at e1
      rw [hn j ne] at e2
      exact ⟨s, o, e1, e2, w⟩
    · rintro ⟨s, o, e1, e2, w⟩
      exact ⟨s, o, by rw [List.getElem?_set_ne (Ne.symm ne)]; exact e1, by rw [hn j ne]; exact e2, w⟩
  refine ⟨⟨ex, by rw [List.length_set, hl]; exact R.len, fun j s o e1 e2 => ?_, fun j l a x y => ?_⟩, m, m2⟩
  · by_cases z : j = i
    · subst z
      rw [List.getElem?_set_self li] at e1
      rw [hs] at e2
      cases e1; cases e2
      exact n
    · rw [List.getElem?_set_ne (Ne.symm z)] at e1
      rw [hn j z] at e2
      exact ((R.slot j s o e1 e2).move e (fun a w => (k j a z ⟨s, o, e1, e2, w⟩).1) fun a w => (k j a z ⟨s, o, e1, e2, w⟩).2).1
  · by_cases z : j = i
    · subst z
      by_cases z2 : l = j
      · exact z2.symm
      · exact absurd ((m2 l a z2).1 y) (d a ((m a).1 x) l z2)
    · by_cases z2 : l = i
      · subst z2
        exact absurd ((m2 j a z).1 x) (d a ((m a).1 y) j z)
      · exact R.dist j l a ((m2 j a z).1 x) ((m2 l a z2).1 y)
theorem Fr.put {K : PySem.W.Frag} {env : DEnv} {σ σ' : St} {G H G' H' : Hp} {i : Nat} {s1 : Sl} {o1 : Option V} (R : Rel K env σ G H) (li : i < env.length) (hs : σ'[i]? = some o1) (hn : ∀ j, j ≠ i → σ'[j]? = σ[j]?) (e : Ex G G')
    (k : ∀ j a, j ≠ i → OwnAt env σ H j a → H' a = H a ∧ G' a = none) (keep : ∀ a o, H a = some o → ¬ Own env σ H a → H' a = some o) (dom : ∀ a, H' a = none → H a = none) (fresh : ∀ a, G' a ≠ none → G a ≠ none ∨ H a = none ∨ Own env σ H a)
    (own : ∀ a, OwnS H' s1 o1 a → Own env σ H a ∨ H a = none) (par : s1.pk ≠ 0 → σ'[i]? = σ[i]? ∧ ∃ s0, env[i]? = some s0 ∧ s0.pk = s1.pk) : Fr env σ G H (env.set i s1) σ' G' H' := by
  refine ⟨e, keep, dom, fresh, fun a ⟨j, w⟩ => ?_, fun j s h n => ?_⟩
  · obtain ⟨s, o, e1, e2, w⟩ := w
    by_cases z : j = i
    · subst z
      rw [List.getElem?_set_self li] at e1
      rw [hs] at e2
      cases e1; cases e2
      exact own a w
    · rw [List.getElem?_set_ne (Ne.symm z)] at e1
      rw [hn j z] at e2
      exact .inl ⟨j, (OwnAt.move R (i := j) e (fun b h => (k j b z h).1) (fun b h => (k j b z h).2)).1 ⟨s, o, e1, e2, w⟩⟩
  · by_cases z : j = i
    · subst z
      rw [List.getElem?_set_self li] at h
      cases h
      exact par n
    · rw [List.getElem?_set_ne (Ne.symm z)] at h
      exact ⟨hn j z, s, h, rfl⟩
/-- an exception by data -/
def XRel (K : PySem.W.Frag) (mg : Str → Option Value) (x : Xc) (cls : Value) (dd : Option Addr) (G H : Hp) : Prop :=
  mg x.c = some cls ∧ XD K G dd x.f
section
variable (K : PySem.W.Frag) (mg : Str → Option Value) (W : WX)
def RunX (env : DEnv) (σ : St) (G H : Hp) (x : Xc) (env' : DEnv) : Prop :=
  ∀ cls dd G' H', XRel K mg x cls dd G' H' → Rel K env' σ G' H' → Fr env σ G H env' σ G' H' → W cls dd σ H'
def RunE (env : DEnv) (σ : St) (G H : Hp) (r : Rs D) (Q : VK) : Prop := match r with
  | .ok d env' => ∀ v G' H', Rel K env' σ G' H' → Dv K G' v d → Fr env σ G H env' σ G' H' → Q v H'
  | .ex x env' => RunX K mg W env σ G H x env'
  | .stuck => False
def RunT (env : DEnv) (σ : St) (G H : Hp) (r : Rs Bool) (Q : Bool → Hp → Prop) : Prop := match r with
  | .ok b env' => ∀ G' H', Rel K env' σ G' H' → Fr env σ G H env' σ G' H' → Q b H'
  | .ex x env' => RunX K mg W env σ G H x env'
  | .stuck => False
def RunA (env : DEnv) (σ : St) (G H : Hp) (r : Rs (List D)) (Q : List V → Hp → Prop) : Prop := match r with
  | .ok ds env' => ∀ vs G' H', Rel K env' σ G' H' → DvAll K G' vs ds → Fr env σ G H env' σ G' H' → Q vs H'
  | .ex x env' => RunX K mg W env σ G H x env'
  | .stuck => False
/-- a list that nobody else holds -/
def RunL (env : DEnv) (σ : St) (G H : Hp) (r : Rs (List D)) (Q : VK) : Prop := match r with
  | .ok ds env' => ∀ a vs G' H', Rel K env' σ G' H' → H' a = some (.lst vs) → G' a = none → H a = none → ¬ Own env' σ H' a → DvAll K G' vs ds → Fr env σ G H env' σ G' H' → Q (.ref a) H'
  | .ex x env' => RunX K mg W env σ G H x env'
  | .stuck => False
def rdE (de : DE) : TE := fun σ H Q => ∃ env G, Rel K env σ G H ∧ RunE K mg W env σ G H (de env) Q
def rdT (de : DT) : TT := fun σ H Q => ∃ env G, Rel K env σ G H ∧ RunT K mg W env σ G H (de env) Q
def rdA (de : DA) : TA := fun σ H Q => ∃ env G, Rel K env σ G H ∧ RunA K mg W env σ G H (de env) Q
def rdL (de : DA) : TE := fun σ H Q => ∃ env G, Rel K env σ G H ∧ RunL K mg W env σ G H (de env) Q
end
section
variable {K : PySem.W.Frag} {mg : Str → Option Value} {W : WX} {env env1 : DEnv} {σ : St} {G H G1 H1 : Hp}
theorem RunX.shift {x : Xc} {env' : DEnv} (h : RunX K mg W env σ G H x env') (f : Fr env σ G H env1 σ G1 H1) : RunX K mg W env1 σ G1 H1 x env' :=
  fun cls dd G' H' a b c => h cls dd G' H' a b (f.trans c)
theorem RunE.shift {r : Rs D} {Q : VK} (h : RunE K mg W env σ G H r Q) (f : Fr env σ G H env1 σ G1 H1) : RunE K mg W env1 σ G1 H1 r Q := by
  cases r with
  | ok d e => exact fun v G' H' a b c => h v G' H' a b (f.trans c)
  | ex x e => exact RunX.shift h f
  | stuck => exact h
theorem RunT.shift {r : Rs Bool} {Q : Bool → Hp → Prop} (h : RunT K mg W env σ G H r Q) (f : Fr env σ G H env1 σ G1 H1) : RunT K mg W env1 σ G1 H1 r Q := by
  cases r with
  | ok d e => exact fun G' H' a c => h G' H' a (f.trans c)
  | ex x e => exact RunX.shift h f
  | stuck => exact h
theorem RunA.shift {r : Rs (List D)} {Q : List V → Hp → Prop} (h : RunA K mg W env σ G H r Q) (f : Fr env σ G H env1 σ G1 H1) : RunA K mg W env1 σ G1 H1 r Q := by
  cases r with
  | ok d e => exact fun v G' H' a b c => h v G' H' a b (f.trans c)
  | ex x e => exact RunX.shift h f
  | stuck => exact h
theorem RunL.shift {r : Rs (List D)} {Q : VK} (h : RunL K mg W env σ G H r Q) (f : Fr env σ G H env1 σ G1 H1) : RunL K mg W env1 σ G1 H1 r Q := by
  cases r with
  | ok d e => exact fun a vs G' H' R h1 h2 h3 h4 h5 h6 => h a vs G' H' R h1 h2 (f.dom a h3) h4 h5 (f.trans h6)
  | ex x e => exact RunX.shift h f
  | stuck => exact h
/-- an expression, then the rest -/
theorem E_then {de : DE} {β : Type} {f : D → DEnv → Rs β} {R : VK} (hR : Rel K env σ G H) {P : DEnv → St → Hp → Hp → Rs β → Prop}
    (h : P env σ G H ((de env).bind f)) (hx : ∀ x e, P env σ G H (.ex x e) → RunX K mg W env σ G H x e) (hst : ¬ P env σ G H .stuck)
    (hsh : ∀ e1 G1 H1 r, P env σ G H r → Fr env σ G H e1 σ G1 H1 → P e1 σ G1 H1 r)
    (k : ∀ d e1 v G1 H1, de env = .ok d e1 → Rel K e1 σ G1 H1 → Dv K G1 v d → Fr env σ G H e1 σ G1 H1 → P e1 σ G1 H1 (f d e1) → R v H1) : rdE K mg W de σ H R := by
  refine ⟨env, G, hR, ?_⟩
  cases q : de env with
  | ok d e1 =>
    rw [q] at h
    exact fun v G1 H1 a b c => k d e1 v G1 H1 q a b c (hsh _ _ _ _ h c)
  | ex x e => rw [q] at h; exact hx x e h
  | stuck => rw [q] at h; exact (hst h).elim
theorem E_thenE {de : DE} {f : D → DEnv → Rs D} {Q R : VK} (hR : Rel K env σ G H) (h : RunE K mg W env σ G H ((de env).bind f) Q)
    (k : ∀ d e1 v G1 H1, de env = .ok d e1 → Rel K e1 σ G1 H1 → Dv K G1 v d → Fr env σ G H e1 σ G1 H1 → RunE K mg W e1 σ G1 H1 (f d e1) Q → R v H1) : rdE K mg W de σ H R :=
  E_then hR (P := fun e s G H r => RunE K mg W e s G H r Q) h (fun _ _ z => z) (fun z => z) (fun _ _ _ _ a b => a.shift b) k
theorem E_thenT {de : DE} {f : D → DEnv → Rs Bool} {Q : Bool → Hp → Prop} {R : VK} (hR : Rel K env σ G H) (h : RunT K mg W env σ G H ((de env).bind f) Q)
    (k : ∀ d e1 v G1 H1, de env = .ok d e1 → Rel K e1 σ G1 H1 → Dv K G1 v d → Fr env σ G H e1 σ G1 H1 → RunT K mg W e1 σ G1 H1 (f d e1) Q → R v H1) : rdE K mg W de σ H R :=
  E_then hR (P := fun e s G H r => RunT K mg W e s G H r Q) h (fun _ _ z => z) (fun z => z) (fun _ _ _ _ a b => a.shift b) k
theorem E_thenA {de : DE} {f : D → DEnv → Rs (List D)} {Q : List V → Hp → Prop} {R : VK} (hR : Rel K env σ G H) (h : RunA K mg W env σ G H ((de env).bind f) Q)
    (k : ∀ d e1 v G1 H1, de env = .ok d e1 → Rel K e1 σ G1 H1 → Dv K G1 v d → Fr env σ G H e1 σ G1 H1 → RunA K mg W e1 σ G1 H1 (f d e1) Q → R v H1) : rdE K mg W de σ H R :=
  E_then hR (P := fun e s G H r => RunA K mg W e s G H r Q) h (fun _ _ z => z) (fun z => z) (fun _ _ _ _ a b => a.shift b) k
theorem E_thenL {de : DE} {f : D → DEnv → Rs (List D)} {Q R : VK} (hR : Rel K env σ G H) (h : RunL K mg W env σ G H ((de env).bind f) Q)
    (k : ∀ d e1 v G1 H1, de env = .ok d e1 → Rel K e1 σ G1 H1 → Dv K G1 v d → Fr env σ G H e1 σ G1 H1 → RunL K mg W e1 σ G1 H1 (f d e1) Q → R v H1) : rdE K mg W de σ H R :=
  E_then hR (P := fun e s G H r => RunL K mg W e s G H r Q) h (fun _ _ z => z) (fun z => z) (fun _ _ _ _ a b => a.shift b) k
theorem A_then {de : DA} {β : Type} {f : List D → DEnv → Rs β} {R : List V → Hp → Prop} (hR : Rel K env σ G H) {P : DEnv → St → Hp → Hp → Rs β → Prop}
    (h : P env σ G H ((de env).bind f)) (hx : ∀ x e, P env σ G H (.ex x e) → RunX K mg W env σ G H x e) (hst : ¬ P env σ G H .stuck)
    (hsh : ∀ e1 G1 H1 r, P env σ G H r → Fr env σ G H e1 σ G1 H1 → P e1 σ G1 H1 r)
    (k : ∀ d e1 v G1 H1, de env = .ok d e1 → Rel K e1 σ G1 H1 → DvAll K G1 v d → Fr env σ G H e1 σ G1 H1 → P e1 σ G1 H1 (f d e1) → R v H1) : rdA K mg W de σ H R := by
  refine ⟨env, G, hR, ?_⟩
  cases q : de env with
  | ok d e1 =>
    rw [q] at h
    exact fun v G1 H1 a b c => k d e1 v G1 H1 q a b c (hsh _ _ _ _ h c)
  | ex x e => rw [q] at h; exact hx x e h
  | stuck => rw [q] at h; exact (hst h).elim
theorem A_thenE {de : DA} {f : List D → DEnv → Rs D} {Q : VK} {R : List V → Hp → Prop} (hR : Rel K env σ G H) (h : RunE K mg W env σ G H ((de env).bind f) Q)
    (k : ∀ d e1 v G1 H1, de env = .ok d e1 → Rel K e1 σ G1 H1 → DvAll K G1 v d → Fr env σ G H e1 σ G1 H1 → RunE K mg W e1 σ G1 H1 (f d e1) Q → R v H1) : rdA K mg W de σ H R :=
  A_then hR (P := fun e s G H r => RunE K mg W e s G H r Q) h (fun _ _ z => z) (fun z => z) (fun _ _ _ _ a b => a.shift b) k
theorem A_thenA {de : DA} {f : List D → DEnv → Rs (List D)} {Q R : List V → Hp → Prop} (hR : Rel K env σ G H) (h : RunA K mg W env σ G H ((de env).bind f) Q)
    (k : ∀ d e1 v G1 H1, de env = .ok d e1 → Rel K e1 σ G1 H1 → DvAll K G1 v d → Fr env σ G H e1 σ G1 H1 → RunA K mg W e1 σ G1 H1 (f d e1) Q → R v H1) : rdA K mg W de σ H R :=
  A_then hR (P := fun e s G H r => RunA K mg W e s G H r Q) h (fun _ _ z => z) (fun z => z) (fun _ _ _ _ a b => a.shift b) k
theorem A_thenL {de : DA} {f : List D → DEnv → Rs (List D)} {Q : VK} {R : List V → Hp → Prop} (hR : Rel K env σ G H) (h : RunL K mg W env σ G H ((de env).bind f) Q)
    (k : ∀ d e1 v G1 H1, de env = .ok d e1 → Rel K e1 σ G1 H1 → DvAll K G1 v d → Fr env σ G H e1 σ G1 H1 → RunL K mg W e1 σ G1 H1 (f d e1) Q → R v H1) : rdA K mg W de σ H R :=
  A_then hR (P := fun e s G H r => RunL K mg W e s G H r Q) h (fun _ _ z => z) (fun z => z) (fun _ _ _ _ a b => a.shift b) k
theorem RunE.grow {d : D} {Q : VK} (h : RunE K mg W env σ G H (.ok d env) Q) (R : Rel K env σ G H) {v : V} (g : Grow G H G1 H1) (dp : Dv K G1 v d) : Q v H1 := h v G1 H1 (R.grow g) dp (g.fr R)
end
theorem pe_imp {X : Cx} {e : Expr} {t t' : TE} (h : PE X e t) (k : ∀ σ H Q, t' σ H Q → t σ H Q) : PE X e t' := ⟨fun pins s σ H Q I w => h.run pins s σ H Q I (k σ H Q w)⟩
theorem pt_imp {X : Cx} {e : Expr} {t t' : TT} (h : PT X e t) (k : ∀ σ H Q, t' σ H Q → t σ H Q) : PT X e t' := ⟨fun pins s σ H Q I w => h.run pins s σ H Q I (k σ H Q w)⟩
theorem pw_imp {X : Cx} {e : Expr} {t t' : TT} (h : PW X e t) (k : ∀ σ H Q, t' σ H Q → t σ H Q) : PW X e t' := ⟨fun wh pins s σ H Q I w => h.run wh pins s σ H Q I (k σ H Q w)⟩
theorem pa_imp {X : Cx} {e : List Expr} {t t' : TA} (h : PA X e t) (k : ∀ σ H Q, t' σ H Q → t σ H Q) : PA X e t' := ⟨fun pos pins s σ H Q I w => h.run pos pins s σ H Q I (k σ H Q w)⟩
theorem ps_imp {X : Cx} {e : Stmt} {t t' : TS} (h : PS X e t) (k : ∀ D σ H, t' D σ H → t D σ H) : PS X e t' := ⟨fun pins s σ H D I w => h.run pins s σ H D I (k D σ H w)⟩
theorem pss_imp {X : Cx} {e : List Stmt} {t t' : TS} (h : PSs X e t) (k : ∀ D σ H, t' D σ H → t D σ H) : PSs X e t' := ⟨fun pins s σ H D I w => h.run pins s σ H D I (k D σ H w)⟩
abbrev CE (X : Cx) (W : WX) (e : Expr) (de : DE) : Prop := PE X e (rdE X.K X.mg W de)
abbrev CT (X : Cx) (W : WX) (e : Expr) (de : DT) : Prop := PT X e (rdT X.K X.mg W de)
abbrev CW (X : Cx) (W : WX) (e : Expr) (de : DT) : Prop := PW X e (rdT X.K X.mg W de)
abbrev CA (X : Cx) (W : WX) (es : List Expr) (de : DA) : Prop := PA X es (rdA X.K X.mg W de)
abbrev CL (X : Cx) (W : WX) (e : Expr) (de : DA) : Prop := PE X e (rdL X.K X.mg W de)
end DL
set_option Elab.async false
set_option linter.all false
set_option maxRecDepth 100000
set_option autoImplicit false
namespace DL
open PySem L2
def eVar (i : Nat) : DE := fun env => match env[i]? with
  | some (.v d) => .ok d env
  | some (.l xs) => .ok (.list xs) (env.set i (.v (.list xs)))
  | some (.m xs) => .ok (.dict xs) (env.set i (.v (.dict xs)))
  | _ => .stuck
def eC (d : D) : DE := fun env => .ok d env
def eBin (f : D → D → Option D) (da db : DE) : DE := fun env => (da env).bind fun x e1 => (db e1).bind fun y e2 => put (f x y) e2
def eCB (f : List D → Option D) (da : DA) : DE := fun env => (da env).bind fun xs e1 => put (f xs) e1
def aNil : DA := fun env => .ok [] env
def aCons (de : DE) (da : DA) : DA := fun env => (de env).bind fun x e1 => (da e1).bind fun xs e2 => .ok (x :: xs) e2
def eTup (da : DA) : DE := fun env => (da env).bind fun xs e1 => if xs.length ≤ 100000 then .ok (.tuple xs) e1 else .stuck
def lLst (da : DA) : DA := fun env => (da env).bind fun xs e1 => if xs.length ≤ 100000 then .ok xs e1 else .stuck
/-- a new list that stands still from now on -/
def eLst (da : DA) : DE := fun env => (da env).bind fun xs e1 => .ok (.list xs) e1
def tTst (de : DE) : DT := fun env => (de env).bind fun d e1 => match d with
  | .bool b => .ok b e1
  | _ => .stuck
def truth : D → Option Bool
  | .none => some false
  | .bool b => some b
  | .int i => some (i != 0)
  | .str x => if x.length ≤ 100000 then some ((x.length : Int) != 0) else none
  | .list xs => some (!xs.isEmpty)
  | .tuple xs => some (!xs.isEmpty)
  | .dict _ => none
def tTru (de : DE) : DT := fun env => (de env).bind fun d e1 => put (truth d) e1
def tAndD (t u : DT) : DT := fun env => (t env).bind fun b e1 => if b then u e1 else .ok false e1
def tOrD (t u : DT) : DT := fun env => (t env).bind fun b e1 => if b then .ok true e1 else u e1
def tNotD (t : DT) : DT := fun env => (t env).bind fun b e1 => .ok (!b) e1
def eIf (t : DT) (da db : DE) : DE := fun env => (t env).bind fun b e1 => if b then da e1 else db e1
/-- and, or as values, all but the last True or False -/
def eAnd (da db : DE) : DE := fun env => (da env).bind fun x e1 => match x with
  | .bool true => db e1
  | .bool false => .ok (.bool false) e1
  | _ => .stuck
def eOr (da db : DE) : DE := fun env => (da env).bind fun x e1 => match x with
  | .bool true => .ok (.bool true) e1
  | .bool false => db e1
  | _ => .stuck
def eNot (da : DE) : DE := fun env => (da env).bind fun x e1 => match x with
  | .bool b => .ok (.bool (!b)) e1
  | _ => .stuck
def OpD (K : PySem.W.Frag) (r : R2) (f : D → D → Option D) : Prop := ∀ (x y : V) (d e z : D) (G H : Hp) (Q : VK), Dv K G x d → Dv K G y e → Ex G H → f d e = some z → (∀ v G' H', Dv K G' v z → Grow G H G' H' → Q v H') → r x y H Q
def CbD (K : PySem.W.Frag) (r : List V → Hp → VK → Prop) (f : List D → Option D) : Prop := ∀ (xs : List V) (ds : List D) (z : D) (G H : Hp) (Q : VK), DvAll K G xs ds → Ex G H → f ds = some z → (∀ v G' H', Dv K G' v z → Grow G H G' H' → Q v H') → r xs H Q
def OlD (K : PySem.W.Frag) (r : R2) (f : D → D → Option (List D)) : Prop := ∀ (x y : V) (d e : D) (zs : List D) (G H : Hp) (Q : VK), Dv K G x d → Dv K G y e → Ex G H → f d e = some zs →
  (∀ a vs, H a = none → DvAll K G vs zs → Q (.ref a) (upd H a (.lst vs))) → r x y H Q
section
variable {K : PySem.W.Frag} {mg : Str → Option Value} {W : WX}
theorem OpD.or {r r' : R2} {f g : D → D → Option D} (h : OpD K r f) (h' : OpD K r' g) : OpD K (fun x y H Q => r x y H Q ∨ r' x y H Q) (fun x y => match f x y with | some z => some z | none => g x y) := by
  intro x y d e z G H Q hx hy ex hf k
  cases q : f d e with
  | some w =>
    simp only [q, Option.some.injEq] at hf
    subst hf
    exact .inl (h x y d e _ G H Q hx hy ex q k)
  | none =>
    simp only [q] at hf
    exact .inr (h' x y d e z G H Q hx hy ex hf k)
theorem CbD.or {r r' : List V → Hp → VK → Prop} {f g : List D → Option D} (h : CbD K r f) (h' : CbD K r' g) : CbD K (fun xs H Q => r xs H Q ∨ r' xs H Q) (fun xs => match f xs with | some z => some z | none => g xs) := by
  intro xs ds z G H Q hx ex hf k
  cases q : f ds with
  | some w =>
    simp only [q, Option.some.injEq] at hf
    subst hf
    exact .inl (h xs ds _ G H Q hx ex q k)
  | none =>
    simp only [q] at hf
    exact .inr (h' xs ds z G H Q hx ex hf k)
/-- the answer where it was asked -/
theorem RunE.put {env : DEnv} {σ : L2.St} {G H : Hp} {o : Option D} {Q : VK} (R : Rel K env σ G H) (h : RunE K mg W env σ G H (put o env) Q)
    : ∃ z, o = some z ∧ ∀ v G' H', Dv K G' v z → Grow G H G' H' → Q v H' := by
  cases o with
  | none => exact h.elim
  | some z => exact ⟨z, rfl, fun v G' H' dv g => h v G' H' (R.grow g) dv (g.fr R)⟩
theorem bin_ok {r : R2} {f : D → D → Option D} (o : OpD K r f) (da db : DE) (σ : L2.St) (H : Hp) (Q : VK) (h : rdE K mg W (eBin f da db) σ H Q) : tOp r (rdE K mg W da) (rdE K mg W db) σ H Q := by
  obtain ⟨env, G, R, h⟩ := h
  refine E_thenE R h fun d e1 v G1 H1 _ R1 dv F1 h1 => E_thenE R1 h1 fun d2 e2 v2 G2 H2 _ R2 dv2 F2 h2 => ?_
  obtain ⟨z, e, k⟩ := RunE.put R2 h2
  exact o v v2 d d2 z G2 H2 Q (dv.up F2.gg) dv2 R2.ex e k
theorem cb_ok {r : List V → Hp → VK → Prop} {f : List D → Option D} (o : CbD K r f) (da : DA) (σ : L2.St) (H : Hp) (Q : VK) (h : rdE K mg W (eCB f da) σ H Q) : tCB r (rdA K mg W da) σ H Q := by
  obtain ⟨env, G, R, h⟩ := h
  refine A_thenE R h fun d e1 v G1 H1 _ R1 dv F1 h1 => ?_
  obtain ⟨z, e, k⟩ := RunE.put R1 h1
  exact o v d z G1 H1 Q dv R1.ex e k
/-- a new list laid: it is nobody's -/
theorem Rel.laid1 {env : DEnv} {σ : L2.St} {G H : Hp} {a : Addr} {o : HO} (R : Rel K env σ G H) (ha : H a = none) : Rel K env σ G (upd H a o) ∧ ∀ i b, OwnAt env σ (upd H a o) i b ↔ OwnAt env σ H i b :=
  R.move (fun b u hb => (by rw [upd_ne (fun z => by subst z; rw [R.ex.none ha] at hb; cases hb)]; exact R.ex b u hb)) (Ex.refl _) (fun b w => upd_ne fun z => (by subst z; exact (w.there R).1 ha)) fun b w => (w.there R).2
theorem RunL.new {env : DEnv} {σ : L2.St} {G H : Hp} {zs : List D} {vs : List V} {Q : VK} {a : Addr} (R : Rel K env σ G H) (h : RunL K mg W env σ G H (.ok zs env) Q) (ha : H a = none) (dv : DvAll K G vs zs) : Q (.ref a) (upd H a (.lst vs)) := by
  have ga : G a = none := R.ex.none ha
  obtain ⟨R2, m⟩ := R.laid1 (o := .lst vs) ha
  refine h a vs G (upd H a (.lst vs)) R2 upd_same ga ha (fun ⟨i, w⟩ => (((m i a).1 w).there R).1 ha) dv
    ⟨Ex.refl _, fun b o hb _ => ?_, fun b hb => ?_, fun b hb => .inl hb, fun b ⟨i, w⟩ => .inl ⟨i, (m i b).1 w⟩, fun i s hi _ => ⟨rfl, s, hi, rfl⟩⟩
  · rw [upd_ne (fun z => by subst z; rw [ha] at hb; cases hb)]
    exact hb
  · by_cases z : b = a
    · subst z; exact ha
    · rw [upd_ne z] at hb; exact hb
def eBinL (f : D → D → Option (List D)) (da db : DE) : DA := fun env => (da env).bind fun x e1 => (db e1).bind fun y e2 => put (f x y) e2
theorem binL_ok {r : R2} {f : D → D → Option (List D)} (o : OlD K r f) (da db : DE) (σ : L2.St) (H : Hp) (Q : VK) (h : rdL K mg W (eBinL f da db) σ H Q) : tOp r (rdE K mg W da) (rdE K mg W db) σ H Q := by
  obtain ⟨env, G, R, h⟩ := h
  refine E_thenL R h fun d e1 v G1 H1 _ R1 dv F1 h1 => E_thenL R1 h1 fun d2 e2 v2 G2 H2 _ R2 dv2 F2 h2 => ?_
  cases q : f d d2 with
  | none => rw [q] at h2; exact h2.elim
  | some zs =>
    rw [q] at h2
    exact o v v2 d d2 zs G2 H2 Q (dv.up F2.gg) dv2 R2.ex q fun a vs ha dz => RunL.new R2 h2 ha dz
/-- a thing of nobody's stands still from now on -/
theorem Rel.still {env : DEnv} {σ : L2.St} {G H : Hp} {a : Addr} {o : HO} (R : Rel K env σ G H) (h1 : H a = some o) (h2 : G a = none) (h4 : ¬ Own env σ H a) : Rel K env σ (upd G a o) H :=
  (R.move (fun b u hb => by
    by_cases z : b = a
    · subst z; rw [upd_same] at hb; rw [h1]; exact hb
    · rw [upd_ne z] at hb; exact R.ex b u hb) (Ex.new h2) (fun _ _ => rfl) fun b w => by rw [upd_ne fun z => (by subst z; exact h4 w)]; exact (w.there R).2).1
/-- a list of nobody's becomes data that stands still -/
theorem RunL.of {env : DEnv} {σ : L2.St} {G H : Hp} {r : Rs (List D)} {Q : VK} (h' : RunE K mg W env σ G H (r.bind fun xs e1 => .ok (.list xs) e1) Q) : RunL K mg W env σ G H r Q := by
  cases r with
  | stuck => exact h'
  | ex x e => exact h'
  | ok ds e1 =>
    intro a vs G' H' R' h1 h2 h3 h4 dv F
    refine h' (.ref a) (upd G' a (.lst vs)) H' (R'.still h1 h2 h4) (.lst (.of upd_same) (dv.up (Ex.new h2)))
      ⟨F.gg.trans (Ex.new h2), F.keep, F.dom, fun b hb => ?_, F.own, F.par⟩
    · by_cases z : b = a
      · subst z; exact .inr (.inl h3)
      · rw [upd_ne z] at hb; exact F.fresh b hb
theorem L_to_E {da : DA} (σ : L2.St) (H : Hp) (Q : VK) (h : rdE K mg W (eLst da) σ H Q) : rdL K mg W da σ H Q := by
  obtain ⟨env, G, R, h⟩ := h
  exact ⟨env, G, R, RunL.of h⟩
end
theorem freezeO {K : PySem.W.Frag} {env : DEnv} {σ : L2.St} {G H : Hp} {i : Nat} {s0 : Sl} {d0 : D} {a : Addr} {o0 : HO} (R : Rel K env σ G H) (hi : env[i]? = some s0) (hs0 : s0.lst = true)
    (ho : σ[i]? = some (some (.ref a))) (h1 : H a = some o0) (h2 : G a = none) (dv : Dv K (upd G a o0) (.ref a) d0) :
    Rel K (env.set i (.v d0)) σ (upd G a o0) H ∧ Fr env σ G H (env.set i (.v d0)) σ (upd G a o0) H := by
  have li : i < env.length := (List.getElem?_eq_some_iff.mp hi).1
  have owns : OwnAt env σ H i a := .of hi hs0 ho
  have k : ∀ j b, j ≠ i → OwnAt env σ H j b → H b = H b ∧ upd G a o0 b = none := fun j b ne w => ⟨rfl, by
    rw [upd_ne fun z => by subst z; exact ne (R.dist j i b w owns)]
    exact (w.there R).2⟩
  refine ⟨(R.put (s1 := .v d0) li rfl ho (fun _ _ => rfl) (fun b o hb => ?_) (Ex.new h2) k ⟨_, rfl, dv⟩ fun _ w => w.elim).1,
    Fr.put (s1 := .v d0) (o1 := some (.ref a)) R li ho (fun _ _ => rfl) (Ex.new h2) k (fun b o hb _ => hb) (fun b hb => hb) (fun b hb => ?_) (fun _ w => w.elim) fun z => absurd rfl z⟩
  · by_cases z : b = a
    · subst z; rw [upd_same] at hb; rw [h1]; exact hb
    · rw [upd_ne z] at hb; exact R.ex b o hb
  · by_cases z : b = a
    · subst z; exact .inr (.inr ⟨i, owns⟩)
    · rw [upd_ne z] at hb; exact .inl hb
theorem freeze {K : PySem.W.Frag} {env : DEnv} {σ : L2.St} {G H : Hp} {i : Nat} {xs : List D} (R : Rel K env σ G H) (hi : env[i]? = some (.l xs)) :
    ∃ a vs, σ[i]? = some (some (.ref a)) ∧ Rel K (env.set i (.v (.list xs))) σ (upd G a (.lst vs)) H ∧ Dv K (upd G a (.lst vs)) (.ref a) (.list xs) ∧ Fr env σ G H (env.set i (.v (.list xs))) σ (upd G a (.lst vs)) H := by
  have li2 : i < σ.length := by rw [← R.len]; exact (List.getElem?_eq_some_iff.mp hi).1
  have ho : σ[i]? = some σ[i] := List.getElem?_eq_getElem li2
  obtain ⟨a, vs, e, h1, h2, h3⟩ := R.slot i _ _ hi ho
  rw [e] at ho
  have dv : Dv K (upd G a (.lst vs)) (.ref a) (.list xs) := .lst (.of upd_same) (h3.up (Ex.new h2))
  obtain ⟨r1, r2⟩ := freezeO R hi rfl ho h1 h2 dv
  exact ⟨a, vs, ho, r1, dv, r2⟩
theorem freezeM {K : PySem.W.Frag} {env : DEnv} {σ : L2.St} {G H : Hp} {i : Nat} {xs : List (D × D)} (R : Rel K env σ G H) (hi : env[i]? = some (.m xs)) :
    ∃ a vs, σ[i]? = some (some (.ref a)) ∧ Rel K (env.set i (.v (.dict xs))) σ (upd G a (.dK vs)) H ∧ Dv K (upd G a (.dK vs)) (.ref a) (.dict xs) ∧ Fr env σ G H (env.set i (.v (.dict xs))) σ (upd G a (.dK vs)) H := by
  have li2 : i < σ.length := by rw [← R.len]; exact (List.getElem?_eq_some_iff.mp hi).1
  have ho : σ[i]? = some σ[i] := List.getElem?_eq_getElem li2
  obtain ⟨a, vs, e, h1, h2, h3⟩ := R.slot i _ _ hi ho
  rw [e] at ho
  have dv : Dv K (upd G a (.dK vs)) (.ref a) (.dict xs) := .dct (.inl upd_same) (h3.up (Ex.new h2))
  obtain ⟨r1, r2⟩ := freezeO R hi rfl ho h1 h2 dv
  exact ⟨a, vs, ho, r1, dv, r2⟩
section
variable {X : Cx} {W : WX} {a b e : Expr} {da db : DE} {pos : Pos}
theorem var_ok {K : PySem.W.Frag} {mg : Str → Option Value} {i : Nat} (σ : L2.St) (H : Hp) (Q : VK) (h : rdE K mg W (eVar i) σ H Q) : tVar i σ H Q := by
  obtain ⟨env, G, R, h⟩ := h
  unfold eVar at h
  cases q : env[i]? with
  | none => rw [q] at h; exact h.elim
  | some s =>
    rw [q] at h
    have li : i < σ.length := by rw [← R.len]; exact (List.getElem?_eq_some_iff.mp q).1
    have ho : σ[i]? = some σ[i] := List.getElem?_eq_getElem li
    cases s with
    | no => exact h.elim
    | p xs => exact h.elim
    | f x => exact h.elim
    | t x => exact h.elim
    | u x => exact h.elim
    | a x _ _ => exact h.elim
    | n _ => exact h.elim
    | m xs =>
      obtain ⟨a, vs, e1, R', dv, F⟩ := freezeM R q
      exact ⟨_, e1, h _ _ _ R' dv F⟩
    | v d =>
      obtain ⟨v, e, dv⟩ := R.slot i _ _ q ho
      rw [e] at ho
      exact ⟨v, ho, h v G H R dv (Fr.refl _ _ _ _)⟩
    | l xs =>
      obtain ⟨a, vs, e1, R', dv, F⟩ := freeze R q
      exact ⟨_, e1, h _ _ _ R' dv F⟩
theorem ce_var (i : Nat) {x : Str} (hN : X.N[i]? = some x := by rfl) (hv : Vis X.env.scope x := by first | exact Or.inl rfl | exact Or.inr (Or.inl rfl) | exact Or.inr (Or.inr rfl)) (hd : (x == ("__debug__" : Str)) = false := by decide)
    (hcd : (x == ("__classdict__" : Str)) = false := by decide) : CE X W (.Name x pos) (eVar i) := pe_imp (pe_var hN hv hd hcd) var_ok
theorem c_ok {K : PySem.W.Frag} {mg : Str → Option Value} {v : V} {d : D} (dv : ∀ G, Dv K G v d) (σ : L2.St) (H : Hp) (Q : VK) (h : rdE K mg W (eC d) σ H Q) : tC v σ H Q := by
  obtain ⟨env, G, R, h⟩ := h
  exact h v G H R (dv G) (Fr.refl _ _ _ _)
theorem ce_int {i : Int} {j : Nat} : CE X W (.Constant (.int i) j pos) (eC (.int i)) := pe_imp pe_int (c_ok fun _ => .int i)
theorem ce_bool {i : Bool} {j : Nat} : CE X W (.Constant (.bool i) j pos) (eC (.bool i)) := pe_imp pe_bl (c_ok fun _ => .bl i)
theorem ce_none {j : Nat} : CE X W (.Constant .none j pos) (eC .none) := pe_imp pe_non (c_ok fun _ => .non)
theorem ce_str {x : Str} {j : Nat} : CE X W (.Constant (.str x) j pos) (eC (.str x)) := pe_imp pe_str (c_ok fun _ => .str x)
theorem ce_bin {op : Operator} {r : R2} {f : D → D → Option D} (ho : OpR X (binaryOp op) r) (o : OpD X.K r f) (ha : CE X W a da) (hb : CE X W b db) : CE X W (.BinOp a op b pos) (eBin f da db) := pe_imp (pe_op ho ha hb) (bin_ok o da db)
theorem cl_bin {op : Operator} {r : R2} {f : D → D → Option (List D)} (ho : OpR X (binaryOp op) r) (o : OlD X.K r f) (ha : CE X W a da) (hb : CE X W b db) : CL X W (.BinOp a op b pos) (eBinL f da db) := pe_imp (pe_op ho ha hb) (binL_ok o da db)
theorem ce_cmp {op : CmpOp} {r : R2} {f : D → D → Option D} (ho : OpR X (compareOp op) r) (o : OpD X.K r f) (ha : CE X W a da) (hb : CE X W b db) (hm : behindInMarks op b = false) : CE X W (.Compare a [op] [b] pos) (eBin f da db) := pe_imp (pe_cmpR ho ha hb hm) (bin_ok o da db)
theorem ce_ix {r : R2} {f : D → D → Option D} (hr : IxR X r) (o : OpD X.K r f) (ha : CE X W a da) (hb : CE X W b db) (hs : PlainIx b) : CE X W (.Subscript a b pos) (eBin f da db) := pe_imp (pe_ix hr ha hb hs) (bin_ok o da db)
theorem tst_ok {K : PySem.W.Frag} {mg : Str → Option Value} (de : DE) (σ : L2.St) (H : Hp) (Q : Bool → Hp → Prop) (h : rdT K mg W (tTst de) σ H Q) : rdE K mg W de σ H fun x H' => ∃ k, x = .bl k ∧ Q k H' := by
  obtain ⟨env, G, R, h⟩ := h
  refine E_thenT R h fun d e1 v G1 H1 _ R1 dv F1 h1 => ?_
  cases dv with
  | bl b => exact ⟨b, rfl, h1 G1 H1 R1 (Fr.refl _ _ _ _)⟩
  | non => exact h1.elim
  | int i => exact h1.elim
  | str i => exact h1.elim
  | lst _ _ => exact h1.elim
  | tup _ _ => exact h1.elim
  | dct _ _ => exact h1.elim
theorem ct_cmp {op : CmpOp} {r : R2} {f : D → D → Option D} (ho : OpR X (compareOp op) r) (o : OpD X.K r f) (ha : CE X W a da) (hb : CE X W b db) (hm : behindInMarks op b = false) : CT X W (.Compare a [op] [b] pos) (tTst (eBin f da db)) :=
  pt_imp (pt_cmpR ho ha hb hm) fun σ H Q h => bin_ok o da db σ H _ (tst_ok _ σ H Q h)
/-- an expression that gives True or False, as a test -/
theorem ct_val {e : Expr} {de : DE} (h : CE X W e de) (he : ∀ whole, isTrue e X.env whole = (do let v ← whole; standAt e.pos; holding [v] (truthy v)) := by intro _; rfl) : CT X W e (tTst de) := pt_imp (pt_val h he) fun σ H Q h => tst_ok _ σ H Q h
theorem tru_okD {K : PySem.W.Frag} {mg : Str → Option Value} (de : DE) (σ : L2.St) (H : Hp) (Q : Bool → Hp → Prop) (h : rdT K mg W (tTru de) σ H Q) : rdE K mg W de σ H fun x H' => ∃ k, TruV K x H' k ∧ Q k H' := by
  obtain ⟨env, G, R, h⟩ := h
  refine E_thenT R h fun d e1 v G1 H1 _ R1 dv F1 h1 => ?_
  cases q : truth d with
  | none => rw [q] at h1; exact h1.elim
  | some k =>
    rw [q] at h1
    refine ⟨k, ?_, h1 G1 H1 R1 (Fr.refl _ _ _ _)⟩
    cases dv with
    | bl b => cases q; rfl
    | non => cases q; rfl
    | int i => cases q; rfl
    | str x =>
      have q' : (if x.length ≤ 100000 then some ((x.length : Int) != 0) else none) = some k := q
      by_cases hz : x.length ≤ 100000
      · rw [if_pos hz] at q'
        cases q'
        exact ⟨Nat.le_trans hz (by decide), rfl⟩
      · rw [if_neg hz] at q'
        cases q'
    | @lst a xs ds g1 g2 =>
      cases q
      refine .inl ⟨_, (R1.ex.rl g1).sq, ?_⟩
      cases g2 <;> rfl
    | @tup a xs ds g1 g2 =>
      cases q
      refine .inr (.inl ⟨_, (R1.ex.n g1).t, ?_⟩)
      cases g2 <;> rfl
    | dct _ _ => cases q
theorem ct_tru {e : Expr} {de : DE} (h : CE X W e de) (he : ∀ whole, isTrue e X.env whole = (do let v ← whole; standAt e.pos; holding [v] (truthy v)) := by intro _; rfl) : CT X W e (tTru de) := pt_imp (pt_truth h he) fun σ H Q h => tru_okD _ σ H Q h
theorem T_then {K : PySem.W.Frag} {mg : Str → Option Value} {env : DEnv} {σ : L2.St} {G H : Hp} {dt : DT} {β : Type} {f : Bool → DEnv → Rs β} {R : Bool → Hp → Prop} (hR : Rel K env σ G H) {P : DEnv → L2.St → Hp → Hp → Rs β → Prop}
    (h : P env σ G H ((dt env).bind f)) (hx : ∀ x e, P env σ G H (.ex x e) → RunX K mg W env σ G H x e) (hst : ¬ P env σ G H .stuck)
    (hsh : ∀ e1 G1 H1 r, P env σ G H r → Fr env σ G H e1 σ G1 H1 → P e1 σ G1 H1 r)
    (k : ∀ d e1 G1 H1, dt env = .ok d e1 → Rel K e1 σ G1 H1 → Fr env σ G H e1 σ G1 H1 → P e1 σ G1 H1 (f d e1) → R d H1) : rdT K mg W dt σ H R := by
  refine ⟨env, G, hR, ?_⟩
  cases q : dt env with
  | ok d e1 =>
    rw [q] at h
    exact fun G1 H1 a c => k d e1 G1 H1 q a c (hsh _ _ _ _ h c)
  | ex x e => rw [q] at h; exact hx x e h
  | stuck => rw [q] at h; exact (hst h).elim
theorem T_thenT {K : PySem.W.Frag} {mg : Str → Option Value} {env : DEnv} {σ : L2.St} {G H : Hp} {dt : DT} {f : Bool → DEnv → Rs Bool} {Q R : Bool → Hp → Prop} (hR : Rel K env σ G H) (h : RunT K mg W env σ G H ((dt env).bind f) Q)
    (k : ∀ d e1 G1 H1, dt env = .ok d e1 → Rel K e1 σ G1 H1 → Fr env σ G H e1 σ G1 H1 → RunT K mg W e1 σ G1 H1 (f d e1) Q → R d H1) : rdT K mg W dt σ H R :=
  T_then hR (P := fun e s G H r => RunT K mg W e s G H r Q) h (fun _ _ z => z) (fun z => z) (fun _ _ _ _ a b => a.shift b) k
theorem T_thenE {K : PySem.W.Frag} {mg : Str → Option Value} {env : DEnv} {σ : L2.St} {G H : Hp} {dt : DT} {f : Bool → DEnv → Rs D} {Q : VK} {R : Bool → Hp → Prop} (hR : Rel K env σ G H) (h : RunE K mg W env σ G H ((dt env).bind f) Q)
    (k : ∀ d e1 G1 H1, dt env = .ok d e1 → Rel K e1 σ G1 H1 → Fr env σ G H e1 σ G1 H1 → RunE K mg W e1 σ G1 H1 (f d e1) Q → R d H1) : rdT K mg W dt σ H R :=
  T_then hR (P := fun e s G H r => RunE K mg W e s G H r Q) h (fun _ _ z => z) (fun z => z) (fun _ _ _ _ a b => a.shift b) k
variable {dt du : DT} {rest : List Expr}
theorem cw_and1 (ha : CT X W a dt) : CW X W (.BoolOp .And [a] pos) dt := pw_and1 ha
theorem cw_or1 (ha : CT X W a dt) : CW X W (.BoolOp .Or [a] pos) dt := pw_or1 ha
theorem cw_and (ha : CT X W a dt) (hb : CW X W (.BoolOp .And (b :: rest) pos) du) : CW X W (.BoolOp .And (a :: b :: rest) pos) (tAndD dt du) := pw_imp (pw_and ha hb) fun σ H Q h => by
  obtain ⟨env, G, R, h⟩ := h
  refine T_thenT R h fun d e1 G1 H1 _ R1 F1 h1 => ?_
  cases d with
  | true => exact ⟨e1, G1, R1, h1⟩
  | false => exact h1 G1 H1 R1 (Fr.refl _ _ _ _)
theorem cw_or (ha : CT X W a dt) (hb : CW X W (.BoolOp .Or (b :: rest) pos) du) : CW X W (.BoolOp .Or (a :: b :: rest) pos) (tOrD dt du) := pw_imp (pw_or ha hb) fun σ H Q h => by
  obtain ⟨env, G, R, h⟩ := h
  refine T_thenT R h fun d e1 G1 H1 _ R1 F1 h1 => ?_
  cases d with
  | true => exact h1 G1 H1 R1 (Fr.refl _ _ _ _)
  | false => exact ⟨e1, G1, R1, h1⟩
theorem ct_w (h : CW X W e dt) : CT X W e dt := PW.pt h
theorem ct_not (ha : CT X W a dt) : CT X W (.UnaryOp .Not a pos) (tNotD dt) := pt_imp (pt_not ha) fun σ H Q h => by
  obtain ⟨env, G, R, h⟩ := h
  exact T_thenT R h fun d e1 G1 H1 _ R1 F1 h1 => h1 G1 H1 R1 (Fr.refl _ _ _ _)
theorem ce_if {c : Expr} (hc : CT X W c dt) (ha : CE X W a da) (hb : CE X W b db) : CE X W (.IfExp c a b pos) (eIf dt da db) := pe_imp (pe_ifExp hc ha hb) fun σ H Q h => by
  obtain ⟨env, G, R, h⟩ := h
  refine T_thenE R h fun d e1 G1 H1 _ R1 F1 h1 => ?_
  cases d with
  | true => exact ⟨e1, G1, R1, h1⟩
  | false => exact ⟨e1, G1, R1, h1⟩
theorem ce_one {op : BoolOp} (h : CE X W a da) : CE X W (.BoolOp op [a] pos) da := pe_one h
theorem ce_and (ha : CE X W a da) (hb : CE X W (.BoolOp .And (b :: rest) pos) db) : CE X W (.BoolOp .And (a :: b :: rest) pos) (eAnd da db) := pe_imp (pe_and ha hb) fun σ H Q h => by
  obtain ⟨env, G, R, h⟩ := h
  refine E_thenE R h fun d e1 v G1 H1 _ R1 dv F1 h1 => ?_
  cases dv with
  | bl b =>
    cases b with
    | true => exact ⟨true, rfl, e1, G1, R1, h1⟩
    | false => exact ⟨false, rfl, h1 _ G1 H1 R1 (.bl false) (Fr.refl _ _ _ _)⟩
  | non => exact h1.elim
  | int i => exact h1.elim
  | str i => exact h1.elim
  | lst _ _ => exact h1.elim
  | tup _ _ => exact h1.elim
  | dct _ _ => exact h1.elim
theorem ce_or (ha : CE X W a da) (hb : CE X W (.BoolOp .Or (b :: rest) pos) db) : CE X W (.BoolOp .Or (a :: b :: rest) pos) (eOr da db) := pe_imp (pe_or ha hb) fun σ H Q h => by
  obtain ⟨env, G, R, h⟩ := h
  refine E_thenE R h fun d e1 v G1 H1 _ R1 dv F1 h1 => ?_
  cases dv with
  | bl b =>
    cases b with
    | false => exact ⟨false, rfl, e1, G1, R1, h1⟩
    | true => exact ⟨true, rfl, h1 _ G1 H1 R1 (.bl true) (Fr.refl _ _ _ _)⟩
  | non => exact h1.elim
  | int i => exact h1.elim
  | str i => exact h1.elim
  | lst _ _ => exact h1.elim
  | tup _ _ => exact h1.elim
  | dct _ _ => exact h1.elim
theorem ce_not (ha : CE X W a da) : CE X W (.UnaryOp .Not a pos) (eNot da) := pe_imp (pe_not ha) fun σ H Q h => by
  obtain ⟨env, G, R, h⟩ := h
  refine E_thenE R h fun d e1 v G1 H1 _ R1 dv F1 h1 => ?_
  cases dv with
  | bl b => exact ⟨b, rfl, h1 _ G1 H1 R1 (.bl _) (Fr.refl _ _ _ _)⟩
  | non => exact h1.elim
  | int i => exact h1.elim
  | str i => exact h1.elim
  | lst _ _ => exact h1.elim
  | tup _ _ => exact h1.elim
  | dct _ _ => exact h1.elim
variable {es : List Expr} {ds : DA}
theorem ca_nil : CA X W [] aNil := pa_imp pa_nil fun σ H Q h => by
  obtain ⟨env, G, R, h⟩ := h
  exact h [] G H R .nil (Fr.refl _ _ _ _)
theorem ca_cons (ha : CE X W e da) (hr : CA X W es ds) (hs : starEach (e :: es) X.env = (false, eval e X.env) :: starEach es X.env := by rfl) : CA X W (e :: es) (aCons da ds) := pa_imp (pa_cons ha hr hs) fun σ H Q h => by
  obtain ⟨env, G, R, h⟩ := h
  exact E_thenA R h fun d e1 v G1 H1 _ R1 dv F1 h1 => A_thenA R1 h1 fun d2 e2 v2 G2 H2 _ R2 dv2 F2 h2 => h2 (v :: v2) G2 H2 R2 (.cons (dv.up F2.gg) dv2) (Fr.refl _ _ _ _)
theorem ce_tup {k : Nat} (h : CA X W es ds) : CE X W (.Tuple es k pos) (eTup ds) := pe_imp (pe_tupF h) fun σ H Q h => by
  obtain ⟨env, G, R, h⟩ := h
  refine A_thenE R h fun d e1 v G1 H1 _ R1 dv F1 h1 => ?_
  split at h1
  · rename_i hz
    refine ⟨by rw [dv.length]; exact Nat.le_trans hz (by decide), fun p o hp hd => ?_⟩
    have g : Grow G1 H1 (upd G1 p (.frz o (.tup v))) (upd H1 p (.frz o (.tup v))) := Grow.one R1.ex hp
    exact h1 _ _ _ (R1.grow g) (.tup (.inl ⟨o, upd_same, hd⟩) (dv.up g.gg)) (g.fr R1)
  · exact h1.elim
theorem cl_lst (h : CA X W es ds) : CL X W (.List es pos) (lLst ds) := pe_imp (pe_lst h) fun σ H Q h => by
  obtain ⟨env, G, R, h⟩ := h
  refine A_thenL R h fun d e1 v G1 H1 _ R1 dv F1 h1 => ?_
  split at h1
  · rename_i hz
    exact ⟨by rw [dv.length]; exact Nat.le_trans hz (by decide), fun p hp => RunL.new R1 h1 hp dv⟩
  · exact h1.elim
theorem ce_lst {dl : DA} (h : CL X W e dl) : CE X W e (eLst dl) := pe_imp h fun σ H Q h => L_to_E σ H Q h
theorem ce_cb {r : List V → Hp → VK → Prop} {f : List D → Option D} {id : String} {x : Str} {p : Pos} (o : CbD X.K r f) (hc : CallR X (.builtin id) r) (hg : Gl X x) (hm : X.mg x = none) (hv : bootBuiltins x = some (.builtin id)) (ha : CA X W (e :: es) ds) (hn : x ≠ "__name__" := by decide) (hdb : (x == ("__debug__" : Str)) = false := by decide)
    (he : starEach (e :: es) X.env = (false, eval e X.env) :: starEach es X.env := by rfl) (hpl : (backTo pos (starEach es X.env)).any (·.1) = false := by rfl) : CE X W (.Call (.Name x p) (e :: es) [] pos) (eCB f ds) := pe_imp (pe_callB hc hg hm hv ha hn hdb he hpl) (cb_ok o ds)
theorem ce_ct {r : List V → Hp → VK → Prop} {f : List D → Option D} {T : String} {x : Str} {p : Pos} (o : CbD X.K r f) (hc : CallR X (.type T) r) (hg : Gl X x) (hm : X.mg x = none) (hv : bootBuiltins x = some (.type T)) (ha : CA X W (e :: es) ds) (hn : x ≠ "__name__" := by decide) (hdb : (x == ("__debug__" : Str)) = false := by decide)
    (he : starEach (e :: es) X.env = (false, eval e X.env) :: starEach es X.env := by rfl) (hpl : (backTo pos (starEach es X.env)).any (·.1) = false := by rfl) : CE X W (.Call (.Name x p) (e :: es) [] pos) (eCB f ds) := pe_imp (pe_callTy hc hg hm hv ha hn hdb he hpl) (cb_ok o ds)
end
end DL
set_option Elab.async false
set_option linter.all false
set_option maxRecDepth 100000
set_option autoImplicit false
namespace DL
open PySem L2
/-- how a statement ends -/
inductive Fl where
  | nx (env : DEnv)
  | rt (d : D) (env : DEnv)
  | rl (xs : List D) (env : DEnv)
  | bk (env : DEnv)
  | ct (env : DEnv)
  | ex (x : Xc) (env : DEnv)
  | stuck
abbrev DS := DEnv → Fl
/-- an answer, then a statement's end -/
def Rs.fl {α : Type} (r : Rs α) (f : α → DEnv → Fl) : Fl := match r with
  | .ok a env => f a env
  | .ex x env => .ex x env
  | .stuck => .stuck
theorem fl_ok {α : Type} (a : α) (env : DEnv) (f : α → DEnv → Fl) : (Rs.ok a env).fl f = f a env := rfl
section
variable (K : PySem.W.Frag) (mg : Str → Option Value) (W : WX)
def RunXS (env : DEnv) (σ : L2.St) (G H : Hp) (x : Xc) (env' : DEnv) : Prop :=
  ∀ cls dd σ' G' H', XRel K mg x cls dd G' H' → Rel K env' σ' G' H' → Fr env σ G H env' σ' G' H' → W cls dd σ' H'
def RunS (env : DEnv) (σ : L2.St) (G H : Hp) (r : Fl) (E : Ends) : Prop := match r with
  | .nx e => ∀ σ' G' H', Rel K e σ' G' H' → Fr env σ G H e σ' G' H' → E.nx σ' H'
  | .bk e => ∀ σ' G' H', Rel K e σ' G' H' → Fr env σ G H e σ' G' H' → E.bk σ' H'
  | .ct e => ∀ σ' G' H', Rel K e σ' G' H' → Fr env σ G H e σ' G' H' → E.ct σ' H'
  | .rt d e => ∀ v σ' G' H', Rel K e σ' G' H' → Dv K G' v d → Fr env σ G H e σ' G' H' → E.rt v H'
  | .rl xs e => ∀ a vs σ' G' H', Rel K e σ' G' H' → H' a = some (.lst vs) → G' a = none → H a = none → ¬ Own e σ' H' a → DvAll K G' vs xs → Fr env σ G H e σ' G' H' → E.rt (.ref a) H'
  | .ex x e => RunXS K mg W env σ G H x e
  | .stuck => False
def rdS (ds : DS) : TS := fun E σ H => ∃ env G, Rel K env σ G H ∧ RunS K mg W env σ G H (ds env) E
end
section
variable {K : PySem.W.Frag} {mg : Str → Option Value} {W : WX} {env env1 : DEnv} {σ σ1 : L2.St} {G H G1 H1 : Hp}
theorem RunS.shift {r : Fl} {E : Ends} (h : RunS K mg W env σ G H r E) (f : Fr env σ G H env1 σ1 G1 H1) : RunS K mg W env1 σ1 G1 H1 r E := by
  cases r with
  | nx e => exact fun σ' G' H' a c => h σ' G' H' a (f.trans c)
  | bk e => exact fun σ' G' H' a c => h σ' G' H' a (f.trans c)
  | ct e => exact fun σ' G' H' a c => h σ' G' H' a (f.trans c)
  | rt d e => exact fun v σ' G' H' a b c => h v σ' G' H' a b (f.trans c)
  | rl xs e => exact fun a vs σ' G' H' R h1 h2 h3 h4 h5 h6 => h a vs σ' G' H' R h1 h2 (f.dom a h3) h4 h5 (f.trans h6)
  | ex x e => exact fun cls dd σ' G' H' a b c => h cls dd σ' G' H' a b (f.trans c)
  | stuck => exact h
theorem RunXS.toX {x : Xc} {e : DEnv} (h : RunXS K mg W env σ G H x e) : RunX K mg W env σ G H x e := fun cls dd G' H' a b c => h cls dd σ G' H' a b c
/-- an expression, then the rest of the statement -/
theorem E_thenS {de : DE} {f : D → DEnv → Fl} {E : Ends} {R : VK} (hR : Rel K env σ G H) (h : RunS K mg W env σ G H ((de env).fl f) E)
    (k : ∀ d e1 v G1 H1, de env = .ok d e1 → Rel K e1 σ G1 H1 → Dv K G1 v d → Fr env σ G H e1 σ G1 H1 → RunS K mg W e1 σ G1 H1 (f d e1) E → R v H1) : rdE K mg W de σ H R := by
  refine ⟨env, G, hR, ?_⟩
  cases q : de env with
  | ok d e1 =>
    rw [q] at h
    exact fun v G1 H1 a b c => k d e1 v G1 H1 q a b c (h.shift c)
  | ex x e => rw [q] at h; exact RunXS.toX h
  | stuck => rw [q] at h; exact h.elim
theorem L_thenS {de : DA} {f : List D → DEnv → Fl} {E : Ends} {R : VK} (hR : Rel K env σ G H) (h : RunS K mg W env σ G H ((de env).fl f) E)
    (k : ∀ ds e1 a vs G1 H1, de env = .ok ds e1 → Rel K e1 σ G1 H1 → H1 a = some (.lst vs) → G1 a = none → H a = none → ¬ Own e1 σ H1 a → DvAll K G1 vs ds → Fr env σ G H e1 σ G1 H1 → RunS K mg W env σ G H (f ds e1) E → R (.ref a) H1) : rdL K mg W de σ H R := by
  refine ⟨env, G, hR, ?_⟩
  cases q : de env with
  | ok d e1 =>
    rw [q] at h
    exact fun a vs G1 H1 a1 a2 a3 a4 a5 a6 c => k d e1 a vs G1 H1 q a1 a2 a3 a4 a5 a6 c h
  | ex x e => rw [q] at h; exact RunXS.toX h
  | stuck => rw [q] at h; exact h.elim
theorem T_thenS {dt : DT} {f : Bool → DEnv → Fl} {E : Ends} {R : Bool → Hp → Prop} (hR : Rel K env σ G H) (h : RunS K mg W env σ G H ((dt env).fl f) E)
    (k : ∀ d e1 G1 H1, dt env = .ok d e1 → Rel K e1 σ G1 H1 → Fr env σ G H e1 σ G1 H1 → RunS K mg W e1 σ G1 H1 (f d e1) E → R d H1) : rdT K mg W dt σ H R := by
  refine ⟨env, G, hR, ?_⟩
  cases q : dt env with
  | ok d e1 =>
    rw [q] at h
    exact fun G1 H1 a c => k d e1 G1 H1 q a c (h.shift c)
  | ex x e => rw [q] at h; exact RunXS.toX h
  | stuck => rw [q] at h; exact h.elim
/-- a name gets a value -/
theorem Rel.set {i : Nat} {s s0 : Sl} {v : V} (R : Rel K env σ G H) (hi : env[i]? = some s0) (hp : ∀ xs, s0 ≠ .p xs) (hr : RS K G H s (some v)) (hn : ∀ xs, s ≠ .p xs)
    (ho : s.own = true → ∀ a, OwnS H s (some v) a → ¬ Own env σ H a) : Rel K (env.set i s) (σ.set i (some v)) G H := by
  have li : i < env.length := (List.getElem?_eq_some_iff.mp hi).1
  exact (R.put li (List.length_set ..) (List.getElem?_set_self (by rw [← R.len]; exact li)) (fun j ne => List.getElem?_set_ne (Ne.symm ne)) R.ex (Ex.refl _) (fun j a _ w => ⟨rfl, (w.there R).2⟩) hr fun a w j _ w2 => ho w.own a w ⟨j, w2⟩).1
theorem Fr.set {i : Nat} {s s0 : Sl} {v : V} (R : Rel K env σ G H) (hi : env[i]? = some s0) (hp : ∀ xs, s0 ≠ .p xs) (hn : ∀ xs, s ≠ .p xs) (ho : s.own = false) : Fr env σ G H (env.set i s) (σ.set i (some v)) G H := by
  have li : i < env.length := (List.getElem?_eq_some_iff.mp hi).1
  refine Fr.put (s1 := s) (o1 := some v) R li (List.getElem?_set_self (by rw [← R.len]; exact li)) (fun j ne => List.getElem?_set_ne (Ne.symm ne)) (Ex.refl _) (fun j a _ w => ⟨rfl, (w.there R).2⟩) (fun _ _ h _ => h) (fun _ h => h) (fun _ h => .inl h) (fun a w => ?_) fun z => ?_
  · rw [w.own] at ho; cases ho
  · cases s <;> first | exact absurd rfl z | cases ho
/-- a name gets a thing that is new -/
theorem Fr.setN {env0 : DEnv} {σ0 : L2.St} {G0 H0 : Hp} {i : Nat} {s : Sl} {v : V} (R : Rel K env σ G H) (F : Fr env0 σ0 G0 H0 env σ G H) (li : i < env.length) (hn : ∀ a, OwnS H s (some v) a → H0 a = none) (hs : s.pk = 0) : Fr env0 σ0 G0 H0 (env.set i s) (σ.set i (some v)) G H := by
  refine ⟨F.gg, F.keep, F.dom, F.fresh, fun b ⟨j, t, o, e1, e2, w⟩ => ?_, fun j t hj n => ?_⟩
  · by_cases z : j = i
    · subst z
      rw [List.getElem?_set_self li] at e1
      rw [List.getElem?_set_self (by rw [← R.len]; exact li)] at e2
      cases e1; cases e2
      exact .inr (hn b w)
    · rw [List.getElem?_set_ne (Ne.symm z)] at e1 e2
      exact F.own b ⟨j, t, o, e1, e2, w⟩
  · by_cases z : j = i
    · subst z
      rw [List.getElem?_set_self li] at hj
      cases hj
      exact absurd hs n
    · rw [List.getElem?_set_ne (Ne.symm z)] at hj ⊢
      exact F.par j t hj n
end
/-- a name's slot may be stored to -/
def setV (i : Nat) (s : Sl) (env : DEnv) : Option DEnv := match env[i]? with
  | none => none
  | some (.p _) => none
  | some _ => some (env.set i s)
abbrev DG := D → DEnv → Option DEnv
def gN (i : Nat) : DG := fun d env => setV i (.v d) env
/-- only slots of ws were stored to -/
def Tch (ws : List Nat) (σ σ' : L2.St) : Prop := σ'.length = σ.length ∧ ∀ j : Nat, j ∉ ws → σ'[j]? = σ[j]?
def rdG (K : PySem.W.Frag) (g : DG) (ws : List Nat) : TG := fun v σ H Q => ∃ env G d, Rel K env σ G H ∧ Dv K G v d ∧ ∃ env', g d env = some env' ∧ ∀ σ', Rel K env' σ' G H → Fr env σ G H env' σ' G H → Tch ws σ σ' → Q σ' H
theorem pg_imp {X : Cx} {e : Expr} {t t' : TG} (h : PG X e t) (k : ∀ v σ H Q, t' v σ H Q → t v σ H Q) : PG X e t' := ⟨fun pins s σ H v u Q I r w => h.run pins s σ H v u Q I r (k v σ H Q w)⟩
theorem setV_some {i : Nat} {s : Sl} {env env' : DEnv} (h : setV i s env = some env') : ∃ s0, env[i]? = some s0 ∧ (∀ xs, s0 ≠ .p xs) ∧ env' = env.set i s := by
  unfold setV at h
  cases q : env[i]? with
  | none => rw [q] at h; cases h
  | some s0 =>
    rw [q] at h
    cases s0 with
    | p xs => cases h
    | u d => cases h; exact ⟨_, rfl, fun _ z => (nomatch z), rfl⟩
    | t d => cases h; exact ⟨_, rfl, fun _ z => (nomatch z), rfl⟩
    | no => cases h; exact ⟨_, rfl, fun _ z => (nomatch z), rfl⟩
    | v d => cases h; exact ⟨_, rfl, fun _ z => (nomatch z), rfl⟩
    | l d => cases h; exact ⟨_, rfl, fun _ z => (nomatch z), rfl⟩
    | n _ => cases h; exact ⟨_, rfl, fun _ z => (nomatch z), rfl⟩
    | m d => cases h; exact ⟨_, rfl, fun _ z => (nomatch z), rfl⟩
    | f d => cases h; exact ⟨_, rfl, fun _ z => (nomatch z), rfl⟩
    | a d _ _ => cases h; exact ⟨_, rfl, fun _ z => (nomatch z), rfl⟩
abbrev CG (X : Cx) (e : Expr) (g : DG) (ws : List Nat) : Prop := PG X e (rdG X.K g ws)
section
variable {X : Cx} {W : WX} {pos : Pos}
theorem cg_name {i : Nat} {x : Str} (hN : X.N.Nodup) (hi : X.N[i]? = some x := by rfl) (hx : Loc X.env.scope x := by first | exact Or.inl rfl | exact Or.inr rfl) (hf : X.fn x = true ∨ X.env.scope.names.lookup x = some .local := by first | exact .inl rfl | exact .inr rfl | assumption) : CG X (.Name x pos) (gN i) [i] :=
  pg_imp (pg_name hN hi hx hf) fun v σ H Q h => by
    obtain ⟨env, G, d, R, dv, env', e, k⟩ := h
    obtain ⟨s0, e1, e2, rfl⟩ := setV_some e
    exact k _ (R.set e1 e2 ⟨v, rfl, dv⟩ (fun _ z => nomatch z) fun z => nomatch z) (Fr.set R e1 e2 (fun _ z => nomatch z) rfl) ⟨List.length_set, fun j hj => List.getElem?_set_ne (fun z => hj (by simp [z]))⟩
def sNx : DS := fun env => .nx env
def Fl.seq (r : Fl) (t : DS) : Fl := match r with
  | .nx e => t e
  | r => r
def sSeq (s t : DS) : DS := fun env => (s env).seq t
def sAsg (de : DE) (g : DG) : DS := fun env => (de env).fl fun d e1 => match g d e1 with
  | some e2 => .nx e2
  | none => .stuck
def sAsgL (i : Nat) (dl : DA) : DS := fun env => (dl env).fl fun xs e1 => match setV i (.l xs) e1 with
  | some e2 => .nx e2
  | none => .stuck
def sDrop (de : DE) : DS := fun env => (de env).fl fun _ e1 => .nx e1
def sRet (de : DE) : DS := fun env => (de env).fl fun d e1 => .rt d e1
def sRetL (dl : DA) : DS := fun env => (dl env).fl fun d e1 => .rl d e1
def sIf (t : DT) (s u : DS) : DS := fun env => (t env).fl fun b e1 => if b then s e1 else u e1
abbrev CS (X : Cx) (W : WX) (st : Stmt) (ds : DS) : Prop := PS X st (rdS X.K X.mg W ds)
abbrev CSs (X : Cx) (W : WX) (st : List Stmt) (ds : DS) : Prop := PSs X st (rdS X.K X.mg W ds)
variable {st : Stmt} {rest : List Stmt} {ds du : DS} {e : Expr} {de : DE}
theorem css_nil : CSs X W [] sNx := pss_imp pss_nil fun E σ H h => by
  obtain ⟨env, G, R, h⟩ := h
  exact h σ G H R (Fr.refl _ _ _ _)
theorem css_cons (h1 : CS X W st ds) (h2 : CSs X W rest du) : CSs X W (st :: rest) (sSeq ds du) := pss_imp (pss_cons h1 h2) fun E σ H h => by
  obtain ⟨env, G, R, h⟩ := h
  refine ⟨env, G, R, ?_⟩
  have h' : RunS X.K X.mg W env σ G H ((ds env).seq du) E := h
  cases q : ds env with
  | nx e1 =>
    rw [q] at h'
    exact fun σ' G' H' R' F' => ⟨e1, G', R', h'.shift F'⟩
  | bk e1 => rw [q] at h'; exact h'
  | ct e1 => rw [q] at h'; exact h'
  | rt d e1 => rw [q] at h'; exact h'
  | rl d e1 => rw [q] at h'; exact h'
  | ex d e1 => rw [q] at h'; exact h'
  | stuck => rw [q] at h'; exact h'
theorem css_one (h1 : CS X W st ds) : CSs X W [st] ds := pss_one h1
theorem cs_set {i : Nat} {x : Str} {pos' : Pos} (hN : X.N.Nodup) (he : CE X W e de) (hi : X.N[i]? = some x := by rfl) (hx : Loc X.env.scope x := by first | exact Or.inl rfl | exact Or.inr rfl) (hs : swapsWith e (some (.Name x pos')) pos.line X.env = pure false := by rfl) (hf : X.fn x = true ∨ X.env.scope.names.lookup x = some .local := by first | exact .inl rfl | exact .inr rfl | assumption) :
    CS X W (.Assign [.Name x pos'] e pos) (sAsg de (gN i)) := ps_imp (ps_set hN hi hx he hs hf) fun E σ H h => by
  obtain ⟨env, G, R, h⟩ := h
  refine E_thenS R h fun d e1 v G1 H1 _ R1 dv F1 h1 => ?_
  cases q : gN i d e1 with
  | none => rw [q] at h1; exact h1.elim
  | some e2 =>
    rw [q] at h1
    obtain ⟨s0, a1, a2, rfl⟩ := setV_some q
    exact h1 _ G1 H1 (R1.set a1 a2 ⟨v, rfl, dv⟩ (fun _ z => nomatch z) fun z => nomatch z) (Fr.set R1 a1 a2 (fun _ z => nomatch z) rfl)
theorem setL_ok {K : PySem.W.Frag} {mg : Str → Option Value} {i : Nat} {dl : DA} (E : Ends) (σ : L2.St) (H : Hp) (h : rdS K mg W (sAsgL i dl) E σ H) : tAsg (rdL K mg W dl) (gName i) E σ H := by
  obtain ⟨env, G, R, h⟩ := h
  refine L_thenS R h fun xs e1 a vs G1 H1 _ R1 h1 h2 h3 h4 dv F1 hk => ?_
  cases q : setV i (.l xs) e1 with
  | none => rw [q] at hk; exact hk.elim
  | some e2 =>
    rw [q] at hk
    obtain ⟨s0, a1, a2, rfl⟩ := setV_some q
    have li : i < e1.length := (List.getElem?_eq_some_iff.mp a1).1
    exact hk (σ.set i (some (.ref a))) G1 H1 (R1.set a1 a2 ⟨a, vs, rfl, h1, h2, dv⟩ (fun _ z => nomatch z) fun _ b hb => by cases hb; exact h4) (F1.setN R1 li (fun b hb => by cases hb; exact h3) rfl)
theorem cs_setL {i : Nat} {x : Str} {pos' : Pos} {dl : DA} (hN : X.N.Nodup) (he : CL X W e dl) (hi : X.N[i]? = some x := by rfl) (hx : Loc X.env.scope x := by first | exact Or.inl rfl | exact Or.inr rfl) (hs : swapsWith e (some (.Name x pos')) pos.line X.env = pure false := by rfl) (hf : X.fn x = true ∨ X.env.scope.names.lookup x = some .local := by first | exact .inl rfl | exact .inr rfl | assumption) :
    CS X W (.Assign [.Name x pos'] e pos) (sAsgL i dl) := ps_imp (ps_set hN hi hx he hs hf) setL_ok
theorem cs_drop (he : CE X W e de) (hs : swapsWith e none pos.line X.env = pure false := by rfl) : CS X W (.Expr e pos) (sDrop de) := ps_imp (ps_expr he hs) fun E σ H h => by
  obtain ⟨env, G, R, h⟩ := h
  exact E_thenS R h fun d e1 v G1 H1 _ R1 dv F1 h1 => h1 σ G1 H1 R1 (Fr.refl _ _ _ _)
theorem cs_ret (he : CE X W e de) : CS X W (.Return (some e) pos) (sRet de) := ps_imp (ps_ret he) fun E σ H h => by
  obtain ⟨env, G, R, h⟩ := h
  exact E_thenS R h fun d e1 v G1 H1 _ R1 dv F1 h1 => h1 v σ G1 H1 R1 dv (Fr.refl _ _ _ _)
theorem cs_retL {dl : DA} (he : CL X W e dl) : CS X W (.Return (some e) pos) (sRetL dl) := ps_imp (ps_ret he) fun E σ H h => by
  obtain ⟨env, G, R, h⟩ := h
  exact L_thenS R h fun xs e1 a vs G1 H1 _ R1 h1 h2 h3 h4 dv F1 hk => hk a vs σ G1 H1 R1 h1 h2 h3 h4 dv F1
theorem cs_if {c : Expr} {a b : List Stmt} {dt : DT} (hc : CT X W c dt) (ha : CSs X W a ds) (hb : CSs X W b du) : CS X W (.If c a b pos) (sIf dt ds du) := ps_imp (ps_if hc ha hb) fun E σ H h => by
  obtain ⟨env, G, R, h⟩ := h
  refine T_thenS R h fun d e1 G1 H1 _ R1 F1 h1 => ?_
  cases d with
  | true => exact ⟨e1, G1, R1, h1⟩
  | false => exact ⟨e1, G1, R1, h1⟩
/-- behind a turn -/
def Fl.turn (r : Fl) (k : DS) : Fl := match r with
  | .nx e2 => k e2
  | .ct e2 => k e2
  | .bk e2 => .nx e2
  | .rt d e2 => .rt d e2
  | .rl d e2 => .rl d e2
  | .ex x e2 => .ex x e2
  | .stuck => .stuck
/-- J gives ds, one by one, as long as G stands -/
def WalkD (K : PySem.W.Frag) (J : It) (ds : List D) (G : Hp) : Prop := ∀ (i : Nat) (G' H' : Hp), Ex G G' → Ex G' H' →
  (∀ d, ds[i]? = some d → J.go i H' ∧ ∀ x H'', J.yld i H' x H'' → ∃ G'', Grow G' H' G'' H'' ∧ Dv K G'' x d) ∧ (ds.length ≤ i → J.stop i H')
def RunI (K : PySem.W.Frag) (mg : Str → Option Value) (W : WX) (env : DEnv) (σ : L2.St) (G H : Hp) (r : Rs (List D)) (R : It → Hp → Prop) : Prop := match r with
  | .ok ds env' => ∀ J G' H', Rel K env' σ G' H' → WalkD K J ds G' → Fr env σ G H env' σ G' H' → R J H'
  | .ex x env' => RunX K mg W env σ G H x env'
  | .stuck => False
def rdI (K : PySem.W.Frag) (mg : Str → Option Value) (W : WX) (di : DA) : TI := fun σ H R => ∃ env G, Rel K env σ G H ∧ RunI K mg W env σ G H (di env) R
abbrev CI (X : Cx) (W : WX) (tg e : Expr) (di : DA) : Prop := PI X tg e (rdI X.K X.mg W di)
theorem pi_imp {tg e : Expr} {t t' : TI} (h : PI X tg e t) (k : ∀ σ H R, t' σ H R → t σ H R) : PI X tg e t' := ⟨fun pins s σ H R I w => h.run pins s σ H R I (k σ H R w)⟩
theorem pi_or {tg e : Expr} {t u : TI} (h1 : PI X tg e t) (h2 : PI X tg e u) : PI X tg e (fun σ H R => t σ H R ∨ u σ H R) := ⟨fun pins s σ H R I w => w.elim (fun z => h1.run pins s σ H R I z) fun z => h2.run pins s σ H R I z⟩
def forD (g : DG) (body : DS) : List D → DS
  | [] => fun env => .nx env
  | d :: ds => fun env => match g d env with
    | none => .stuck
    | some e1 => (body e1).turn (forD g body ds)
def sFor (di : DA) (g : DG) (body : DS) : DS := fun env => (di env).fl fun ds e1 => forD g body ds e1
theorem cs_for {tg iter : Expr} {body : List Stmt} {di : DA} {g : DG} {ws : List Nat} {db : DS} (hp : PassesOwn (model X.prog X.w) X.A X.env X.xe) (hc : X.calm = true) (hi : CI X W tg iter di) (hg : CG X tg g ws) (hb : CSs X W body db)
    (hs : ∀ x, foldedSetIterable iter X.env x = pure x := by intro _; rfl) : CS X W (.For tg iter body [] pos) (sFor di g db) := ps_imp (ps_for hp hc hi hg hb hs) fun E σ H h => by
  obtain ⟨env, G, R, h⟩ := h
  refine ⟨env, G, R, ?_⟩
  have h' : RunS X.K X.mg W env σ G H ((di env).fl fun ds e1 => forD g db ds e1) E := h
  cases q : di env with
  | ex x e => rw [q] at h'; exact RunXS.toX h'
  | stuck => rw [q] at h'; exact h'
  | ok xs e1 =>
    rw [q] at h'
    intro J G1 H1 R1 wk F1
    refine ⟨fun i m σ' H' => ∃ env' G', Rel X.K env' σ' G' H' ∧ Ex G1 G' ∧ RunS X.K X.mg W env' σ' G' H' (forD g db (xs.drop i) env') E ∧ m + i = xs.length,
      ⟨xs.length, e1, G1, R1, Ex.refl _, h'.shift F1, rfl⟩, ?_⟩
    rintro i m σ' H' ⟨env', G', R', ex', run, em⟩
    obtain ⟨w1, w2⟩ := wk i G' H' ex' R'.ex
    by_cases hi : i < xs.length
    · have hd : xs[i]? = some xs[i] := List.getElem?_eq_getElem hi
      obtain ⟨go, yl⟩ := w1 _ hd
      refine .inr ⟨go, fun σ2 H2 => ∃ env2 G2, Rel X.K env2 σ2 G2 H2 ∧ Ex G1 G2 ∧ RunS X.K X.mg W env2 σ2 G2 H2 (forD g db (xs.drop (i + 1)) env2) E, fun σ2 H2 ⟨env2, G2, r2, x2, s2⟩ => ⟨m - 1, by omega, env2, G2, r2, x2, s2, by omega⟩, fun x H'' y => ?_⟩
      obtain ⟨G'', gr, dv⟩ := yl x H'' y
      have run2 := run.shift (gr.fr R')
      rw [List.drop_eq_getElem_cons hi] at run2
      have run3 : RunS X.K X.mg W env' σ' G'' H'' (match g xs[i] env' with
        | none => .stuck
        | some e1 => (db e1).turn (forD g db (xs.drop (i + 1)))) E := run2
      cases q2 : g xs[i] env' with
      | none => rw [q2] at run3; exact run3.elim
      | some e2 =>
        rw [q2] at run3
        refine ⟨env', G'', xs[i], R'.grow gr, dv, e2, q2, fun σ2 R2 F2 _ => ⟨e2, G'', R2, ?_⟩⟩
        have run4 : RunS X.K X.mg W e2 σ2 G'' H'' ((db e2).turn (forD g db (xs.drop (i + 1)))) E := RunS.shift run3 F2
        cases q3 : db e2 with
        | nx e3 => rw [q3] at run4; exact fun σ3 G3 H3 R3 F3 => ⟨e3, G3, R3, (ex'.trans gr.gg).trans F3.gg, run4.shift F3⟩
        | ct e3 => rw [q3] at run4; exact fun σ3 G3 H3 R3 F3 => ⟨e3, G3, R3, (ex'.trans gr.gg).trans F3.gg, run4.shift F3⟩
        | bk e3 => rw [q3] at run4; exact run4
        | rt d e3 => rw [q3] at run4; exact run4
        | rl d e3 => rw [q3] at run4; exact run4
        | ex x e3 => rw [q3] at run4; exact run4
        | stuck => rw [q3] at run4; exact run4
    · have ei : xs.drop i = [] := List.drop_eq_nil_of_le (by omega)
      rw [ei] at run
      exact .inl ⟨w2 (by omega), run σ' G' H' R' (Fr.refl _ _ _ _)⟩
end
end DL
set_option Elab.async false
set_option linter.all false
set_option maxRecDepth 100000
set_option autoImplicit false
namespace DL
open PySem L2
def iSeq (de : DE) : DA := fun env => (de env).bind fun d e1 => match d with
  | .list xs => .ok xs e1
  | .tuple xs => .ok xs e1
  | _ => .stuck
def rngD (lo hi : Int) : List D := (List.range (hi - lo).toNat).map fun k => .int (lo + (k : Nat))
def int1 : List D → Option Int
  | [.int j] => some j
  | _ => none
theorem int1_some {ds : List D} {j : Int} (h : int1 ds = some j) : ds = [.int j] := by
  unfold int1 at h
  split at h
  · cases h; rfl
  · cases h
noncomputable def iRng1 (da : DA) : DA := fun env => (da env).bind fun ds e1 => match int1 ds with
  | some j => if I62 j then .ok (rngD 0 j) e1 else .stuck
  | none => .stuck
theorem walk_list {K : PySem.W.Frag} {G : Hp} {a : Addr} {xs : List V} {ds : List D} (h : RL K G a xs) (dv : DvAll K G xs ds) : WalkD K (Itl K a) ds G := fun i G' H' e1 e2 => by
  have hq : SqL K H' a xs := ((e1.trans e2).rl h).sq
  refine ⟨fun d hd => ?_, fun hl => ⟨xs, hq, by rw [dv.length]; exact hl⟩⟩
  obtain ⟨v, hv, dvv⟩ := dv.get hd
  refine ⟨⟨xs, v, hq, hv⟩, fun x H'' ⟨e, y⟩ => ?_⟩
  subst e
  have : x = v := Option.some.inj ((y xs hq).symm.trans hv)
  subst this
  exact ⟨G', Grow.refl e2, dvv.up e1⟩
theorem walk_tup {K : PySem.W.Frag} {G : Hp} {a : Addr} {xs : List V} {ds : List D} (h : SqT K G a xs) (dv : DvAll K G xs ds) : WalkD K (Itt K a) ds G := fun i G' H' e1 e2 => by
  have hq : SqT K H' a xs := (e1.trans e2).t h
  refine ⟨fun d hd => ?_, fun hl => ⟨xs, hq, by rw [dv.length]; exact hl⟩⟩
  obtain ⟨v, hv, dvv⟩ := dv.get hd
  refine ⟨⟨xs, v, hq, hv⟩, fun x H'' ⟨e, y⟩ => ?_⟩
  subst e
  have : x = v := Option.some.inj ((y xs hq).symm.trans hv)
  subst this
  exact ⟨G', Grow.refl e2, dvv.up e1⟩
theorem walk_rng {K : PySem.W.Frag} {G : Hp} (lo hi : Int) : WalkD K (Itr lo (hi - lo).toNat) (rngD lo hi) G := fun i G' H' e1 e2 => by
  have hl : (rngD lo hi).length = (hi - lo).toNat := by simp [rngD]
  refine ⟨fun d hd => ?_, fun hl' => by rw [hl] at hl'; exact hl'⟩
  obtain ⟨h1, h2⟩ := List.getElem?_eq_some_iff.mp hd
  have h1' : i < (hi - lo).toNat := by rw [← hl]; exact h1
  refine ⟨h1', fun x H'' ⟨e, y⟩ => ?_⟩
  subst e
  have ed : d = .int (lo + (i : Nat)) := by rw [← h2]; simp [rngD]
  subst ed
  rw [y]
  exact ⟨G', Grow.refl e2, .int _⟩
section
variable {X : Cx} {W : WX} {pos : Pos} {tg e : Expr} {de : DE}
theorem ci_seq (he : CE X W e de) : CI X W tg e (iSeq de) := pi_imp (pi_or (pi_list he) (pi_tup he)) fun σ H R h => by
  obtain ⟨env, G, R0, h⟩ := h
  have h' : RunI X.K X.mg W env σ G H ((de env).bind fun d e1 => match d with
    | .list xs => .ok xs e1
    | .tuple xs => .ok xs e1
    | _ => .stuck) R := h
  cases q : de env with
  | stuck => rw [q] at h'; exact h'.elim
  | ex x e => rw [q] at h'; exact .inl ⟨env, G, R0, by rw [q]; exact h'⟩
  | ok d e1 =>
    rw [q] at h'
    cases d with
    | list xs =>
      refine .inl ⟨env, G, R0, ?_⟩
      rw [q]
      intro v G1 H1 R1 dv F1
      cases dv with
      | lst a b => exact ⟨_, rfl, ⟨_, (R1.ex.rl a).sq⟩, h' _ G1 H1 R1 (walk_list a b) F1⟩
    | tuple xs =>
      refine .inr ⟨env, G, R0, ?_⟩
      rw [q]
      intro v G1 H1 R1 dv F1
      cases dv with
      | tup a b => exact ⟨_, rfl, ⟨_, (R1.ex.n a).t⟩, h' _ G1 H1 R1 (walk_tup a.t b) F1⟩
    | none => exact h'.elim
    | bool b => exact h'.elim
    | int b => exact h'.elim
    | str b => exact h'.elim
    | dict b => exact h'.elim
theorem A_thenI {K : PySem.W.Frag} {mg : Str → Option Value} {env : DEnv} {σ : L2.St} {G H : Hp} {da : DA} {f : List D → DEnv → Rs (List D)} {R : It → Hp → Prop} {R' : List V → Hp → Prop} (hR : Rel K env σ G H) (h : RunI K mg W env σ G H ((da env).bind f) R)
    (k : ∀ d e1 v G1 H1, da env = .ok d e1 → Rel K e1 σ G1 H1 → DvAll K G1 v d → Fr env σ G H e1 σ G1 H1 → RunI K mg W e1 σ G1 H1 (f d e1) R → R' v H1) : rdA K mg W da σ H R' :=
  A_then hR (P := fun e s G H r => RunI K mg W e s G H r R) h (fun _ _ z => z) (fun z => z) (fun e1 G1 H1 r a b => by
    cases r with
    | ok ds e => exact fun J G' H' x y z => a J G' H' x y (b.trans z)
    | ex x e => exact RunX.shift a b
    | stuck => exact a) k
theorem ci_range1 {a : Expr} {da : DA} {p : Pos} (hm : X.mg "range" = none) (ha : CA X W [a] da) (hg : Gl X "range" := by rfl) (hs : starEach [a] X.env = [(false, eval a X.env)] := by rfl) : CI X W tg (.Call (.Name "range" p) [a] [] pos) (iRng1 da) :=
  pi_imp (pi_range1 hg hm ha hs) fun σ H R h => by
    obtain ⟨env, G, R0, h⟩ := h
    refine A_thenI R0 h fun ds e1 vs G1 H1 q R1 dv F1 h1 => ?_
    cases q2 : int1 ds with
    | none => rw [q2] at h1; exact h1.elim
    | some j =>
      rw [q2] at h1
      have e := int1_some q2
      subst e
      obtain ⟨v, rfl, dv1⟩ := dv.inv1
      obtain rfl : v = .int j := by cases dv1; rfl
      by_cases c : I62 j
      · have h2 : RunI X.K X.mg W e1 σ G1 H1 (if I62 j then .ok (rngD 0 j) e1 else .stuck) R := h1
        rw [if_pos c] at h2
        have w := walk_rng (K := X.K) (G := G1) 0 j
        rw [Int.sub_zero] at w
        exact ⟨j, rfl, c.1, c.2, h2 _ G1 H1 R1 w (Fr.refl _ _ _ _)⟩
      · have h2 : RunI X.K X.mg W e1 σ G1 H1 (if I62 j then .ok (rngD 0 j) e1 else .stuck) R := h1
        rw [if_neg c] at h2
        exact h2.elim
end
def wipeD (env : DEnv) : List Nat → DEnv
  | [] => env
  | v :: vs => (wipeD env vs).set v .no
def mergeD (env0 env : DEnv) : List Nat → DEnv
  | [] => env
  | v :: vs => (mergeD env0 env vs).set v (env0.getD v .no)
def noOwn (env : DEnv) (vs : List Nat) : Bool := vs.all fun i => match env[i]? with
  | some s => !s.own
  | none => false
def compD (g : DG) (t : DT) (e : DE) (vs : List Nat) : List D → DA
  | [] => fun env => .ok [] env
  | d :: ds => fun env => match g d env with
    | none => .stuck
    | some e1 => (t e1).bind fun b e2 => if b then (e e2).bind fun y e3 => (compD g t e vs ds (wipeD e3 vs)).bind fun ys e4 => .ok (y :: ys) e4 else compD g t e vs ds (wipeD e2 vs)
def tYesD : DT := fun env => .ok true env
def lComp (di : DA) (g : DG) (t : DT) (e : DE) (vs : List Nat) : DA := fun env => (di env).bind fun ds e1 =>
  if ds.length ≤ 100000 ∧ noOwn e1 vs = true then match compD g t e vs ds (wipeD e1 vs) with
    | .ok ys e2 => .ok ys (mergeD e1 e2 vs)
    | _ => .stuck
  else .stuck
theorem wipe_get (σ : L2.St) (j : Nat) : ∀ vs : List Nat, (wipe σ vs)[j]? = if j ∈ vs then (σ[j]?).map fun _ => none else σ[j]?
  | [] => by simp [wipe]
  | v :: vs => by
    unfold wipe
    by_cases h : j = v
    · subst h
      rw [if_pos (by simp)]
      by_cases hl : j < (wipe σ vs).length
      · rw [List.getElem?_set_self hl]
        rw [wipe_length] at hl
        rw [List.getElem?_eq_getElem hl]; rfl
      · rw [List.getElem?_eq_none (by simpa using hl)]
        rw [wipe_length] at hl
        rw [List.getElem?_eq_none (by omega)]; rfl
    · rw [List.getElem?_set_ne (Ne.symm h), wipe_get σ j vs]
      by_cases hv : j ∈ vs
      · rw [if_pos hv, if_pos (by simp [hv])]
      · rw [if_neg hv, if_neg (by simp [h, hv])]
theorem wipeD_length (env : DEnv) : ∀ vs : List Nat, (wipeD env vs).length = env.length
  | [] => rfl
  | v :: vs => by unfold wipeD; rw [List.length_set, wipeD_length env vs]
theorem wipeD_get (env : DEnv) (j : Nat) : ∀ vs : List Nat, (wipeD env vs)[j]? = if j ∈ vs then (env[j]?).map fun _ => Sl.no else env[j]?
  | [] => by simp [wipeD]
  | v :: vs => by
    unfold wipeD
    by_cases h : j = v
    · subst h
      rw [if_pos (by simp)]
      by_cases hl : j < (wipeD env vs).length
      · rw [List.getElem?_set_self hl]
        rw [wipeD_length] at hl
        rw [List.getElem?_eq_getElem hl]; rfl
      · rw [List.getElem?_eq_none (by simpa using hl)]
        rw [wipeD_length] at hl
        rw [List.getElem?_eq_none (by omega)]; rfl
    · rw [List.getElem?_set_ne (Ne.symm h), wipeD_get env j vs]
      by_cases hv : j ∈ vs
      · rw [if_pos hv, if_pos (by simp [hv])]
      · rw [if_neg hv, if_neg (by simp [h, hv])]
theorem mergeD_length (env0 env : DEnv) : ∀ vs : List Nat, (mergeD env0 env vs).length = env.length
  | [] => rfl
  | v :: vs => by unfold mergeD; rw [List.length_set, mergeD_length env0 env vs]
theorem mergeD_get (env0 env : DEnv) (hl0 : env0.length = env.length) (j : Nat) : ∀ vs : List Nat, (mergeD env0 env vs)[j]? = if j ∈ vs then env0[j]? else env[j]?
  | [] => by simp [mergeD]
  | v :: vs => by
    unfold mergeD
    by_cases h : j = v
    · subst h
      rw [if_pos (by simp)]
      by_cases hl : j < (mergeD env0 env vs).length
      · rw [List.getElem?_set_self hl]
        rw [mergeD_length] at hl
        rw [List.getD_eq_getElem?_getD, List.getElem?_eq_getElem (by omega)]; rfl
      · rw [List.getElem?_eq_none (by simpa using hl)]
        rw [mergeD_length] at hl
        rw [List.getElem?_eq_none (by omega)]
    · rw [List.getElem?_set_ne (Ne.symm h), mergeD_get env0 env hl0 j vs]
      by_cases hv : j ∈ vs
      · rw [if_pos hv, if_pos (by simp [hv])]
      · rw [if_neg hv, if_neg (by simp [h, hv])]
theorem wipe_ext {σ1 σ2 : L2.St} {vs : List Nat} (hl : σ1.length = σ2.length) (h : ∀ j : Nat, j ∉ vs → σ1[j]? = σ2[j]?) : wipe σ1 vs = wipe σ2 vs := by
  refine List.ext_getElem? fun j => ?_
  rw [wipe_get, wipe_get]
  by_cases hv : j ∈ vs
  · rw [if_pos hv, if_pos hv]
    by_cases c : j < σ1.length
    · rw [List.getElem?_eq_getElem c, List.getElem?_eq_getElem (by omega)]; rfl
    · rw [List.getElem?_eq_none (by omega), List.getElem?_eq_none (by omega)]
  · rw [if_neg hv, if_neg hv, h j hv]
theorem wipe_own {env : DEnv} {σ : L2.St} {H : Hp} {vs : List Nat} {i : Nat} {a : Addr} (h : OwnAt (wipeD env vs) (wipe σ vs) H i a) : OwnAt env σ H i a ∧ i ∉ vs := by
  obtain ⟨s, o, e1, e3, w⟩ := h
  rw [wipeD_get] at e1
  rw [wipe_get] at e3
  by_cases hv : i ∈ vs
  · rw [if_pos hv] at e1
    cases q : env[i]? with
    | none => rw [q] at e1; cases e1
    | some t => rw [q] at e1; cases e1; exact w.elim
  · rw [if_neg hv] at e1 e3
    exact ⟨⟨s, o, e1, e3, w⟩, hv⟩
theorem Rel.wipe {K : PySem.W.Frag} {env : DEnv} {σ : L2.St} {G H : Hp} (R : Rel K env σ G H) (vs : List Nat) : Rel K (wipeD env vs) (L2.wipe σ vs) G H := by
  refine ⟨R.ex, by rw [wipeD_length, wipe_length]; exact R.len, fun i s o e1 e2 => ?_, fun i j a x y => R.dist i j a (wipe_own x).1 (wipe_own y).1⟩
  rw [wipeD_get] at e1
  rw [wipe_get] at e2
  by_cases hv : i ∈ vs
  · rw [if_pos hv] at e1
    cases q : env[i]? with
    | none => rw [q] at e1; cases e1
    | some t => rw [q] at e1; cases e1; trivial
  · rw [if_neg hv] at e1 e2
    exact R.slot i s o e1 e2
theorem Fr.wipe (env : DEnv) (σ : L2.St) (G H : Hp) (vs : List Nat) : Fr env σ G H (wipeD env vs) (L2.wipe σ vs) G H := by
  refine ⟨Ex.refl _, fun _ _ h _ => h, fun _ h => h, fun _ h => .inl h, fun a ⟨i, h⟩ => .inl ⟨i, (wipe_own h).1⟩, fun i s h n => ?_⟩
  rw [wipeD_get] at h
  by_cases hv : i ∈ vs
  · rw [if_pos hv] at h
    cases q : env[i]? with
    | none => rw [q] at h; cases h
    | some t => rw [q] at h; cases h; exact absurd rfl n
  · rw [if_neg hv] at h
    rw [wipe_get, if_neg hv]
    exact ⟨rfl, s, h, rfl⟩
/-- an object that was not there at first is changed -/
theorem Fr.mutNew {env env' : DEnv} {σ σ' : L2.St} {G H G' H' : Hp} {p : Addr} {o : HO} (F : Fr env σ G H env' σ' G' H') (h : H p = none) (m : ∀ i a, OwnAt env' σ' (upd H' p o) i a ↔ OwnAt env' σ' H' i a) : Fr env σ G H env' σ' G' (upd H' p o) :=
  ⟨F.gg, fun a u ha hn => by rw [upd_ne (ne_of_none ha h)]; exact F.keep a u ha hn, fun a ha => by
    by_cases z : a = p
    · subst z; exact h
    · rw [upd_ne z] at ha; exact F.dom a ha, F.fresh, fun a ⟨i, w⟩ => F.own a ⟨i, (m i a).1 w⟩, F.par⟩
theorem Rel.mutFreeO {K : PySem.W.Frag} {env : DEnv} {σ : L2.St} {G H : Hp} {p : Addr} {o : HO} (R : Rel K env σ G H) (hg : G p = none) (hn : ¬ Own env σ H p) : Rel K env σ G (upd H p o) ∧ ∀ i a, OwnAt env σ (upd H p o) i a ↔ OwnAt env σ H i a :=
  R.move (fun a u ha => by
    rw [upd_ne (fun z => by subst z; rw [hg] at ha; cases ha)]
    exact R.ex a u ha) (Ex.refl _) (fun a w => upd_ne fun z => by subst z; exact hn w) fun a w => (w.there R).2
theorem Rel.mutFree {K : PySem.W.Frag} {env : DEnv} {σ : L2.St} {G H : Hp} {p : Addr} {o : HO} (R : Rel K env σ G H) (hg : G p = none) (hn : ¬ Own env σ H p) : Rel K env σ G (upd H p o) := (R.mutFreeO hg hn).1
/-- as if what was laid ahead had not been there -/
theorem Fr.unlay {K : PySem.W.Frag} {env e1 : DEnv} {σ : L2.St} {G H G' H' : Hp} {p : Addr} {o : HO} (R : Rel K env σ G H) (hp : H p = none) (F : Fr env σ G (upd H p o) e1 σ G' H') : Fr env σ G H e1 σ G' H' := by
  have m := (R.laid1 (o := o) hp).2
  have up : ∀ {a}, Own env σ (upd H p o) a → Own env σ H a := fun ⟨i, w⟩ => ⟨i, (m i _).1 w⟩
  refine ⟨F.gg, fun a u ha hn => F.keep a u (by rw [upd_ne (ne_of_none ha hp)]; exact ha) fun w => hn (up w), fun a ha => ?_, fun a ha => ?_, fun a ha => ?_, F.par⟩
  · have := F.dom a ha
    by_cases z : a = p
    · subst z; exact hp
    · rw [upd_ne z] at this; exact this
  · rcases F.fresh a ha with w | w | w
    · exact .inl w
    · by_cases z : a = p
      · subst z; exact .inr (.inl hp)
      · rw [upd_ne z] at w; exact .inr (.inl w)
    · exact .inr (.inr (up w))
  · rcases F.own a ha with w | w
    · exact .inl (up w)
    · by_cases z : a = p
      · subst z; exact .inr hp
      · rw [upd_ne z] at w; exact .inr w
/-- no exception leaves -/
abbrev WF : WX := fun _ _ _ _ => False
section
variable {X : Cx} {W : WX} {pos : Pos}
theorem lc_ok {K : PySem.W.Frag} {mg : Str → Option Value} {di : DA} {g : DG} {ws : List Nat} {t : DT} {e : DE} {vs : List Nat} (hws : ∀ j ∈ ws, j ∈ vs) (σ : L2.St) (H : Hp) (Q : VK) (hQ : rdL K mg W (lComp di g t e vs) σ H Q) :
    tLc (rdI K mg W di) (rdG K g ws) (rdT K mg WF t) (rdE K mg WF e) vs σ H Q := by
  obtain ⟨env, G, R, h⟩ := hQ
  refine ⟨env, G, R, ?_⟩
  have h' : RunL K mg W env σ G H ((di env).bind fun ds e1 => if ds.length ≤ 100000 ∧ noOwn e1 vs = true then match compD g t e vs ds (wipeD e1 vs) with
    | .ok ys e2 => .ok ys (mergeD e1 e2 vs)
    | _ => .stuck else .stuck) Q := h
  cases q : di env with
  | stuck => rw [q] at h'; exact h'
  | ex x e => rw [q] at h'; exact h'
  | ok ds e1 =>
    rw [q] at h'
    intro J G1 H1 R1 wk F1 A hA
    have h2 : RunL K mg W env σ G H (if ds.length ≤ 100000 ∧ noOwn e1 vs = true then match compD g t e vs ds (wipeD e1 vs) with
      | .ok ys e2 => .ok ys (mergeD e1 e2 vs)
      | _ => .stuck else .stuck) Q := h'
    by_cases c : ds.length ≤ 100000 ∧ noOwn e1 vs = true
    · rw [if_pos c] at h2
      cases qc : compD g t e vs ds (wipeD e1 vs) with
      | stuck => rw [qc] at h2; exact h2.elim
      | ex x e => rw [qc] at h2; exact h2.elim
      | ok ys e2 =>
        rw [qc] at h2
        have Rw := R1.wipe vs
        have gA : G1 A = none := R1.ex.none hA
        have nA : ¬ Own (wipeD e1 vs) (L2.wipe σ vs) H1 A := fun z => (z.there Rw).1 hA
        have mA := (Rw.mutFreeO (o := .lst []) gA nA).2
        refine ⟨fun i m H' => ∃ env' G' acc vacc zs, Rel K env' (L2.wipe σ vs) G' H' ∧ Ex G1 G' ∧ Fr (wipeD e1 vs) (L2.wipe σ vs) G1 H1 env' (L2.wipe σ vs) G' H' ∧ H' A = some (.lst vacc) ∧ G' A = none ∧ ¬ Own env' (L2.wipe σ vs) H' A ∧ DvAll K G' vacc acc ∧ acc.length ≤ i ∧
            compD g t e vs (ds.drop i) env' = .ok zs e2 ∧ ys = acc ++ zs ∧ m + i = ds.length,
          ⟨ds.length, wipeD e1 vs, G1, [], [], ys, Rw.mutFree gA nA, Ex.refl _, ⟨Ex.refl _, fun a u ha _ => by rw [upd_ne (ne_of_none ha hA)]; exact ha, fun a ha => ?_, fun _ z => .inl z, fun a ⟨i, z⟩ => .inl ⟨i, (mA i a).1 z⟩, fun _ s z _ => ⟨rfl, s, z, rfl⟩⟩, upd_same, gA, fun ⟨i, z⟩ => nA ⟨i, (mA i A).1 z⟩, .nil, Nat.le_refl _, qc, rfl, rfl⟩, ?_⟩
        · by_cases z : a = A
          · subst z; exact hA
          · rw [upd_ne z] at ha; exact ha
        · rintro i m H' ⟨env', G', acc, vacc, zs, R', ex', F', a1, a2, a3, a4, a5, a6, a7, em⟩
          obtain ⟨w1, w2⟩ := wk i G' H' ex' R'.ex
          by_cases hi : i < ds.length
          · have hd : ds[i]? = some ds[i] := List.getElem?_eq_getElem hi
            obtain ⟨go, yl⟩ := w1 _ hd
            refine .inr ⟨go, fun H2 => ∃ env' G' acc vacc zs, Rel K env' (L2.wipe σ vs) G' H2 ∧ Ex G1 G' ∧ Fr (wipeD e1 vs) (L2.wipe σ vs) G1 H1 env' (L2.wipe σ vs) G' H2 ∧ H2 A = some (.lst vacc) ∧ G' A = none ∧ ¬ Own env' (L2.wipe σ vs) H2 A ∧ DvAll K G' vacc acc ∧ acc.length ≤ i + 1 ∧
              compD g t e vs (ds.drop (i + 1)) env' = .ok zs e2 ∧ ys = acc ++ zs, fun H2 ⟨env', G', acc, vacc, zs, b1, b2, b3, b4, b5, b6, b7, b8, b9, b10⟩ => ⟨m - 1, by omega, env', G', acc, vacc, zs, b1, b2, b3, b4, b5, b6, b7, b8, b9, b10, by omega⟩, fun x H'' y => ?_⟩
            obtain ⟨G'', gr, dv⟩ := yl x H'' y
            rw [List.drop_eq_getElem_cons hi] at a6
            have R'' := R'.grow gr
            have F'' := F'.trans (gr.fr R')
            have gA'' : G'' A = none := by
              cases z : G'' A with
              | none => rfl
              | some u =>
                rcases gr.fresh A (by rw [z]; exact fun w => by cases w) with w | w
                · exact absurd a2 w
                · rw [w] at a1; cases a1
            have hA'' : H'' A = some (.lst vacc) := gr.hh _ _ a1
            have a6' : (match g ds[i] env' with
              | none => Rs.stuck
              | some e1 => (t e1).bind fun b e2 => if b then (e e2).bind fun y e3 => (compD g t e vs (ds.drop (i + 1)) (wipeD e3 vs)).bind fun ys e4 => .ok (y :: ys) e4 else compD g t e vs (ds.drop (i + 1)) (wipeD e2 vs)) = .ok zs e2 := a6
            cases qg : g ds[i] env' with
            | none => rw [qg] at a6'; cases a6'
            | some f1 =>
              rw [qg] at a6'
              refine ⟨env', G'', ds[i], R'', dv, f1, qg, fun σ2 R2 F2 T2 => ?_⟩
              have hwipe : L2.wipe σ2 vs = L2.wipe σ vs := by
                have e1 : L2.wipe σ2 vs = L2.wipe (L2.wipe σ vs) vs := wipe_ext T2.1 fun j hj => T2.2 j fun z => hj (hws j z)
                rw [e1]
                refine wipe_ext (wipe_length _ _) fun j hj => ?_
                rw [wipe_get, if_neg hj]
              refine ⟨hwipe, ?_⟩
              have own2 : ¬ Own f1 σ2 H'' A := fun z => by
                rcases F2.own A z with ⟨k, w⟩ | w
                · exact a3 ⟨k, ((R'.growO gr).2 k A).1 w⟩
                · rw [w] at hA''; cases hA''
              have stay : ∀ {f2 : DEnv} {G3 H3 : Hp}, Rel K f2 σ2 G3 H3 → Fr f1 σ2 G'' H'' f2 σ2 G3 H3 → H3 A = some (.lst vacc) ∧ G3 A = none ∧ ¬ Own f2 σ2 H3 A := fun {f2 G3 H3} R3 F3 => by
                have h3 : H3 A = some (.lst vacc) := F3.keep A _ hA'' own2
                refine ⟨h3, ?_, fun z => ?_⟩
                · cases z : G3 A with
                  | none => rfl
                  | some u =>
                    rcases F3.fresh A (by rw [z]; exact fun w => by cases w) with w | w | w
                    · exact absurd gA'' w
                    · rw [w] at hA''; cases hA''
                    · exact absurd w own2
                · rcases F3.own A z with w | w
                  · exact own2 w
                  · rw [w] at hA''; cases hA''
              refine ⟨f1, G'', R2, ?_⟩
              have a6' : ((t f1).bind fun b e2 => if b then (e e2).bind fun y e3 => (compD g t e vs (ds.drop (i + 1)) (wipeD e3 vs)).bind fun ys e4 => .ok (y :: ys) e4 else compD g t e vs (ds.drop (i + 1)) (wipeD e2 vs)) = .ok zs e2 := a6'
              cases qt : t f1 with
              | stuck => rw [qt] at a6'; cases a6'
              | ex x e => rw [qt] at a6'; cases a6'
              | ok b f2 =>
                rw [qt] at a6'
                intro G3 H3 R3 F3
                obtain ⟨s1, s2, s3⟩ := stay R3 F3
                have a7' : (if b then (e f2).bind fun y e3 => (compD g t e vs (ds.drop (i + 1)) (wipeD e3 vs)).bind fun ys e4 => .ok (y :: ys) e4 else compD g t e vs (ds.drop (i + 1)) (wipeD f2 vs)) = .ok zs e2 := a6'
                cases b with
                | false =>
                  have a8 : compD g t e vs (ds.drop (i + 1)) (wipeD f2 vs) = .ok zs e2 := a7'
                  have Rn := R3.wipe vs
                  rw [hwipe] at Rn
                  have Fn := ((F''.trans F2).trans F3).trans (Fr.wipe f2 σ2 G3 H3 vs)
                  rw [hwipe] at Fn
                  refine ⟨wipeD f2 vs, G3, acc, vacc, zs, Rn, (ex'.trans gr.gg).trans F3.gg, Fn, s1, s2, fun z => ?_, a4.up (gr.gg.trans F3.gg), by omega, a8, a7⟩
                  rw [← hwipe] at z
                  obtain ⟨k, hk⟩ := z
                  exact s3 ⟨k, (wipe_own hk).1⟩
                | true =>
                  have a8 : (e f2).bind (fun y e3 => (compD g t e vs (ds.drop (i + 1)) (wipeD e3 vs)).bind fun ys e4 => .ok (y :: ys) e4) = .ok zs e2 := a7'
                  refine ⟨f2, G3, R3, ?_⟩
                  cases qe : e f2 with
                  | stuck => rw [qe] at a8; cases a8
                  | ex x e => rw [qe] at a8; cases a8
                  | ok y0 f3 =>
                    rw [qe] at a8
                    intro v G4 H4 R4 dv4 F4
                    obtain ⟨u1, u2, u3⟩ := stay R4 (F3.trans F4)
                    have a9 : (compD g t e vs (ds.drop (i + 1)) (wipeD f3 vs)).bind (fun ys e4 => .ok (y0 :: ys) e4) = .ok zs e2 := a8
                    cases qn : compD g t e vs (ds.drop (i + 1)) (wipeD f3 vs) with
                    | stuck => rw [qn] at a9; cases a9
                    | ex x e => rw [qn] at a9; cases a9
                    | ok zs' e5 =>
                      rw [qn] at a9
                      cases a9
                      have Rn := R4.wipe vs
                      rw [hwipe] at Rn
                      have Fn := (((F''.trans F2).trans F3).trans F4).trans (Fr.wipe f3 σ2 G4 H4 vs)
                      rw [hwipe] at Fn
                      have nown : ¬ Own (wipeD f3 vs) (L2.wipe σ vs) H4 A := fun z => by
                        rw [← hwipe] at z
                        obtain ⟨k, hk⟩ := z
                        exact u3 ⟨k, (wipe_own hk).1⟩
                      have up4 : Ex G' G4 := (gr.gg.trans F3.gg).trans F4.gg
                      have mN := (Rn.mutFreeO (o := .lst (vacc ++ [v])) u2 nown).2
                      refine ⟨vacc, u1, ?_, wipeD f3 vs, G4, acc ++ [y0], vacc ++ [v], zs', Rn.mutFree u2 nown, ((ex'.trans gr.gg).trans F3.gg).trans F4.gg, Fn.mutNew hA mN, upd_same, u2, fun ⟨i, z⟩ => nown ⟨i, (mN i A).1 z⟩, (a4.up up4).append (.one dv4), ?_, qn, by rw [a7]; simp⟩
                      · rw [a4.length]
                        exact Nat.lt_of_lt_of_le (show acc.length < 100000 by omega) (by decide)
                      · simp; omega
          · have ei : ds.drop i = [] := List.drop_eq_nil_of_le (by omega)
            rw [ei] at a6
            have a6' : Rs.ok ([] : List D) env' = Rs.ok zs e2 := a6
            injection a6' with z1 z2
            refine .inl ⟨w2 (by omega), ?_⟩
            rw [← z1, List.append_nil] at a7
            subst a7
            rw [← z2] at h2
            have hl0 : e1.length = env'.length := by rw [R1.len, R'.len, wipe_length]
            have ownM : ∀ i b, OwnAt (mergeD e1 env' vs) σ H' i b → OwnAt env' (L2.wipe σ vs) H' i b ∧ i ∉ vs := fun i b ⟨s, o, x1, x3, x2⟩ => by
              rw [mergeD_get e1 env' hl0] at x1
              by_cases hv : i ∈ vs
              · rw [if_pos hv] at x1
                have := List.all_eq_true.mp c.2 i hv
                rw [x1] at this
                simp [x2.own] at this
              · rw [if_neg hv] at x1
                exact ⟨⟨s, o, x1, by rw [wipe_get, if_neg hv]; exact x3, x2⟩, hv⟩
            refine h2 A vacc G' H' ⟨R'.ex, by rw [mergeD_length, ← hl0]; exact R1.len, fun i s o x1 x2 => ?_, fun i j b x y => R'.dist i j b (ownM i b x).1 (ownM j b y).1⟩ a1 a2 (F1.dom A hA) (fun ⟨i, z⟩ => a3 ⟨i, (ownM i A z).1⟩) a4
              (F1.trans ⟨F'.gg, fun a u ha hn => F'.keep a u ha fun ⟨i, z⟩ => hn ⟨i, (wipe_own z).1⟩, F'.dom, fun a ha => ?_, fun a ⟨i, z⟩ => ?_, fun i s hx n => ?_⟩)
            · rw [mergeD_get e1 env' hl0] at x1
              by_cases hv : i ∈ vs
              · rw [if_pos hv] at x1
                have hno := List.all_eq_true.mp c.2 i hv
                rw [x1] at hno
                have qs := R1.slot i s o x1 x2
                cases s with
                | no => trivial
                | v d => obtain ⟨v, e, qs⟩ := qs; exact ⟨v, e, qs.up F'.gg⟩
                | l xs => simp [Sl.own] at hno
                | p xs => simp [Sl.own] at hno
                | n _ => obtain ⟨b, e, q1⟩ := qs; exact ⟨b, e, F'.gg _ _ q1⟩
                | m xs => simp [Sl.own] at hno
                | t xs => simp [Sl.own] at hno
                | u xs => simp [Sl.own] at hno
                | f x => exact qs
                | a x _ _ => exact ⟨qs.1, qs.2.up F'.gg⟩
              · rw [if_neg hv] at x1
                exact R'.slot i s o x1 (by rw [wipe_get, if_neg hv]; exact x2)
            · rcases F'.fresh a ha with w | w | ⟨i, w⟩
              · exact .inl w
              · exact .inr (.inl w)
              · exact .inr (.inr ⟨i, (wipe_own w).1⟩)
            · rcases F'.own a ⟨i, (ownM i a z).1⟩ with ⟨k, w⟩ | w
              · exact .inl ⟨k, (wipe_own w).1⟩
              · exact .inr w
            · rw [mergeD_get e1 env' hl0] at hx
              by_cases hv : i ∈ vs
              · rw [if_pos hv] at hx
                have hno := List.all_eq_true.mp c.2 i hv
                rw [hx] at hno
                cases s <;> first | exact absurd rfl n | simp [Sl.own] at hno
              · rw [if_neg hv] at hx
                obtain ⟨p1, s0, p2, p3⟩ := F'.par i s hx n
                rw [wipeD_get, if_neg hv] at p2
                exact ⟨rfl, s0, p2, p3⟩
    · rw [if_neg c] at h2
      exact h2.elim
end
end DL
set_option Elab.async false
set_option linter.all false
set_option maxRecDepth 100000
set_option autoImplicit false
namespace DL
open PySem L2
theorem pts_imp {X : Cx} {e : List Expr} {t t' : TT} (h : PTs X e t) (k : ∀ σ H Q, t' σ H Q → t σ H Q) : PTs X e t' := ⟨fun pins s σ H Q I w => h.run pins s σ H Q I (k σ H Q w)⟩
section
variable {X : Cx} {W : WX} {pos : Pos} {K : PySem.W.Frag} {mg : Str → Option Value}
theorem cts_nil : PTs X [] (rdT X.K X.mg W tYesD) := pts_imp pts_nil fun σ H Q h => by
  obtain ⟨env, G, R, h⟩ := h
  exact h G H R (Fr.refl _ _ _ _)
theorem cts_one {c : Expr} {dt : DT} (h : CT X W c dt) : PTs X [c] (rdT X.K X.mg W dt) := pts_one h
theorem cl_comp {elt tg iter : Expr} {ifs : List Expr} {scope : Scope} {own : List (Str × Nat)} {di : DA} {g : DG} {ws : List Nat} {t : DT} {de : DE} (hc : X.calm = true) (hN : X.N.Nodup) (hi : CI X W tg iter di) (ok : BlkOk X.N X.env.scope scope own)
    (hg : ∀ (s : Shared) (H : Hp) (C : Addr) (cl : List (Str × Addr)) (fp : List Addr), CG (X.blk s H scope (compEnvC scope cl C X.env) fp) tg g ws)
    (ht : ∀ (s : Shared) (H : Hp) (C : Addr) (cl : List (Str × Addr)) (fp : List Addr), PTs (X.blk s H scope (compEnvC scope cl C X.env) fp) ifs (rdT X.K X.mg WF t))
    (he : ∀ (s : Shared) (H : Hp) (C : Addr) (cl : List (Str × Addr)) (fp : List Addr), CE (X.blk s H scope (compEnvC scope cl C X.env) fp) WF elt de)
    (hws : ∀ j ∈ ws, j ∈ own.map (·.2) := by decide) (hs : ∀ x, foldedSetIterable iter X.env x = pure x := by intro _; rfl) : CL X W (.ListComp elt [⟨tg, iter, ifs, 0⟩] scope pos) (lComp di g t de (own.map (·.2))) :=
  pe_imp (pe_lc hc hN hi ok hg ht he hs) fun σ H Q h => lc_ok hws σ H Q h
/-- y = [..], y's list stands still -/
theorem cs_setComp {i : Nat} {y : Str} {py spos : Pos} {elt tg iter : Expr} {ifs : List Expr} {scope : Scope} {own : List (Str × Nat)} {di : DA} {g : DG} {ws : List Nat} {t : DT} {de : DE} (hc : X.calm = true) (hN : X.N.Nodup) (hy : X.N[i]? = some y) (hyl : X.env.scope.names.lookup y = some .local)
    (hsw : swapsWith (.ListComp elt [⟨tg, iter, ifs, 0⟩] scope pos) (some (.Name y py)) spos.line X.env = pure true) (hi : CI X W tg iter di) (ok : BlkOk X.N X.env.scope scope own)
    (hg : ∀ (s : Shared) (H : Hp) (C : Addr) (cl : List (Str × Addr)) (fp : List Addr), CG (X.blk s H scope (compEnvC scope cl C X.env) fp) tg g ws)
    (ht : ∀ (s : Shared) (H : Hp) (C : Addr) (cl : List (Str × Addr)) (fp : List Addr), PTs (X.blk s H scope (compEnvC scope cl C X.env) fp) ifs (rdT X.K X.mg WF t))
    (he : ∀ (s : Shared) (H : Hp) (C : Addr) (cl : List (Str × Addr)) (fp : List Addr), CE (X.blk s H scope (compEnvC scope cl C X.env) fp) WF elt de)
    (hws : ∀ j ∈ ws, j ∈ own.map (·.2) := by decide) (hs : ∀ x, foldedSetIterable iter X.env x = pure x := by intro _; rfl) :
    CS X W (.Assign [.Name y py] (.ListComp elt [⟨tg, iter, ifs, 0⟩] scope pos) spos) (sAsg (eLst (lComp di g t de (own.map (·.2)))) (gN i)) := ps_imp (ps_setLc hc hN hy hyl hsw hi ok hg ht he hs) fun E σ H h => by
  obtain ⟨env, G, R, h⟩ := h
  refine lc_ok hws σ H _ (L_to_E σ H _ (E_thenS R h fun d e1 v G1 H1 _ R1 dv F1 h1 => ?_))
  cases q : gN i d e1 with
  | none => rw [q] at h1; exact h1.elim
  | some e2 =>
    rw [q] at h1
    obtain ⟨s0, a1, a2, rfl⟩ := setV_some q
    exact h1 _ G1 H1 (R1.set a1 a2 ⟨v, rfl, dv⟩ (fun _ z => nomatch z) fun z => nomatch z) (Fr.set R1 a1 a2 (fun _ z => nomatch z) rfl)
end
inductive Fo where
  | ok (d : D) (outs : DEnv)
  | okl (xs : List D) (outs : DEnv)
  | ex (x : Xc) (outs : DEnv)
  | stuck
abbrev Df := DEnv → Fo
section
variable (K : PySem.W.Frag) (mg : Str → Option Value)
def RunF (args : DEnv) (σ : L2.St) (G H : Hp) (r : Fo) (Q : VK) (E : XK) : Prop := match r with
  | .ok d outs => ∀ v G' H', Rel K outs σ G' H' → Dv K G' v d → Fr args σ G H outs σ G' H' → Q v H'
  | .okl xs outs => ∀ a vs G' H', Rel K outs σ G' H' → H' a = some (.lst vs) → G' a = none → H a = none → ¬ Own outs σ H' a → DvAll K G' vs xs → Fr args σ G H outs σ G' H' → Q (.ref a) H'
  | .ex x outs => ∀ cls dd G' H', XRel K mg x cls dd G' H' → Rel K outs σ G' H' → Fr args σ G H outs σ G' H' → E cls dd H'
  | .stuck => False
/-- the promise of a def by a function on data -/
def spD (np : Nat) (F : Df) : Sp := fun vs H Q E => vs.length = np ∧ ∃ args G, Rel K args (vs.map some) G H ∧ RunF K mg args (vs.map some) G H (F args) Q E
end
/-- what comes back of the arguments -/
def outOf : Sl → Sl → Sl
  | .p _, .p ys => .p ys
  | .u _, .u y => .u y
  | _, _ => .no
def outsOf (args env : DEnv) : DEnv := args.mapIdx fun i a => outOf a (env.getD i Sl.no)
/-- a def by its body: n slots -/
def bodyF (n : Nat) (ds : DS) : Df := fun args => match ds (args ++ List.replicate (n - args.length) Sl.no) with
  | .nx e => .ok .none (outsOf args e)
  | .rt d e => .ok d (outsOf args e)
  | .rl xs e => .okl xs (outsOf args e)
  | .ex x e => .ex x (outsOf args e)
  | _ => .stuck
section
variable {K : PySem.W.Frag} {mg : Str → Option Value}
theorem outs_get {args env : DEnv} {i : Nat} {s : Sl} (h : (outsOf args env)[i]? = some s) : s = Sl.no ∨ ∃ s0, args[i]? = some s0 ∧ env[i]? = some s ∧ s.pk ≠ 0 ∧ s0.pk = s.pk := by
  unfold outsOf at h
  rw [List.getElem?_mapIdx] at h
  cases q1 : args[i]? with
  | none => simp [q1] at h
  | some a =>
    simp only [q1, Option.map_some, Option.some.injEq] at h
    cases q2 : env[i]? with
    | none =>
      have e : env.getD i Sl.no = Sl.no := by rw [List.getD_eq_getElem?_getD, q2]; rfl
      rw [e] at h
      cases a <;> exact .inl h.symm
    | some b =>
      have e : env.getD i Sl.no = b := by rw [List.getD_eq_getElem?_getD, q2]; rfl
      rw [e] at h
      cases a <;> cases b <;> first | exact .inl h.symm | (subst h; exact .inr ⟨_, rfl, rfl, (by intro z; cases z), rfl⟩)
theorem rel_start {args : DEnv} {vs : List V} {G H : Hp} {N : List Str} (R : Rel K args (vs.map some) G H) (hn : vs.length ≤ N.length) : Rel K (args ++ List.replicate (N.length - args.length) Sl.no) (start N vs) G H := by
  have hl : args.length = vs.length := by simpa using R.len
  have own : ∀ i a, OwnAt (args ++ List.replicate (N.length - args.length) Sl.no) (start N vs) H i a → OwnAt args (vs.map some) H i a := fun i a ⟨s, o, e1, e3, e2⟩ => by
    by_cases c : i < args.length
    · rw [List.getElem?_append_left c] at e1
      unfold L2.start at e3
      rw [List.getElem?_append_left (by simpa [← hl] using c)] at e3
      exact ⟨s, o, e1, e3, e2⟩
    · rw [List.getElem?_append_right (by omega)] at e1
      obtain ⟨_, e⟩ := List.getElem?_eq_some_iff.mp e1
      simp at e
      rw [← e] at e2
      exact e2.elim
  refine ⟨R.ex, ?_, fun i s o e1 e2 => ?_, fun i j a x y => R.dist i j a (own i a x) (own j a y)⟩
  · unfold L2.start
    simp
    omega
  · by_cases c : i < args.length
    · rw [List.getElem?_append_left c] at e1
      unfold L2.start at e2
      rw [List.getElem?_append_left (by simpa [← hl] using c)] at e2
      exact R.slot i s o e1 e2
    · rw [List.getElem?_append_right (by omega)] at e1
      obtain ⟨_, e⟩ := List.getElem?_eq_some_iff.mp e1
      simp at e
      rw [← e]
      trivial
theorem start_get {N : List Str} {vs : List V} {i : Nat} (h : i < vs.length) : (start N vs)[i]? = (vs.map some)[i]? := by
  unfold L2.start
  rw [List.getElem?_append_left (by simpa using h)]
/-- the frame at the def's end, as the caller sees it -/
theorem ends_fr {args env : DEnv} {vs : List V} {σ' : L2.St} {G H G' H' : Hp} {N : List Str} (R : Rel K args (vs.map some) G H) (hn : vs.length ≤ N.length) (R' : Rel K env σ' G' H')
    (F : Fr (args ++ List.replicate (N.length - args.length) Sl.no) (start N vs) G H env σ' G' H') :
    Rel K (outsOf args env) (vs.map some) G' H' ∧ Fr args (vs.map some) G H (outsOf args env) (vs.map some) G' H' ∧ (∀ a, Own (outsOf args env) (vs.map some) H' a → Own env σ' H' a) := by
  have hl : args.length = vs.length := by simpa using R.len
  have up : ∀ i a, OwnAt args (vs.map some) H i a ↔ OwnAt (args ++ List.replicate (N.length - args.length) Sl.no) (start N vs) H i a := fun i a => by
    constructor
    · rintro ⟨s, o, e1, e3, e2⟩
      have c : i < args.length := (List.getElem?_eq_some_iff.mp e1).1
      exact ⟨s, o, by rw [List.getElem?_append_left c]; exact e1, by rw [start_get (by omega)]; exact e3, e2⟩
    · rintro ⟨s, o, e1, e3, e2⟩
      by_cases c : i < args.length
      · rw [List.getElem?_append_left c] at e1
        rw [start_get (by omega)] at e3
        exact ⟨s, o, e1, e3, e2⟩
      · rw [List.getElem?_append_right (by omega)] at e1
        obtain ⟨_, e⟩ := List.getElem?_eq_some_iff.mp e1
        simp at e
        rw [← e] at e2
        exact e2.elim
  -- a slot of outs that is a parameter's: it stands where it stood
  have back : ∀ (i : Nat) (s : Sl), (outsOf args env)[i]? = some s → s = Sl.no ∨ (env[i]? = some s ∧ σ'[i]? = (vs.map some)[i]?) := fun i s h => by
    rcases outs_get h with h | ⟨s0, h1, h2, h3, _⟩
    · exact .inl h
    · obtain ⟨e, _⟩ := F.par i s h2 h3
      have c : i < args.length := (List.getElem?_eq_some_iff.mp h1).1
      rw [start_get (by omega)] at e
      exact .inr ⟨h2, e⟩
  have ownO : ∀ i a, OwnAt (outsOf args env) (vs.map some) H' i a → OwnAt env σ' H' i a := fun i a ⟨s, o, e1, e3, e2⟩ => by
    rcases back i s e1 with h | ⟨h2, h3⟩
    · subst h; exact e2.elim
    · exact ⟨_, o, h2, by rw [h3]; exact e3, e2⟩
  have hlo : (outsOf args env).length = (vs.map some).length := by
    unfold outsOf
    rw [List.length_mapIdx, List.length_map]
    exact hl
  refine ⟨⟨R'.ex, hlo, fun i s o e1 e2 => ?_, fun i j a x y => R'.dist i j a (ownO i a x) (ownO j a y)⟩, ⟨F.gg, fun a o ha hn => F.keep a o ha fun ⟨i, z⟩ => hn ⟨i, (up i a).mpr z⟩, F.dom, fun a ha => ?_, fun a ⟨i, z⟩ => ?_, fun i s hi n => ?_⟩, fun a ⟨i, z⟩ => ⟨i, ownO i a z⟩⟩
  · rcases back i s e1 with h | ⟨h2, h3⟩
    · subst h; trivial
    · exact R'.slot i _ o h2 (by rw [h3]; exact e2)
  · rcases F.fresh a ha with w | w | ⟨i, w⟩
    · exact .inl w
    · exact .inr (.inl w)
    · exact .inr (.inr ⟨i, (up i a).mpr w⟩)
  · rcases F.own a ⟨i, ownO i a z⟩ with ⟨k, w⟩ | w
    · exact .inl ⟨k, (up k a).mpr w⟩
    · exact .inr w
  · rcases outs_get hi with h | ⟨s0, h1, h2, h3, h4⟩
    · subst h; exact absurd rfl n
    · exact ⟨rfl, s0, h1, h4⟩
end
end DL
set_option Elab.async false
set_option linter.all false
set_option maxRecDepth 100000
set_option autoImplicit false
namespace DL
open PySem L2
/-- an argument: data, or a slot's own list lent out -/
inductive Ar where
  | d (x : D)
  | g (x : Str)
  | s (i : Nat)
abbrev DAr := DEnv → Rs (List Ar)
def rNil : DAr := fun env => .ok [] env
def rCons (de : DE) (da : DAr) : DAr := fun env => (de env).bind fun x e1 => (da e1).bind fun xs e2 => .ok (.d x :: xs) e2
/-- what a def gets of a slot that is lent to it -/
def lendS : Sl → Sl
  | .l xs => .p xs
  | .p xs => .p xs
  | .n kvs => .n kvs
  | .t T => .u T
  | .u T => .u T
  | _ => .no
def lentS : Sl → Bool
  | .l _ => true
  | .p _ => true
  | .n _ => true
  | .t _ => true
  | .u _ => true
  | _ => false
def lent (i : Nat) (env : DEnv) : Bool := match env[i]? with
  | some s => lentS s
  | none => false
def ArRel (K : PySem.W.Frag) (G : Hp) (σ : L2.St) : List V → List Ar → Prop
  | [], [] => True
  | v :: vs, .d x :: as => Dv K G v x ∧ ArRel K G σ vs as
  | v :: vs, .g x :: as => v = .ref (He.ga K x) ∧ ArRel K G σ vs as
  | v :: vs, .s i :: as => σ[i]? = some (some v) ∧ ArRel K G σ vs as
  | _, _ => False
theorem ArRel.up {K : PySem.W.Frag} {G G' : Hp} {σ : L2.St} (e : Ex G G') : ∀ {vs : List V} {as : List Ar}, ArRel K G σ vs as → ArRel K G' σ vs as
  | [], [], _ => trivial
  | v :: vs, .d x :: as, h => ⟨h.1.up e, ArRel.up e h.2⟩
  | v :: vs, .g x :: as, h => ⟨h.1, ArRel.up e h.2⟩
  | v :: vs, .s i :: as, h => ⟨h.1, ArRel.up e h.2⟩
theorem ArRel.length {K : PySem.W.Frag} {G : Hp} {σ : L2.St} : ∀ {vs : List V} {as : List Ar}, ArRel K G σ vs as → vs.length = as.length
  | [], [], _ => rfl
  | v :: vs, .d x :: as, h => by simp [ArRel.length h.2]
  | v :: vs, .g x :: as, h => by simp [ArRel.length h.2]
  | v :: vs, .s i :: as, h => by simp [ArRel.length h.2]
theorem ArRel.getD {K : PySem.W.Frag} {G : Hp} {σ : L2.St} : ∀ {vs : List V} {as : List Ar} {j : Nat} {x : D}, ArRel K G σ vs as → as[j]? = some (.d x) → ∃ v, vs[j]? = some v ∧ Dv K G v x
  | [], [], _, _, _, e => by simp at e
  | v :: vs, .d y :: as, 0, x, h, e => by simp at e; subst e; exact ⟨v, rfl, h.1⟩
  | v :: vs, .s i :: as, 0, x, h, e => by simp at e
  | v :: vs, .g i :: as, 0, x, h, e => by simp at e
  | v :: vs, .g y :: as, j + 1, x, h, e => by simpa using ArRel.getD (j := j) (x := x) h.2 (by simpa using e)
  | v :: vs, .d y :: as, j + 1, x, h, e => by simpa using ArRel.getD (j := j) (x := x) h.2 (by simpa using e)
  | v :: vs, .s i :: as, j + 1, x, h, e => by simpa using ArRel.getD (j := j) (x := x) h.2 (by simpa using e)
theorem ArRel.getS {K : PySem.W.Frag} {G : Hp} {σ : L2.St} : ∀ {vs : List V} {as : List Ar} {j i : Nat}, ArRel K G σ vs as → as[j]? = some (.s i) → ∃ v, vs[j]? = some v ∧ σ[i]? = some (some v)
  | [], [], _, _, _, e => by simp at e
  | v :: vs, .s i :: as, 0, x, h, e => by simp at e; subst e; exact ⟨v, rfl, h.1⟩
  | v :: vs, .d i :: as, 0, x, h, e => by simp at e
  | v :: vs, .g i :: as, 0, x, h, e => by simp at e
  | v :: vs, .g y :: as, j + 1, x, h, e => by simpa using ArRel.getS (j := j) (i := x) h.2 (by simpa using e)
  | v :: vs, .d y :: as, j + 1, x, h, e => by simpa using ArRel.getS (j := j) (i := x) h.2 (by simpa using e)
  | v :: vs, .s i :: as, j + 1, x, h, e => by simpa using ArRel.getS (j := j) (i := x) h.2 (by simpa using e)
theorem ArRel.getG {K : PySem.W.Frag} {G : Hp} {σ : L2.St} : ∀ {vs : List V} {as : List Ar} {j : Nat} {x : Str}, ArRel K G σ vs as → as[j]? = some (.g x) → vs[j]? = some (.ref (He.ga K x))
  | [], [], _, _, _, e => by simp at e
  | v :: vs, .g y :: as, 0, x, h, e => by simp at e; subst e; have := h.1; subst this; rfl
  | v :: vs, .s i :: as, 0, x, h, e => by simp at e
  | v :: vs, .d i :: as, 0, x, h, e => by simp at e
  | v :: vs, .d y :: as, j + 1, x, h, e => by simpa using ArRel.getG (j := j) (x := x) h.2 (by simpa using e)
  | v :: vs, .g y :: as, j + 1, x, h, e => by simpa using ArRel.getG (j := j) (x := x) h.2 (by simpa using e)
  | v :: vs, .s i :: as, j + 1, x, h, e => by simpa using ArRel.getG (j := j) (x := x) h.2 (by simpa using e)
section
variable (K : PySem.W.Frag) (mg : Str → Option Value) (W : WX)
def RunR (env : DEnv) (σ : L2.St) (G H : Hp) (r : Rs (List Ar)) (Q : List V → Hp → Prop) : Prop := match r with
  | .ok as env' => ∀ vs G' H', Rel K env' σ G' H' → ArRel K G' σ vs as → (∀ i, Ar.s i ∈ as → lent i env' = true) → Fr env σ G H env' σ G' H' → Q vs H'
  | .ex x env' => RunX K mg W env σ G H x env'
  | .stuck => False
def rdR (de : DAr) : TA := fun σ H Q => ∃ env G, Rel K env σ G H ∧ RunR K mg W env σ G H (de env) Q
end
abbrev CR (X : Cx) (W : WX) (es : List Expr) (da : DAr) : Prop := PA X es (rdR X.K X.mg W da)
theorem RunR.shift {K : PySem.W.Frag} {mg : Str → Option Value} {W : WX} {env env1 : DEnv} {σ : L2.St} {G H G1 H1 : Hp} {r : Rs (List Ar)} {Q : List V → Hp → Prop} (h : RunR K mg W env σ G H r Q) (f : Fr env σ G H env1 σ G1 H1) : RunR K mg W env1 σ G1 H1 r Q := by
  cases r with
  | ok d e => exact fun v G' H' a b l c => h v G' H' a b l (f.trans c)
  | ex x e => exact RunX.shift h f
  | stuck => exact h
theorem lent_some {i : Nat} {env : DEnv} (h : lent i env = true) : ∃ s, env[i]? = some s ∧ lentS s = true := by
  unfold lent at h
  cases q : env[i]? with
  | none => rw [q] at h; cases h
  | some s => rw [q] at h; exact ⟨s, rfl, h⟩
theorem lent_val {K : PySem.W.Frag} {G H : Hp} {s : Sl} {o : Option V} (h : lentS s = true) (r : RS K G H s o) : ∃ v, o = some v := by
  cases s with
  | l xs => obtain ⟨a, vs, e, _⟩ := r; exact ⟨_, e⟩
  | p xs => obtain ⟨a, vs, e, _⟩ := r; exact ⟨_, e⟩
  | n xs => obtain ⟨a, e, _⟩ := r; exact ⟨_, e⟩
  | t T => obtain ⟨v, e, _⟩ := r; exact ⟨_, e⟩
  | u T => obtain ⟨v, e, _⟩ := r; exact ⟨_, e⟩
  | _ => cases h
section
variable {X : Cx} {W : WX} {pos : Pos} {e : Expr} {es : List Expr} {de : DE} {da : DAr}
theorem R_then {K : PySem.W.Frag} {mg : Str → Option Value} {env : DEnv} {σ : L2.St} {G H : Hp} {da : DAr} {β : Type} {f : List Ar → DEnv → Rs β} {R : List V → Hp → Prop} (hR : Rel K env σ G H) {P : DEnv → L2.St → Hp → Hp → Rs β → Prop}
    (h : P env σ G H ((da env).bind f)) (hx : ∀ x e, P env σ G H (.ex x e) → RunX K mg W env σ G H x e) (hst : ¬ P env σ G H .stuck)
    (hsh : ∀ e1 G1 H1 r, P env σ G H r → Fr env σ G H e1 σ G1 H1 → P e1 σ G1 H1 r)
    (k : ∀ as e1 vs G1 H1, da env = .ok as e1 → Rel K e1 σ G1 H1 → ArRel K G1 σ vs as → (∀ i, Ar.s i ∈ as → lent i e1 = true) → Fr env σ G H e1 σ G1 H1 → P e1 σ G1 H1 (f as e1) → R vs H1) : rdR K mg W da σ H R := by
  refine ⟨env, G, hR, ?_⟩
  cases q : da env with
  | ok d e1 =>
    rw [q] at h
    exact fun v G1 H1 a b l c => k d e1 v G1 H1 q a b l c (hsh _ _ _ _ h c)
  | ex x e => rw [q] at h; exact hx x e h
  | stuck => rw [q] at h; exact (hst h).elim
theorem cr_nil : CR X W [] rNil := pa_imp pa_nil fun σ H Q h => by
  obtain ⟨env, G, R, h⟩ := h
  exact h [] G H R trivial (fun i z => nomatch z) (Fr.refl _ _ _ _)
theorem E_thenR {K : PySem.W.Frag} {mg : Str → Option Value} {env : DEnv} {σ : L2.St} {G H : Hp} {de : DE} {f : D → DEnv → Rs (List Ar)} {Q : List V → Hp → Prop} {R : VK} (hR : Rel K env σ G H) (h : RunR K mg W env σ G H ((de env).bind f) Q)
    (k : ∀ d e1 v G1 H1, de env = .ok d e1 → Rel K e1 σ G1 H1 → Dv K G1 v d → Fr env σ G H e1 σ G1 H1 → RunR K mg W e1 σ G1 H1 (f d e1) Q → R v H1) : rdE K mg W de σ H R :=
  E_then hR (P := fun e s G H r => RunR K mg W e s G H r Q) h (fun _ _ z => z) (fun z => z) (fun _ _ _ _ a b => a.shift b) k
theorem cr_cons (ha : CE X W e de) (hr : CR X W es da) (hs : starEach (e :: es) X.env = (false, eval e X.env) :: starEach es X.env := by rfl) : CR X W (e :: es) (rCons de da) := pa_imp (pa_cons ha hr hs) fun σ H Q h => by
  obtain ⟨env, G, R, h⟩ := h
  refine E_thenR R h fun d e1 v G1 H1 _ R1 dv F1 h1 => R_then R1 (P := fun e s G H r => RunR X.K X.mg W e s G H r Q) h1 (fun _ _ z => z) (fun z => z) (fun _ _ _ _ a b => a.shift b) fun as e2 vs G2 H2 _ R2 ar le F2 h2 => ?_
  exact h2 (v :: vs) G2 H2 R2 ⟨dv.up F2.gg, ar⟩ (fun i z => by
    rcases List.mem_cons.mp z with z | z
    · cases z
    · exact le i z) (Fr.refl _ _ _ _)
/-- a name whose list is lent out: what comes behind does not take it away -/
theorem cr_lend (i : Nat) {x : Str} {p : Pos} (hr : CR X W es da) (hN : X.N[i]? = some x := by rfl) (hv : Vis X.env.scope x := by first | exact Or.inl rfl | exact Or.inr (Or.inl rfl) | exact Or.inr (Or.inr rfl)) (hd : (x == ("__debug__" : Str)) = false := by decide)
    (hcd : (x == ("__classdict__" : Str)) = false := by decide) (hs : starEach (.Name x p :: es) X.env = (false, eval (.Name x p) X.env) :: starEach es X.env := by rfl) : CR X W (.Name x p :: es) (fun env => if lent i env then (da env).bind fun xs e2 => if lent i e2 then .ok (.s i :: xs) e2 else .stuck else .stuck) := pa_imp (pa_cons (pe_var hN hv hd hcd) hr hs) fun σ H Q h => by
  obtain ⟨env, G, R, h⟩ := h
  by_cases c : lent i env = true
  · have h' : RunR X.K X.mg W env σ G H ((da env).bind fun xs e2 => if lent i e2 then .ok (.s i :: xs) e2 else .stuck) Q := by
      have h2 : RunR X.K X.mg W env σ G H (if lent i env = true then (da env).bind fun xs e2 => if lent i e2 then .ok (.s i :: xs) e2 else .stuck else .stuck) Q := h
      rw [if_pos c] at h2
      exact h2
    obtain ⟨s, hx, hs⟩ := lent_some c
    have li : i < σ.length := by
      rw [← R.len]
      exact (List.getElem?_eq_some_iff.mp hx).1
    have ho : σ[i]? = some σ[i] := List.getElem?_eq_getElem li
    obtain ⟨v, hv⟩ : ∃ v, σ[i]? = some (some v) := by
      obtain ⟨v, e⟩ := lent_val hs (R.slot i _ _ hx ho)
      exact ⟨v, by rw [ho, e]⟩
    refine ⟨v, hv, R_then R (P := fun e s G H r => RunR X.K X.mg W e s G H r Q) h' (fun _ _ z => z) (fun z => z) (fun _ _ _ _ a b => a.shift b) fun as e2 vs G2 H2 _ R2 ar le F2 h2 => ?_⟩
    by_cases c2 : lent i e2 = true
    · have h3 : RunR X.K X.mg W e2 σ G2 H2 (if lent i e2 = true then .ok (.s i :: as) e2 else .stuck) Q := h2
      rw [if_pos c2] at h3
      exact h3 (v :: vs) G2 H2 R2 ⟨hv, ar⟩ (fun j z => by
        rcases List.mem_cons.mp z with z | z
        · cases z; exact c2
        · exact le j z) (Fr.refl _ _ _ _)
    · have h3 : RunR X.K X.mg W e2 σ G2 H2 (if lent i e2 = true then .ok (.s i :: as) e2 else .stuck) Q := h2
      rw [if_neg c2] at h3
      exact h3.elim
  · have h2 : RunR X.K X.mg W env σ G H (if lent i env = true then (da env).bind fun xs e2 => if lent i e2 then .ok (.s i :: xs) e2 else .stuck else .stuck) Q := h
    rw [if_neg c] at h2
    exact h2.elim
end
def toSl (env : DEnv) : Ar → Sl
  | .d x => .v x
  | .g x => .f x
  | .s i => match env[i]? with
    | some s => lendS s
    | none => .no
def lookS (j : Nat) : List Ar → DEnv → Option Sl
  | .s i :: as, o :: os => if i = j then some o else lookS j as os
  | .d _ :: as, _ :: os => lookS j as os
  | .g _ :: as, _ :: os => lookS j as os
  | _, _ => none
def conv : Sl → Sl → Sl
  | .l _, .p ys => .l ys
  | .p _, .p ys => .p ys
  | .t _, .u y => .t y
  | .u _, .u y => .u y
  | _, _ => .no
def backD (as : List Ar) (outs env : DEnv) : DEnv := env.mapIdx fun j s => match lookS j as outs with
  | some o => conv s o
  | none => s
def slotsOf : List Ar → List Nat
  | [] => []
  | .s i :: as => i :: slotsOf as
  | .d _ :: as => slotsOf as
  | .g _ :: as => slotsOf as
def callD (F : Df) (as : List Ar) (env : DEnv) : Fo := if (slotsOf as).Nodup then match F (as.map (toSl env)) with
    | .ok d outs => .ok d (backD as outs env)
    | .okl xs outs => .okl xs (backD as outs env)
    | .ex x outs => .ex x (backD as outs env)
    | .stuck => .stuck
  else .stuck
def Fo.rs : Fo → Rs D
  | .ok d env => .ok d env
  | .okl xs env => .ok (.list xs) env
  | .ex x env => .ex x env
  | .stuck => .stuck
def Fo.rl : Fo → Rs (List D)
  | .okl xs env => .ok xs env
  | .ex x env => .ex x env
  | _ => .stuck
theorem slots_mem : ∀ {as : List Ar} {i : Nat}, i ∈ slotsOf as ↔ Ar.s i ∈ as
  | [], i => by simp [slotsOf]
  | .s j :: as, i => by simp [slotsOf, slots_mem (as := as)]
  | .d x :: as, i => by simp [slotsOf, slots_mem (as := as)]
  | .g x :: as, i => by simp [slotsOf, slots_mem (as := as)]
theorem slots_inj : ∀ {as : List Ar}, (slotsOf as).Nodup → ∀ {j k i : Nat}, as[j]? = some (.s i) → as[k]? = some (.s i) → j = k
  | [], _, _, _, _, e, _ => by simp at e
  | .d x :: as, h, 0, _, _, e, _ => by simp at e
  | .d x :: as, h, _, 0, _, _, e => by simp at e
  | .d x :: as, h, j + 1, k + 1, i, e1, e2 => by
    have := slots_inj (as := as) (by simpa [slotsOf] using h) (j := j) (k := k) (i := i) (by simpa using e1) (by simpa using e2)
    omega
  | .g x :: as, h, 0, _, _, e, _ => by simp at e
  | .g x :: as, h, _, 0, _, _, e => by simp at e
  | .g x :: as, h, j + 1, k + 1, i, e1, e2 => by
    have := slots_inj (as := as) (by simpa [slotsOf] using h) (j := j) (k := k) (i := i) (by simpa using e1) (by simpa using e2)
    omega
  | .s x :: as, h, 0, 0, _, _, _ => rfl
  | .s x :: as, h, 0, k + 1, i, e1, e2 => by
    simp at e1 e2
    subst e1
    have h' : x ∉ slotsOf as ∧ (slotsOf as).Nodup := by simpa [slotsOf] using h
    exact absurd (slots_mem.mpr (List.mem_of_getElem? e2)) h'.1
  | .s x :: as, h, j + 1, 0, i, e1, e2 => by
    simp at e1 e2
    subst e2
    have h' : x ∉ slotsOf as ∧ (slotsOf as).Nodup := by simpa [slotsOf] using h
    exact absurd (slots_mem.mpr (List.mem_of_getElem? e1)) h'.1
  | .s x :: as, h, j + 1, k + 1, i, e1, e2 => by
    have h' : x ∉ slotsOf as ∧ (slotsOf as).Nodup := by simpa [slotsOf] using h
    have := slots_inj (as := as) h'.2 (j := j) (k := k) (i := i) (by simpa using e1) (by simpa using e2)
    omega
theorem lookS_some : ∀ {as : List Ar} {os : DEnv} {j : Nat} {o : Sl}, lookS j as os = some o → ∃ k : Nat, as[k]? = some (Ar.s j) ∧ os[k]? = some o
  | [], _, _, _, h => by simp [lookS] at h
  | .s i :: as, [], _, _, h => by simp [lookS] at h
  | .d i :: as, [], _, _, h => by simp [lookS] at h
  | .g i :: as, [], _, _, h => by simp [lookS] at h
  | .s i :: as, o' :: os, j, o, h => by
    unfold lookS at h
    by_cases c : i = j
    · rw [if_pos c] at h
      cases h
      subst c
      exact ⟨0, rfl, rfl⟩
    · rw [if_neg c] at h
      obtain ⟨k, a, b⟩ := lookS_some h
      exact ⟨k + 1, by simpa using a, by simpa using b⟩
  | .d i :: as, o' :: os, j, o, h => by
    unfold lookS at h
    obtain ⟨k, a, b⟩ := lookS_some h
    exact ⟨k + 1, by simpa using a, by simpa using b⟩
  | .g i :: as, o' :: os, j, o, h => by
    unfold lookS at h
    obtain ⟨k, a, b⟩ := lookS_some h
    exact ⟨k + 1, by simpa using a, by simpa using b⟩
theorem lookS_none : ∀ {as : List Ar} {os : DEnv} {j : Nat}, as.length = os.length → lookS j as os = none → Ar.s j ∉ as
  | [], _, _, _, _ => by simp
  | .s i :: as, [], _, h, _ => by simp at h
  | .d i :: as, [], _, h, _ => by simp at h
  | .g i :: as, [], _, h, _ => by simp at h
  | .s i :: as, o' :: os, j, hl, h => by
    unfold lookS at h
    by_cases c : i = j
    · rw [if_pos c] at h; cases h
    · rw [if_neg c] at h
      have := lookS_none (by simpa using hl) h
      simp [this, Ne.symm c]
  | .d i :: as, o' :: os, j, hl, h => by
    unfold lookS at h
    have := lookS_none (by simpa using hl) h
    simp [this]
  | .g i :: as, o' :: os, j, hl, h => by
    unfold lookS at h
    have := lookS_none (by simpa using hl) h
    simp [this]
section
variable {K : PySem.W.Frag} {mg : Str → Option Value} {env : DEnv} {σ : L2.St} {G H : Hp} {as : List Ar} {vs : List V}
theorem lend_own {H : Hp} {s : Sl} {o : Option V} {a : Addr} (h : OwnS H (lendS s) o a) : OwnS H s o a := by cases s <;> first | exact h | exact False.elim h
theorem toSl_own {H : Hp} {i : Nat} {a : Addr} (ar : ArRel K G σ vs as) (h : OwnAt (as.map (toSl env)) (vs.map some) H i a) : ∃ k, as[i]? = some (.s k) ∧ OwnAt env σ H k a := by
  obtain ⟨s, o, e1, e3, e2⟩ := h
  rw [List.getElem?_map] at e1 e3
  cases q : as[i]? with
  | none => rw [q] at e1; cases e1
  | some x =>
    rw [q] at e1
    cases x with
    | d y => cases e1; exact e2.elim
    | g y => cases e1; exact e2.elim
    | s k =>
      obtain ⟨v, hv, hs⟩ := ar.getS q
      rw [hv] at e3
      cases e3
      have e1' : toSl env (.s k) = s := by simpa using e1
      unfold toSl at e1'
      cases q2 : env[k]? with
      | none => simp [q2] at e1'; subst e1'; exact e2.elim
      | some t =>
        simp only [q2] at e1'
        subst e1'
        exact ⟨k, rfl, t, _, q2, hs, lend_own e2⟩
theorem lend_rs {H : Hp} {s : Sl} {o : Option V} (h : RS K G H s o) : RS K G H (lendS s) o := by cases s <;> first | exact h | trivial
theorem rel_args {H : Hp} (R : Rel K env σ G H) (ar : ArRel K G σ vs as) (nd : (slotsOf as).Nodup) : Rel K (as.map (toSl env)) (vs.map some) G H := by
  refine ⟨R.ex, by simp [ar.length], fun i s o e1 e2 => ?_, fun i j a x y => ?_⟩
  · rw [List.getElem?_map] at e1 e2
    cases q : as[i]? with
    | none => rw [q] at e1; cases e1
    | some x =>
      rw [q] at e1
      have e1' : toSl env x = s := by simpa using e1
      cases x with
      | d y =>
        obtain ⟨v, hv, dv⟩ := ar.getD q
        rw [hv] at e2
        have e2' : some v = o := by simpa using e2
        subst e1'
        exact ⟨v, e2'.symm, dv⟩
      | g y =>
        have hv := ar.getG q
        rw [hv] at e2
        have e2' : some (V.ref (He.ga K y)) = o := by simpa using e2
        subst e1'
        exact e2'.symm
      | s k =>
        obtain ⟨v, hv, hs⟩ := ar.getS q
        rw [hv] at e2
        have e2' : some v = o := by simpa using e2
        unfold toSl at e1'
        cases q2 : env[k]? with
        | none => simp [q2] at e1'; subst e1'; trivial
        | some t =>
          simp only [q2] at e1'
          subst e1'
          rw [← e2']
          exact lend_rs (R.slot k t (some v) q2 hs)
  · obtain ⟨k1, a1, a2⟩ := toSl_own ar x
    obtain ⟨k2, b1, b2⟩ := toSl_own ar y
    have e := R.dist k1 k2 a a2 b2
    subst e
    exact slots_inj nd a1 b1
theorem conv_own {H : Hp} {s s' : Sl} {o : Option V} {a : Addr} (h : OwnS H (conv s s') o a) : OwnS H s' o a := by cases s <;> cases s' <;> first | exact h | exact False.elim h
theorem conv_rs {G' H' : Hp} {s s' : Sl} {o : Option V} (h : RS K G' H' s' o) : RS K G' H' (conv s s') o := by cases s <;> cases s' <;> first | exact h | trivial
theorem conv_pk {s s' : Sl} (n : (conv s s').pk ≠ 0) : s.pk = (conv s s').pk := by cases s <;> cases s' <;> first | rfl | exact absurd rfl n
/-- behind the call -/
theorem back_ok {H : Hp} {outs : DEnv} {G' H' : Hp} (R : Rel K env σ G H) (ar : ArRel K G σ vs as) (nd : (slotsOf as).Nodup) (R' : Rel K outs (vs.map some) G' H') (F : Fr (as.map (toSl env)) (vs.map some) G H outs (vs.map some) G' H') :
    Rel K (backD as outs env) σ G' H' ∧ Fr env σ G H (backD as outs env) σ G' H' ∧ ∀ a, Own (backD as outs env) σ H' a → Own outs (vs.map some) H' a ∨ Own env σ H a := by
  have hlo : as.length = outs.length := by rw [R'.len]; simp [ar.length]
  have ownA : ∀ a, Own (as.map (toSl env)) (vs.map some) H a → Own env σ H a := fun a ⟨i, z⟩ => let ⟨k, _, b⟩ := toSl_own ar z; ⟨k, b⟩
  -- a slot of ours that is not lent stays
  have keepS : ∀ (j : Nat) (a : Addr), OwnAt env σ H j a → Ar.s j ∉ as → ¬ Own (as.map (toSl env)) (vs.map some) H a := fun j a o hn ⟨i, z⟩ => by
    obtain ⟨k, b1, b2⟩ := toSl_own ar z
    have e := R.dist j k a o b2
    subst e
    exact hn (List.mem_of_getElem? b1)
  have gnone : ∀ (j : Nat) (a : Addr), OwnAt env σ H j a → Ar.s j ∉ as → G' a = none := fun j a o hn => by
    cases z : G' a with
    | none => rfl
    | some u =>
      rcases F.fresh a (by rw [z]; exact fun w => by cases w) with w | w | w
      · exact absurd (o.there R).2 w
      · exact absurd w (o.there R).1
      · exact absurd w (keepS j a o hn)
  have hsame : ∀ (j : Nat) (a : Addr), OwnAt env σ H j a → Ar.s j ∉ as → H' a = H a := fun j a o hn => by
    cases z : H a with
    | none => exact absurd z (o.there R).1
    | some u => exact F.keep a u z (keepS j a o hn)
  have mv : ∀ (j : Nat) (a : Addr), Ar.s j ∉ as → (OwnAt env σ H' j a ↔ OwnAt env σ H j a) := fun j a hn => OwnAt.move R (i := j) F.gg (fun b w => hsame j b w hn) fun b w => gnone j b w hn
  have getB : ∀ (j : Nat) (s : Sl), (backD as outs env)[j]? = some s → ∃ s0, env[j]? = some s0 ∧ ((lookS j as outs = none ∧ s = s0) ∨ ∃ o, lookS j as outs = some o ∧ s = conv s0 o) := fun j s h => by
    unfold backD at h
    rw [List.getElem?_mapIdx] at h
    cases q : env[j]? with
    | none => rw [q] at h; cases h
    | some s0 =>
      rw [q] at h
      have h' : (match lookS j as outs with | some o => conv s0 o | none => s0) = s := by simpa using h
      refine ⟨s0, rfl, ?_⟩
      cases q2 : lookS j as outs with
      | none => rw [q2] at h'; exact .inl ⟨rfl, h'.symm⟩
      | some o => rw [q2] at h'; exact .inr ⟨o, rfl, h'.symm⟩
  have ownB : ∀ (j : Nat) (a : Addr), OwnAt (backD as outs env) σ H' j a → (OwnAt env σ H j a ∧ Ar.s j ∉ as) ∨ ∃ k, as[k]? = some (.s j) ∧ OwnAt outs (vs.map some) H' k a := fun j a ⟨s, o, e1, e3, e2⟩ => by
    obtain ⟨s0, h0, h1 | ⟨oo, h1, h2⟩⟩ := getB j s e1
    · obtain ⟨h1, h2⟩ := h1
      subst h2
      have hn := lookS_none hlo h1
      exact .inl ⟨(mv j a hn).1 ⟨_, o, h0, e3, e2⟩, hn⟩
    · obtain ⟨k, b1, b2⟩ := lookS_some h1
      obtain ⟨v, hv, hs⟩ := ar.getS b1
      rw [e3] at hs
      cases hs
      subst h2
      exact .inr ⟨k, b1, oo, _, b2, by rw [List.getElem?_map, hv]; rfl, conv_own e2⟩
  refine ⟨⟨R'.ex, by unfold backD; rw [List.length_mapIdx]; exact R.len, fun j s o e1 e2 => ?_, fun j k a x y => ?_⟩, ⟨F.gg, fun a o ha hn => F.keep a o ha fun z => hn (ownA a z), F.dom, fun a ha => ?_, fun a ⟨j, z⟩ => ?_, fun j s hj n => ?_⟩, fun a ⟨j, z⟩ => ?_⟩
  · obtain ⟨s0, h0, ⟨h1, h2⟩ | ⟨oo, h1, h2⟩⟩ := getB j s e1
    · subst h2
      have hn := lookS_none hlo h1
      exact ((R.slot j _ o h0 e2).move F.gg (fun a w => hsame j a ⟨_, o, h0, e2, w⟩ hn) fun a w => gnone j a ⟨_, o, h0, e2, w⟩ hn).1
    · obtain ⟨k, b1, b2⟩ := lookS_some h1
      obtain ⟨v, hv, hs⟩ := ar.getS b1
      have q := R'.slot k oo (some v) b2 (by rw [List.getElem?_map, hv]; rfl)
      rw [hs] at e2
      cases e2
      subst h2
      exact conv_rs q
  · rcases ownB j a x with ⟨x1, x2⟩ | ⟨i1, x1, x2⟩
    · rcases ownB k a y with ⟨y1, y2⟩ | ⟨i2, y1, y2⟩
      · exact R.dist j k a x1 y1
      · rcases F.own a ⟨i2, y2⟩ with w | w
        · exact absurd w (keepS j a x1 x2)
        · exact absurd w (x1.there R).1
    · rcases ownB k a y with ⟨y1, y2⟩ | ⟨i2, y1, y2⟩
      · rcases F.own a ⟨i1, x2⟩ with w | w
        · exact absurd w (keepS k a y1 y2)
        · exact absurd w (y1.there R).1
      · have e := R'.dist i1 i2 a x2 y2
        subst e
        rw [x1] at y1
        cases y1
        rfl
  · rcases F.fresh a ha with w | w | w
    · exact .inl w
    · exact .inr (.inl w)
    · exact .inr (.inr (ownA a w))
  · rcases ownB j a z with ⟨x1, _⟩ | ⟨i1, x1, x2⟩
    · exact .inl ⟨j, x1⟩
    · rcases F.own a ⟨i1, x2⟩ with w | w
      · exact .inl (ownA a w)
      · exact .inr w
  · obtain ⟨s0, h0, ⟨h1, h2⟩ | ⟨oo, h1, h2⟩⟩ := getB j _ hj
    · subst h2
      exact ⟨rfl, _, h0, rfl⟩
    · subst h2
      exact ⟨rfl, _, h0, conv_pk n⟩
  · rcases ownB j a z with ⟨x1, _⟩ | ⟨i1, x1, x2⟩
    · exact .inr ⟨j, x1⟩
    · exact .inl ⟨i1, x2⟩
end
section
variable {X : Cx} {W : WX} {pos p : Pos} {e : Expr} {es : List Expr} {da : DAr} {k : Nat} {f : Addr} {fd : FuncData} {ps : List Str} {F : Df} {x : Str}
theorem ar_np {K : PySem.W.Frag} {G : Hp} {σ : L2.St} {vs : List V} {as : List Ar} (ar : ArRel K G σ vs as) {np : Nat} (h : as.length = np) : vs.length = np := by rw [ar.length]; exact h
/-- f(e, ..): how many arguments come is told by the def's own rows -/
def eCallN (np : Nat) (F : Df) (da : DAr) : DE := fun env => (da env).bind fun as e1 => if as.length = np then (callD F as e1).rs else .stuck
def lCallN (np : Nat) (F : Df) (da : DAr) : DA := fun env => (da env).bind fun as e1 => if as.length = np then (callD F as e1).rl else .stuck
theorem ce_call (Fn : FnOk X.prog X.w X.K X.mg X.base (L2N.CX X.prog X.w) k f fd ps (spD X.K X.mg ps.length F)) (hr : Room k X.A) (hm : X.mg x = some (.ref f)) (hk : PySem.W.keepIn X.K (.ref f) = true) (hb : Binds X.K fd ps []) (tk : ∀ σ, PassesAt (L2N.CX X.prog X.w) X σ (WE W σ)) (ha : CR X W (e :: es) da) (hg : Gl X x := by rfl)
    (hdb : (x == ("__debug__" : Str)) = false := by decide) (he : starEach (e :: es) X.env = (false, eval e X.env) :: starEach es X.env := by rfl) (hpl : (backTo pos (starEach es X.env)).any (·.1) = false := by rfl) :
    CE X W (.Call (.Name x p) (e :: es) [] pos) (eCallN ps.length F da) := pe_imp (pe_callS Fn hr hg hm hk hb tk ha hdb he hpl) fun σ H Q h => by
  obtain ⟨env, G, R, h⟩ := h
  refine R_then R (P := fun e s G H r => RunE X.K X.mg W e s G H r Q) h (fun _ _ z => z) (fun z => z) (fun _ _ _ _ a b => a.shift b) fun as e1 vs G1 H1 _ R1 ar le F1 h1 => ?_
  by_cases cn : as.length = ps.length
  · rw [if_pos cn] at h1
    by_cases c : (slotsOf as).Nodup
    · have h2 : RunE X.K X.mg W e1 σ G1 H1 (Fo.rs (match F (as.map (toSl e1)) with
        | .ok d outs => .ok d (backD as outs e1)
        | .okl xs outs => .okl xs (backD as outs e1)
        | .ex x outs => .ex x (backD as outs e1)
        | .stuck => .stuck)) Q := by
        have h3 : RunE X.K X.mg W e1 σ G1 H1 (callD F as e1).rs Q := h1
        unfold callD at h3
        rw [if_pos c] at h3
        exact h3
      refine ⟨ar_np ar cn, as.map (toSl e1), G1, rel_args R1 ar c, ?_⟩
      cases q : F (as.map (toSl e1)) with
      | stuck => rw [q] at h2; exact h2
      | ok d outs =>
        rw [q] at h2
        exact fun v G' H' R' dv F' => let ⟨a, b, _⟩ := back_ok R1 ar c R' F'; h2 v G' H' a dv b
      | okl xs outs =>
        rw [q] at h2
        intro a vs' G' H' R' h3 h4 h5 h6 dv F'
        obtain ⟨r, b, o⟩ := back_ok R1 ar c R' F'
        have na : ¬ Own (backD as outs e1) σ H' a := fun z => by
          rcases o a z with z | z
          · exact h6 z
          · exact (z.there R1).1 h5
        have hl : RunL X.K X.mg W e1 σ G1 H1 (Rs.ok xs (backD as outs e1)) Q := RunL.of h2
        exact hl a vs' G' H' r h3 h4 h5 na dv b
      | ex x outs =>
        rw [q] at h2
        exact fun cls dd G' H' xr R' F' => let ⟨a, b, _⟩ := back_ok R1 ar c R' F'; h2 cls dd G' H' xr a b
    · have h3 : RunE X.K X.mg W e1 σ G1 H1 (callD F as e1).rs Q := h1
      unfold callD at h3
      rw [if_neg c] at h3
      exact h3.elim
  · rw [if_neg cn] at h1
    exact h1.elim
theorem cl_call (Fn : FnOk X.prog X.w X.K X.mg X.base (L2N.CX X.prog X.w) k f fd ps (spD X.K X.mg ps.length F)) (hr : Room k X.A) (hm : X.mg x = some (.ref f)) (hk : PySem.W.keepIn X.K (.ref f) = true) (hb : Binds X.K fd ps []) (tk : ∀ σ, PassesAt (L2N.CX X.prog X.w) X σ (WE W σ)) (ha : CR X W (e :: es) da) (hg : Gl X x := by rfl)
    (hdb : (x == ("__debug__" : Str)) = false := by decide) (he : starEach (e :: es) X.env = (false, eval e X.env) :: starEach es X.env := by rfl) (hpl : (backTo pos (starEach es X.env)).any (·.1) = false := by rfl) :
    CL X W (.Call (.Name x p) (e :: es) [] pos) (lCallN ps.length F da) := pe_imp (pe_callS Fn hr hg hm hk hb tk ha hdb he hpl) fun σ H Q h => by
  obtain ⟨env, G, R, h⟩ := h
  refine R_then R (P := fun e s G H r => RunL X.K X.mg W e s G H r Q) h (fun _ _ z => z) (fun z => z) (fun _ _ _ _ a b => a.shift b) fun as e1 vs G1 H1 _ R1 ar le F1 h1 => ?_
  by_cases cn : as.length = ps.length
  · rw [if_pos cn] at h1
    by_cases c : (slotsOf as).Nodup
    · have h2 : RunL X.K X.mg W e1 σ G1 H1 (Fo.rl (match F (as.map (toSl e1)) with
        | .ok d outs => .ok d (backD as outs e1)
        | .okl xs outs => .okl xs (backD as outs e1)
        | .ex x outs => .ex x (backD as outs e1)
        | .stuck => .stuck)) Q := by
        have h3 : RunL X.K X.mg W e1 σ G1 H1 (callD F as e1).rl Q := h1
        unfold callD at h3
        rw [if_pos c] at h3
        exact h3
      refine ⟨ar_np ar cn, as.map (toSl e1), G1, rel_args R1 ar c, ?_⟩
      cases q : F (as.map (toSl e1)) with
      | stuck => rw [q] at h2; exact h2
      | ok d outs => rw [q] at h2; exact h2.elim
      | okl xs outs =>
        rw [q] at h2
        intro a vs' G' H' R' h3 h4 h5 h6 dv F'
        obtain ⟨r, b, o⟩ := back_ok R1 ar c R' F'
        exact h2 a vs' G' H' r h3 h4 h5 (fun z => by
          rcases o a z with z | z
          · exact h6 z
          · exact (z.there R1).1 h5) dv b
      | ex x outs =>
        rw [q] at h2
        exact fun cls dd G' H' xr R' F' => let ⟨a, b, _⟩ := back_ok R1 ar c R' F'; h2 cls dd G' H' xr a b
    · have h3 : RunL X.K X.mg W e1 σ G1 H1 (callD F as e1).rl Q := h1
      unfold callD at h3
      rw [if_neg c] at h3
      exact h3.elim
  · rw [if_neg cn] at h1
    exact h1.elim
end
end DL
set_option Elab.async false
set_option linter.all false
set_option maxRecDepth 100000
set_option autoImplicit false
namespace DL
open PySem L2
theorem lim_size {n : Nat} (h : n ≤ 100000) : n ≤ sizeLine := Nat.le_trans h (by decide)
def dAdd : D → D → Option D
  | .int i, .int j => some (.int (i + j))
  | .str x, .str y => if x.length + y.length ≤ 100000 then some (.str (x ++ y)) else none
  | .tuple xs, .tuple ys => if xs.length + ys.length ≤ 100000 then some (.tuple (xs ++ ys)) else none
  | _, _ => none
def dSub : D → D → Option D
  | .int i, .int j => some (.int (i - j))
  | _, _ => none
/-- one factor small, or both of a size that is told -/
def mulOk (i j : Int) : Bool := (decide (-(2 ^ 64) < i) && decide (i < 2 ^ 64)) || (decide (-(2 ^ 64) < j) && decide (j < 2 ^ 64)) || (decide (i.natAbs < 2 ^ 4000) && decide (j.natAbs < 2 ^ 4000))
def dMul : D → D → Option D
  | .int i, .int j => if mulOk i j then some (.int (i * j)) else none
  | _, _ => none
def divOk (j : Int) : Bool := decide (0 < j) && decide (j.natAbs < 2 ^ 4000)
def powOk (i j : Int) : Bool := decide (0 ≤ j) && decide (j ≤ 1000000) && decide (i.natAbs < 2 ^ 64)
def dFdiv : D → D → Option D
  | .int i, .int j => if divOk j = true then some (.int (i / j)) else none
  | _, _ => none
def dMod : D → D → Option D
  | .int i, .int j => if 0 < j then some (.int (i % j)) else none
  | _, _ => none
def dPow : D → D → Option D
  | .int i, .int j => if powOk i j = true then some (.int (i ^ j.toNat)) else none
  | _, _ => none
def dLt : D → D → Option D
  | .int i, .int j => some (.bool (decide (i < j)))
  | _, _ => none
def dGt : D → D → Option D
  | .int i, .int j => some (.bool (decide (j < i)))
  | _, _ => none
def dEq (a b : D) : Option D := if SeqAt.shaped a = true ∧ SeqAt.shaped b = true then some (.bool (PyData.eqv a b)) else none
def dNe (a b : D) : Option D := if SeqAt.shaped a = true ∧ SeqAt.shaped b = true then some (.bool (!PyData.eqv a b)) else none
def isNone : D → Bool
  | .none => true
  | _ => false
def flatD : D → Bool
  | .none => true
  | .bool _ => true
  | .int _ => true
  | .str _ => true
  | _ => false
def seqOf : D → Option (List D)
  | .list xs => some xs
  | .tuple xs => some xs
  | _ => none
/-- x in a list or tuple of flat things -/
def dIn (x s : D) : Option D := match seqOf s with
  | some xs => if flatD x && xs.all flatD then some (.bool (xs.any fun z => PyData.eqv z x)) else none
  | none => none
def dNotIn (x s : D) : Option D := match seqOf s with
  | some xs => if flatD x && xs.all flatD then some (.bool (!xs.any fun z => PyData.eqv z x)) else none
  | none => none
def dIx (s i : D) : Option D := match s, i with
  | .list xs, .int k => atI xs k
  | .tuple xs, .int k => atI xs k
  | .str z, .int k => if z.length ≤ 100000 then (atI z.cps.toList k).map fun c => .str ⟨#[c]⟩ else none
  | _, _ => none
section
variable {X : Cx} {K : PySem.W.Frag}
/-- an operation that makes nothing -/
theorem opd_pure {r : R2} {f : D → D → Option D} (h : ∀ x y d e z G H Q, Dv K G x d → Dv K G y e → Ex G H → f d e = some z → (∀ v, Dv K G v z → Q v H) → r x y H Q) : OpD K r f :=
  fun x y d e z G H Q hx hy ex hf k => h x y d e z G H Q hx hy ex hf fun v dv => k v G H dv (Grow.refl ex)
theorem od_I0 {g : Int → Int → V} {f : D → D → Option D} {gd : Int → Int → D} (hg : ∀ G i j, Dv K G (g i j) (gd i j)) (hf : ∀ d e z, f d e = some z → ∃ i j, d = .int i ∧ e = .int j ∧ z = gd i j) : OpD K (rI0 g) f := opd_pure fun x y d e z G H Q hx hy ex h k => by
  obtain ⟨i, j, rfl, rfl, rfl⟩ := hf d e z h
  cases hx
  cases hy
  exact ⟨i, j, rfl, rfl, k _ (hg G i j)⟩
theorem od_I {C : Int → Int → Prop} {g : Int → Int → V} {f : D → D → Option D} {gd : Int → Int → D} (hg : ∀ G i j, Dv K G (g i j) (gd i j)) (hf : ∀ d e z, f d e = some z → ∃ i j, d = .int i ∧ e = .int j ∧ C i j ∧ z = gd i j) : OpD K (rI C g) f := opd_pure fun x y d e z G H Q hx hy ex h k => by
  obtain ⟨i, j, rfl, rfl, c, rfl⟩ := hf d e z h
  cases hx
  cases hy
  exact ⟨i, j, rfl, rfl, c, k _ (hg G i j)⟩
theorem od_sub : OpD K (rI0 fun i j => .int (i - j)) dSub := od_I0 (gd := fun i j => .int (i - j)) (fun _ _ _ => .int _) fun d e z h => by
  cases d <;> cases e <;> simp [dSub] at h <;> exact ⟨_, _, rfl, rfl, h.symm⟩
theorem od_lt : OpD K (rI0 fun i j => .bl (decide (i < j))) dLt := od_I0 (gd := fun i j => .bool (decide (i < j))) (fun _ _ _ => .bl _) fun d e z h => by
  cases d <;> cases e <;> simp [dLt] at h <;> exact ⟨_, _, rfl, rfl, h.symm⟩
theorem od_gt : OpD K (rI0 fun i j => .bl (decide (j < i))) dGt := od_I0 (gd := fun i j => .bool (decide (j < i))) (fun _ _ _ => .bl _) fun d e z h => by
  cases d <;> cases e <;> simp [dGt] at h <;> exact ⟨_, _, rfl, rfl, h.symm⟩
theorem mulOk_wide {i j : Int} (h : mulOk i j = true) : CMulW i j ∨ CMul i j := by
  unfold mulOk at h
  simp only [Bool.or_eq_true, Bool.and_eq_true, decide_eq_true_eq] at h
  rcases h with (h | h) | h
  · exact .inr (.inl h)
  · exact .inr (.inr h)
  · exact .inl (wide_mul h.1 h.2 (by decide) (by decide) (by decide))
def rMulA : R2 := fun x y H Q => rI CMulW (fun i j => .int (i * j)) x y H Q ∨ rI CMul (fun i j => .int (i * j)) x y H Q
theorem op_mulA : OpR X (binaryOp .Mult) rMulA := op_mulW.or op_mul
theorem od_mul : OpD K rMulA dMul := opd_pure fun x y d e z G H Q hx hy ex h k => by
  cases d <;> cases e <;> first | (simp [dMul] at h; done) | skip
  rename_i i j
  have h' : (if mulOk i j = true then some (PyData.int (i * j)) else none) = some z := h
  by_cases c : mulOk i j = true
  · rw [if_pos c] at h'
    cases h'
    cases hx
    cases hy
    rcases mulOk_wide c with w | w
    · exact .inl ⟨i, j, rfl, rfl, w, k _ (.int _)⟩
    · exact .inr ⟨i, j, rfl, rfl, w, k _ (.int _)⟩
  · rw [if_neg c] at h'
    cases h'
theorem od_fdiv : OpD K (rI CDivW fun i j => .int (i / j)) dFdiv := od_I (gd := fun i j => .int (i / j)) (fun _ _ _ => .int _) fun d e z h => by
  cases d <;> cases e <;> first | (simp [dFdiv] at h; done) | skip
  rename_i i j
  have h' : (if divOk j = true then some (PyData.int (i / j)) else none) = some z := h
  by_cases c : divOk j = true
  · rw [if_pos c] at h'
    cases h'
    unfold divOk at c
    simp only [Bool.and_eq_true, decide_eq_true_eq] at c
    exact ⟨i, j, rfl, rfl, wide_div c.1 c.2 (by decide) (by decide), rfl⟩
  · rw [if_neg c] at h'
    cases h'
theorem od_mod : OpD K (rI (fun _ j => 0 < j) fun i j => .int (i % j)) dMod := od_I (gd := fun i j => .int (i % j)) (fun _ _ _ => .int _) fun d e z h => by
  cases d <;> cases e <;> first | (simp [dMod] at h; done) | skip
  rename_i i j
  have h' : (if 0 < j then some (PyData.int (i % j)) else none) = some z := h
  by_cases c : 0 < j
  · rw [if_pos c] at h'
    cases h'
    exact ⟨i, j, rfl, rfl, c, rfl⟩
  · rw [if_neg c] at h'
    cases h'
theorem od_pow : OpD K (rI CPow fun i j => .int (i ^ j.toNat)) dPow := od_I (gd := fun i j => .int (i ^ j.toNat)) (fun _ _ _ => .int _) fun d e z h => by
  cases d <;> cases e <;> first | (simp [dPow] at h; done) | skip
  rename_i i j
  have h' : (if powOk i j = true then some (PyData.int (i ^ j.toNat)) else none) = some z := h
  by_cases c : powOk i j = true
  · rw [if_pos c] at h'
    cases h'
    unfold powOk at c
    simp only [Bool.and_eq_true, decide_eq_true_eq] at c
    exact ⟨i, j, rfl, rfl, ⟨c.1.1, c.1.2, c.2⟩, rfl⟩
  · rw [if_neg c] at h'
    cases h'
def rAddStr : R2 := fun x y H Q => ∃ i j, x = .str i ∧ y = .str j ∧ i.length + j.length ≤ sizeLine ∧ Q (.str (i ++ j)) H
def rAddA (K : PySem.W.Frag) : R2 := fun x y H Q => rI0 (fun i j => .int (i + j)) x y H Q ∨ rAddStr x y H Q ∨ rCatF K x y H Q
theorem op_addA : OpR X (binaryOp .Add) (rAddA X.K) := op_add.or (OpR.or op_add_str op_catF)
theorem od_add : OpD K (rAddA K) dAdd := fun x y d e z G H Q hx hy ex h k => by
  cases d <;> cases e <;> first | (simp [dAdd] at h; done) | skip
  · rename_i i j
    cases h
    cases hx
    cases hy
    exact .inl ⟨i, j, rfl, rfl, k _ G H (.int _) (Grow.refl ex)⟩
  · rename_i i j
    have h' : (if i.length + j.length ≤ 100000 then some (PyData.str (i ++ j)) else none) = some z := h
    by_cases c : i.length + j.length ≤ 100000
    · rw [if_pos c] at h'
      cases h'
      cases hx
      cases hy
      exact .inr (.inl ⟨i, j, rfl, rfl, lim_size c, k _ G H (.str _) (Grow.refl ex)⟩)
    · rw [if_neg c] at h'
      cases h'
  · rename_i xs ys
    have h' : (if xs.length + ys.length ≤ 100000 then some (PyData.tuple (xs ++ ys)) else none) = some z := h
    by_cases c : xs.length + ys.length ≤ 100000
    · rw [if_pos c] at h'
      cases h'
      cases hx with
      | @tup a vs _ h1 h2 =>
        cases hy with
        | @tup b ws _ h3 h4 =>
          refine .inr (.inr ⟨a, b, vs, ws, rfl, rfl, (ex.n h1).t, (ex.n h3).t, by rw [h2.length, h4.length]; exact lim_size c, fun e => ?_, fun _ e => ?_, fun _ _ p o hp hd => ?_⟩)
          · subst e
            cases h2
            exact k _ G H (.tup h3 h4) (Grow.refl ex)
          · subst e
            cases h4
            rw [List.append_nil] at k
            exact k _ G H (.tup h1 h2) (Grow.refl ex)
          · have g : Grow G H (upd G p (.frz o (.tup (vs ++ ws)))) (upd H p (.frz o (.tup (vs ++ ws)))) := Grow.one ex hp
            exact k _ _ _ (.tup (.inl ⟨o, upd_same, hd⟩) ((h2.append h4).up g.gg)) g
    · rw [if_neg c] at h'
      cases h'
theorem od_eq : OpD K (rEqD K) dEq := opd_pure fun x y d e z G H Q hx hy ex h k => by
  unfold dEq at h
  by_cases c : SeqAt.shaped d = true ∧ SeqAt.shaped e = true
  · rw [if_pos c] at h
    cases h
    exact ⟨d, e, Dv.dp ex d x (SeqAt.canLay_of_shaped c.1) hx, Dv.dp ex e y (SeqAt.canLay_of_shaped c.2) hy, c.1, c.2, k _ (.bl _)⟩
  · rw [if_neg c] at h
    cases h
theorem od_ne : OpD K (rNeD K) dNe := opd_pure fun x y d e z G H Q hx hy ex h k => by
  unfold dNe at h
  by_cases c : SeqAt.shaped d = true ∧ SeqAt.shaped e = true
  · rw [if_pos c] at h
    cases h
    exact ⟨d, e, Dv.dp ex d x (SeqAt.canLay_of_shaped c.1) hx, Dv.dp ex e y (SeqAt.canLay_of_shaped c.2) hy, c.1, c.2, k _ (.bl _)⟩
  · rw [if_neg c] at h
    cases h
theorem dv_flat {G : Hp} {x : V} {d : D} (h : Dv K G x d) : flatV x = flatD d := by
  cases h <;> rfl
theorem dv_flats {G : Hp} : ∀ {xs : List V} {ds : List D}, DvAll K G xs ds → xs.all flatV = ds.all flatD
  | _, _, .nil => rfl
  | _, _, .cons a b => by rw [List.all_cons, List.all_cons, dv_flat a, dv_flats b]
theorem eqv_flat {G : Hp} {x y : V} {d e : D} (hx : Dv K G x d) (hy : Dv K G y e) (fx : flatD d = true) (fy : flatD e = true) : eqV x y = PyData.eqv d e := by
  cases hx <;> first | cases fx | skip
  all_goals (cases hy <;> first | cases fy | skip)
  all_goals first | rfl | simp [eqV, PyData.eqv]
theorem any_flat {G : Hp} {x : V} {d : D} (hx : Dv K G x d) (fx : flatD d = true) : ∀ {xs : List V} {ds : List D}, DvAll K G xs ds → ds.all flatD = true → inV x xs = ds.any fun z => PyData.eqv z d
  | _, _, .nil, _ => rfl
  | _, _, .cons a b, f => by
    rw [List.all_cons, Bool.and_eq_true] at f
    have ih := any_flat hx fx b f.2
    unfold inV at ih ⊢
    rw [List.any_cons, List.any_cons, ih, eqv_flat a hx f.1 fx]
theorem seqOf_dv {G H : Hp} (ex : Ex G H) {y : V} {s : D} {ds : List D} (h : Dv K G y s) (e : seqOf s = some ds) : ∃ p xs, y = .ref p ∧ (SqL K H p xs ∨ SqT K H p xs) ∧ DvAll K G xs ds := by
  cases h with
  | lst a b => cases e; exact ⟨_, _, rfl, .inl (ex.rl a).sq, b⟩
  | tup a b => cases e; exact ⟨_, _, rfl, .inr (ex.n a).t, b⟩
  | non => cases e
  | bl _ => cases e
  | int _ => cases e
  | str _ => cases e
  | dct _ _ => cases e
theorem od_in : OpD K (rIn K false) dIn := opd_pure fun x y d e z G H Q hx hy ex h k => by
  unfold dIn at h
  cases q : seqOf e with
  | none => rw [q] at h; cases h
  | some ds =>
    rw [q] at h
    obtain ⟨p, xs, rfl, sq, dv⟩ := seqOf_dv ex hy q
    have h' : (if (flatD d && ds.all flatD) = true then some (PyData.bool (ds.any fun z => PyData.eqv z d)) else none) = some z := h
    by_cases c : (flatD d && ds.all flatD) = true
    · rw [if_pos c] at h'
      cases h'
      rw [Bool.and_eq_true] at c
      refine ⟨p, xs, rfl, sq, by rw [dv_flat hx]; exact c.1, by rw [dv_flats dv]; exact c.2, ?_⟩
      show Q (.bl (inV x xs)) H
      rw [any_flat hx c.1 dv c.2]
      exact k _ (.bl _)
    · rw [if_neg c] at h'
      cases h'
theorem od_notIn : OpD K (rIn K true) dNotIn := opd_pure fun x y d e z G H Q hx hy ex h k => by
  unfold dNotIn at h
  cases q : seqOf e with
  | none => rw [q] at h; cases h
  | some ds =>
    rw [q] at h
    obtain ⟨p, xs, rfl, sq, dv⟩ := seqOf_dv ex hy q
    have h' : (if (flatD d && ds.all flatD) = true then some (PyData.bool (!ds.any fun z => PyData.eqv z d)) else none) = some z := h
    by_cases c : (flatD d && ds.all flatD) = true
    · rw [if_pos c] at h'
      cases h'
      rw [Bool.and_eq_true] at c
      refine ⟨p, xs, rfl, sq, by rw [dv_flat hx]; exact c.1, by rw [dv_flats dv]; exact c.2, ?_⟩
      show Q (.bl (!inV x xs)) H
      rw [any_flat hx c.1 dv c.2]
      exact k _ (.bl _)
    · rw [if_neg c] at h'
      cases h'
theorem atI_dv {G : Hp} {xs : List V} {ds : List D} {i : Int} {z : D} (dv : DvAll K G xs ds) (h : atI ds i = some z) : ∃ v, atI xs i = some v ∧ Dv K G v z := by
  unfold atI at h ⊢
  rw [dv.length]
  cases q : ixN ds.length i with
  | none => rw [q] at h; cases h
  | some j =>
    rw [q] at h
    exact dv.get h
theorem od_ix : OpD K (rIx K) dIx := opd_pure fun x y d e z G H Q hx hy ex h k => by
  cases d <;> cases e <;> first | (simp [dIx] at h; done) | skip
  · rename_i s i
    have h' : (if s.length ≤ 100000 then (atI s.cps.toList i).map (fun c => PyData.str ⟨#[c]⟩) else none) = some z := h
    by_cases c : s.length ≤ 100000
    · rw [if_pos c] at h'
      cases q : atI s.cps.toList i with
      | none => rw [q] at h'; cases h'
      | some ch =>
        rw [q] at h'
        cases h'
        cases hx
        cases hy
        exact .inr (.inr ⟨s, i, ch, rfl, rfl, lim_size c, q, k _ (.str _)⟩)
    · rw [if_neg c] at h'
      cases h'
  · rename_i ds i
    cases hx with
    | @lst a xs _ h1 h2 =>
      cases hy
      obtain ⟨v, hv, dv⟩ := atI_dv h2 h
      exact .inl ⟨a, xs, i, v, rfl, rfl, (ex.rl h1).sq, hv, k v dv⟩
  · rename_i ds i
    cases hx with
    | @tup a xs _ h1 h2 =>
      cases hy
      obtain ⟨v, hv, dv⟩ := atI_dv h2 h
      exact .inr (.inl ⟨a, xs, i, v, rfl, rfl, (ex.n h1).t, hv, k v dv⟩)
def fLen : List D → Option D
  | [.list xs] => some (.int xs.length)
  | [.tuple xs] => some (.int xs.length)
  | [.str x] => if x.length ≤ 100000 then some (.int x.length) else none
  | _ => none
def rLenA (K : PySem.W.Frag) : List V → Hp → VK → Prop := fun xs H Q => (∃ p ys, xs = [.ref p] ∧ (SqL K H p ys ∨ SqT K H p ys) ∧ Q (.int ys.length) H) ∨ (∃ z, xs = [.str z] ∧ z.length ≤ sizeLine ∧ Q (.int z.length) H)
theorem cr_lenA : CallR X (.builtin "len") (rLenA X.K) := call_len_seq.or call_len_str
theorem cd_len : CbD K (rLenA K) fLen := fun xs ds z G H Q hx ex hf k => by
  match ds, hx, hf with
  | [.list ys], .cons (.lst a b) .nil, hf => cases hf; exact .inl ⟨_, _, rfl, .inl (ex.rl a).sq, by rw [b.length]; exact k _ G H (.int _) (Grow.refl ex)⟩
  | [.tuple ys], .cons (.tup a b) .nil, hf => cases hf; exact .inl ⟨_, _, rfl, .inr (ex.n a).t, by rw [b.length]; exact k _ G H (.int _) (Grow.refl ex)⟩
  | [.str s], .cons (.str _) .nil, hf =>
    have h' : (if s.length ≤ 100000 then some (PyData.int s.length) else none) = some z := hf
    by_cases c : s.length ≤ 100000
    · rw [if_pos c] at h'
      cases h'
      exact .inr ⟨s, rfl, lim_size c, k _ G H (.int _) (Grow.refl ex)⟩
    · rw [if_neg c] at h'; cases h'
def fMin : List D → Option D
  | [.int i, .int j] => some (.int (if j < i then j else i))
  | _ => none
theorem cd_min : CbD K (fun xs H Q => ∃ i j, xs = [.int i, .int j] ∧ Q (.int (if j < i then j else i)) H) fMin := fun xs ds z G H Q hx ex hf k => by
  match ds, hx, hf with
  | [.int i, .int j], .cons (.int _) (.cons (.int _) .nil), hf => cases hf; exact ⟨i, j, rfl, k _ G H (.int _) (Grow.refl ex)⟩
/-- int(x) of an int or a truth -/
def fInt : List D → Option D
  | [.int i] => some (.int i)
  | [.bool b] => some (.int (if b then 1 else 0))
  | _ => none
theorem cd_int : CbD K (fun xs H Q => (∃ i, xs = [.int i] ∧ Q (.int i) H) ∨ ∃ k, xs = [.bl k] ∧ Q (.int (if k then 1 else 0)) H) fInt := fun xs ds z G H Q hx ex hf k => by
  match ds, hx, hf with
  | [.int i], .cons (.int _) .nil, hf => cases hf; exact .inl ⟨i, rfl, k _ G H (.int _) (Grow.refl ex)⟩
  | [.bool i], .cons (.bl _) .nil, hf => cases hf; exact .inr ⟨i, rfl, k _ G H (.int _) (Grow.refl ex)⟩
def bools : List D → Option (List Bool)
  | [] => some []
  | .bool b :: ds => (bools ds).map (b :: ·)
  | _ :: _ => none
theorem bools_dv {G : Hp} : ∀ {xs : List V} {ds : List D} {bs : List Bool}, DvAll K G xs ds → bools ds = some bs → xs = bs.map V.bl
  | _, [], _, .nil, h => by cases h; rfl
  | _, .bool b :: ds, bs, .cons (.bl _) t, h => by
    have h' : (bools ds).map (b :: ·) = some bs := h
    cases q : bools ds with
    | none => rw [q] at h'; cases h'
    | some cs =>
      rw [q] at h'
      cases h'
      rw [bools_dv t q]; rfl
  | _, .none :: ds, _, _, h => by cases h
  | _, .int _ :: ds, _, _, h => by cases h
  | _, .str _ :: ds, _, _, h => by cases h
  | _, .list _ :: ds, _, _, h => by cases h
  | _, .tuple _ :: ds, _, _, h => by cases h
  | _, .dict _ :: ds, _, _, h => by cases h
def fAll : List D → Option D
  | [.list ds] => (bools ds).map fun bs => .bool (bs.all id)
  | _ => none
theorem cd_all : CbD K (rAll K) fAll := fun xs ds z G H Q hx ex hf k => by
  match ds, hx, hf with
  | [.list ys], .cons (.lst a b) .nil, hf =>
    have h' : (bools ys).map (fun bs => PyData.bool (bs.all id)) = some z := hf
    cases q : bools ys with
    | none => rw [q] at h'; cases h'
    | some bs =>
      rw [q] at h'
      cases h'
      have e := bools_dv b q
      subst e
      exact ⟨_, bs, rfl, (ex.rl a).sq, k _ G H (.bl _) (Grow.refl ex)⟩
def fTup : List D → Option D
  | [.list xs] => some (.tuple xs)
  | [.tuple xs] => some (.tuple xs)
  | _ => none
theorem cd_tup : CbD K (fun xs H Q => ∃ p ys, xs = [.ref p] ∧ ((SqL K H p ys ∧ ∀ (l : Addr) (o : Obj), H l = none → o.dict = none → Q (.ref l) (upd H l (.frz o (.tup ys)))) ∨ (SqT K H p ys ∧ Q (.ref p) H))) fTup := fun xs ds z G H Q hx ex hf k => by
  match ds, hx, hf with
  | [.list ys], .cons (.lst a b) .nil, hf =>
    cases hf
    refine ⟨_, _, rfl, .inl ⟨(ex.rl a).sq, fun l o hl hd => ?_⟩⟩
    rename_i vs
    have g : Grow G H (upd G l (.frz o (.tup vs))) (upd H l (.frz o (.tup vs))) := Grow.one ex hl
    exact k _ _ _ (.tup (.inl ⟨o, upd_same, hd⟩) (b.up g.gg)) g
  | [.tuple ys], .cons (.tup a b) .nil, hf => cases hf; exact ⟨_, _, rfl, .inr ⟨(ex.n a).t, k _ G H (.tup a b) (Grow.refl ex)⟩⟩
end
end DL
set_option Elab.async false
set_option linter.all false
set_option maxRecDepth 100000
set_option autoImplicit false
namespace DL
open PySem L2
def getL (i : Nat) (env : DEnv) : Option (List D) := match env[i]? with
  | some (.l xs) => some xs
  | some (.p xs) => some xs
  | _ => none
def putL (i : Nat) (xs : List D) (env : DEnv) : DEnv := match env[i]? with
  | some (.l _) => env.set i (.l xs)
  | some (.p _) => env.set i (.p xs)
  | _ => env
section
variable {K : PySem.W.Frag} {mg : Str → Option Value} {W : WX} {env : DEnv} {σ : L2.St} {G H : Hp} {i : Nat} {xs : List D}
theorem getL_some (h : getL i env = some xs) : env[i]? = some (.l xs) ∨ env[i]? = some (.p xs) := by
  unfold getL at h
  cases q : env[i]? with
  | none => rw [q] at h; cases h
  | some s =>
    rw [q] at h
    cases s with
    | l ys => cases h; exact .inl rfl
    | p ys => cases h; exact .inr rfl
    | no => cases h
    | v d => cases h
    | n _ => cases h
    | m d => cases h
    | f d => cases h
    | a d _ _ => cases h
    | t d => cases h
    | u d => cases h
theorem own_get (R : Rel K env σ G H) (h : getL i env = some xs) : ∃ a vs, σ[i]? = some (some (.ref a)) ∧ H a = some (.lst vs) ∧ G a = none ∧ DvAll K G vs xs ∧ OwnAt env σ H i a := by
  rcases getL_some h with q | q
  · have li : i < σ.length := by rw [← R.len]; exact (List.getElem?_eq_some_iff.mp q).1
    have ho : σ[i]? = some σ[i] := List.getElem?_eq_getElem li
    obtain ⟨a, vs, e, h1, h2, h3⟩ := R.slot i _ _ q ho
    rw [e] at ho
    exact ⟨a, vs, ho, h1, h2, h3, .of q rfl ho⟩
  · have li : i < σ.length := by rw [← R.len]; exact (List.getElem?_eq_some_iff.mp q).1
    have ho : σ[i]? = some σ[i] := List.getElem?_eq_getElem li
    obtain ⟨a, vs, e, h1, h2, h3⟩ := R.slot i _ _ q ho
    rw [e] at ho
    exact ⟨a, vs, ho, h1, h2, h3, .of q rfl ho⟩
/-- one thing of a slot's own is changed -/
theorem Rel.own1 {s0 s1 : Sl} {a : Addr} {o1 : HO} (R : Rel K env σ G H) (hi : env[i]? = some s0) (hs0 : s0.lst = true) (ho : σ[i]? = some (some (.ref a))) (n : RS K G (upd H a o1) s1 (some (.ref a))) (hw : ∀ b, OwnS (upd H a o1) s1 (some (.ref a)) b → b = a) (pk : s1.pk = s0.pk) :
    Rel K (env.set i s1) σ G (upd H a o1) ∧ Fr env σ G H (env.set i s1) σ G (upd H a o1) := by
  have li : i < env.length := (List.getElem?_eq_some_iff.mp hi).1
  have o : OwnAt env σ H i a := .of hi hs0 ho
  obtain ⟨hne, h2⟩ := o.there R
  have k : ∀ j b, j ≠ i → OwnAt env σ H j b → upd H a o1 b = H b ∧ G b = none := fun j b ne w => ⟨upd_ne fun z => (by subst z; exact ne (R.dist j i b w o)), (w.there R).2⟩
  refine ⟨(R.put li rfl ho (fun _ _ => rfl) (fun b u hb => ?_) (Ex.refl _) k n fun b w j ne w2 => ?_).1, Fr.put (s1 := s1) (o1 := some (.ref a)) R li ho (fun _ _ => rfl) (Ex.refl _) k (fun b u hb hn => ?_) (fun b hb => ?_) (fun b hb => .inl hb) (fun b w => ?_) fun z => ⟨rfl, s0, hi, pk.symm⟩⟩
  · rw [upd_ne (fun z => by subst z; rw [h2] at hb; cases hb)]
    exact R.ex b u hb
  · rw [hw b w] at w2
    exact ne (R.dist j i a w2 o)
  · rw [upd_ne (fun z => by subst z; exact hn ⟨i, o⟩)]
    exact hb
  · by_cases c : b = a
    · subst c; rw [upd_same] at hb; cases hb
    · rw [upd_ne c] at hb; exact hb
  · rw [hw b w]
    exact .inl ⟨i, o⟩
/-- the list of slot i is changed -/
theorem own_put (R : Rel K env σ G H) (h : getL i env = some xs) {a : Addr} {vs vs' : List V} {ys : List D} (ho : σ[i]? = some (some (.ref a))) (h1 : H a = some (.lst vs)) (h2 : G a = none) (o : OwnAt env σ H i a) (dv : DvAll K G vs' ys) :
    Rel K (putL i ys env) σ G (upd H a (.lst vs')) ∧ Fr env σ G H (putL i ys env) σ G (upd H a (.lst vs')) := by
  unfold putL
  rcases getL_some h with q | q
  · rw [q]
    exact R.own1 (s1 := .l ys) q rfl ho ⟨a, vs', rfl, upd_same, h2, dv⟩ (fun b w => by cases w; rfl) rfl
  · rw [q]
    exact R.own1 (s1 := .p ys) q rfl ho ⟨a, vs', rfl, upd_same, h2, dv⟩ (fun b w => by cases w; rfl) rfl
end
def known (i : Nat) (env : DEnv) : Bool := match env[i]? with
  | some .no => false
  | some _ => true
  | none => false
def ixAt (i : Nat) (k : D) (e1 : DEnv) : Rs D := match e1[i]? with
  | some (.v d) => put (dIx d k) e1
  | some (.l xs) => put (dIx (.list xs) k) e1
  | some (.p xs) => put (dIx (.list xs) k) e1
  | _ => .stuck
def eIxN (i : Nat) (db : DE) : DE := fun env => if known i env then (db env).bind fun k e1 => ixAt i k e1 else .stuck
section
variable {X : Cx} {W : WX} {pos : Pos} {b e : Expr} {db de : DE}
/-- a name's value as it stands: data, or a list of the def's own (to be read at once) -/
theorem peekV {K : PySem.W.Frag} {env : DEnv} {σ : L2.St} {G H : Hp} {i : Nat} {s : Sl} (R : Rel K env σ G H) (h : env[i]? = some s) : ∃ o, σ[i]? = some o ∧ RS K G H s o := by
  have li : i < σ.length := by rw [← R.len]; exact (List.getElem?_eq_some_iff.mp h).1
  exact ⟨_, List.getElem?_eq_getElem li, R.slot i s _ h (List.getElem?_eq_getElem li)⟩
theorem known_v {K : PySem.W.Frag} {env : DEnv} {σ : L2.St} {G H : Hp} {i : Nat} (R : Rel K env σ G H) (h : known i env = true) : ∃ v, σ[i]? = some (some v) := by
  unfold known at h
  cases q : env[i]? with
  | none => rw [q] at h; cases h
  | some s =>
    rw [q] at h
    obtain ⟨o, ho, rs⟩ := peekV R q
    cases s with
    | no => cases h
    | v d => obtain ⟨v, e, _⟩ := rs; exact ⟨v, by rw [ho, e]⟩
    | l d => obtain ⟨v, _, e, _⟩ := rs; exact ⟨_, by rw [ho, e]⟩
    | p d => obtain ⟨v, _, e, _⟩ := rs; exact ⟨_, by rw [ho, e]⟩
    | n _ => obtain ⟨v, e, _⟩ := rs; exact ⟨_, by rw [ho, e]⟩
    | m d => obtain ⟨v, _, e, _⟩ := rs; exact ⟨_, by rw [ho, e]⟩
    | f d => exact ⟨_, by rw [ho, rs]⟩
    | a d _ _ => exact ⟨_, by rw [ho, rs.1]⟩
    | t d => obtain ⟨v, e, _⟩ := rs; exact ⟨_, by rw [ho, e]⟩
    | u d => obtain ⟨v, e, _⟩ := rs; exact ⟨_, by rw [ho, e]⟩
theorem ixAt_ok {K : PySem.W.Frag} {mg : Str → Option Value} {e1 : DEnv} {σ : L2.St} {G1 H1 : Hp} {i : Nat} {k : D} {v y : V} {Q : VK} (R1 : Rel K e1 σ G1 H1) (hv : σ[i]? = some (some v)) (dv : Dv K G1 y k) (h1 : RunE K mg W e1 σ G1 H1 (ixAt i k e1) Q) : rIx K v y H1 Q := by
  unfold ixAt at h1
  cases q : e1[i]? with
  | none => rw [q] at h1; exact h1.elim
  | some s =>
    rw [q] at h1
    obtain ⟨o, ho, rs⟩ := peekV R1 q
    rw [hv] at ho
    cases ho
    have own : ∀ xs : List D, (∃ a vs, some v = some (V.ref a) ∧ H1 a = some (.lst vs) ∧ G1 a = none ∧ DvAll K G1 vs xs) → RunE K mg W e1 σ G1 H1 (put (dIx (.list xs) k) e1) Q → rIx K v y H1 Q := fun xs rs h1 => by
      obtain ⟨a, vs, e, g1, g2, g3⟩ := rs
      cases e
      obtain ⟨z, ez, kk⟩ := RunE.put R1 h1
      cases k with
      | int n =>
        cases dv
        obtain ⟨u, hu, du⟩ := atI_dv g3 ez
        exact .inl ⟨a, vs, n, u, rfl, rfl, .inl (.inl g1), hu, kk u G1 H1 du (Grow.refl R1.ex)⟩
      | none => cases ez
      | bool _ => cases ez
      | str _ => cases ez
      | list _ => cases ez
      | tuple _ => cases ez
      | dict _ => cases ez
    cases s with
    | no => exact h1.elim
    | n _ => exact h1.elim
    | m xs => exact h1.elim
    | f xs => exact h1.elim
    | a xs _ _ => exact h1.elim
    | t xs => exact h1.elim
    | u xs => exact h1.elim
    | v d =>
      obtain ⟨w, e, dw⟩ := rs
      cases e
      obtain ⟨z, ez, kk⟩ := RunE.put R1 h1
      exact od_ix v y d k z G1 H1 Q dw dv R1.ex ez kk
    | l xs => exact own xs rs h1
    | p xs => exact own xs rs h1
theorem if_run {α : Type} {c : Bool} {r : Rs α} {P : Rs α → Prop} (h : P (if c = true then r else .stuck)) (hst : ¬ P .stuck) : c = true ∧ P r := by
  cases c with
  | true => exact ⟨rfl, h⟩
  | false => exact (hst h).elim
theorem ce_ixN (i : Nat) {x : Str} {p : Pos} (hb : CE X W b db) (hs : PlainIx b) (hN : X.N[i]? = some x := by rfl) (hv : Vis X.env.scope x := by first | exact Or.inl rfl | exact Or.inr (Or.inl rfl) | exact Or.inr (Or.inr rfl)) (hd : (x == ("__debug__" : Str)) = false := by decide)
    (hcd : (x == ("__classdict__" : Str)) = false := by decide) : CE X W (.Subscript (.Name x p) b pos) (eIxN i db) := pe_imp (pe_ix ix_seq (pe_var hN hv hd hcd) hb hs) fun σ H Q h => by
  obtain ⟨env, G, R, h⟩ := h
  obtain ⟨c, h⟩ := if_run (P := fun r => RunE X.K X.mg W env σ G H r Q) h fun z => z
  obtain ⟨v, hv⟩ := known_v R c
  exact ⟨v, hv, E_thenE R h fun k e1 y G1 H1 _ R1 dv F1 h1 => ixAt_ok R1 hv dv h1⟩
def sSetO (i : Nat) (dk dv : DE) : DS := fun env => (dv env).fl fun v e1 => if known i e1 then (dk e1).fl fun k e2 => match getL i e2, k with
  | some xs, .int n => match ixN xs.length n with
    | some j => .nx (putL i (xs.set j v) e2)
    | none => .stuck
  | _, _ => .stuck else .stuck
theorem cs_setO (i : Nat) {x : Str} {p p2 : Pos} (hk : CE X W b db) (he : CE X W e de) (hN : X.N[i]? = some x := by rfl) (hv : Vis X.env.scope x := by first | exact Or.inl rfl | exact Or.inr (Or.inl rfl) | exact Or.inr (Or.inr rfl)) (hd : (x == ("__debug__" : Str)) = false := by decide)
    (hcd : (x == ("__classdict__" : Str)) = false := by decide) (hs : swapsWithSole [.Subscript (.Name x p) b p2] e pos.line X.env = pure false := by rfl) (hw : swappedStores [.Subscript (.Name x p) b p2] e X.env = pure none := by rfl)
    (h1 : (assignEach [.Subscript (.Name x p) b p2] X.env).map (·.2) = [assign (.Subscript (.Name x p) b p2) X.env] := by rfl)
    (ha : ∀ v, assign (.Subscript (.Name x p) b p2) X.env v = (do
      let ov ← holding [v] (eval (.Name x p) X.env)
      let iv ← holding [v, ov] (eval b X.env)
      standAt p2
      holding [v, ov, iv] (setItem ov iv v)
      release [v, ov, iv] []) := by intro _; rfl) : CS X W (.Assign [.Subscript (.Name x p) b p2] e pos) (sSetO i db de) :=
  ps_imp (ps_asg he (pg_sub (pe_var hN hv hd hcd) hk set_list ha) hs hw h1) fun E σ H h => by
    obtain ⟨env, G, R, h⟩ := h
    refine E_thenS R h fun d e1 v G1 H1 _ R1 dv F1 h1 => ?_
    by_cases c : known i e1 = true
    · rw [if_pos c] at h1
      obtain ⟨o, ho⟩ := known_v R1 c
      refine ⟨o, ho, E_thenS R1 h1 fun k e2 y G2 H2 _ R2 dk F2 h2 => ?_⟩
      cases q : getL i e2 with
      | none => rw [q] at h2; exact h2.elim
      | some xs =>
        rw [q] at h2
        cases k with
        | int n =>
          cases dk
          obtain ⟨a, vs, x1, x2, x3, x4, x5⟩ := own_get R2 q
          rw [ho] at x1
          cases x1
          have h3 : RunS X.K X.mg W e2 σ G2 H2 (match ixN xs.length n with
            | some j => .nx (putL i (xs.set j d) e2)
            | none => .stuck) E := h2
          cases q2 : ixN xs.length n with
          | none => rw [q2] at h3; exact h3.elim
          | some j =>
            rw [q2] at h3
            obtain ⟨r1, r2⟩ := own_put R2 q ho x2 x3 x5 (x4.set (dv.up F2.gg) j)
            exact ⟨a, vs, n, j, rfl, rfl, x2, by rw [x4.length]; exact q2, h3 σ G2 _ r1 r2⟩
        | none => exact h2.elim
        | bool _ => exact h2.elim
        | str _ => exact h2.elim
        | list _ => exact h2.elim
        | tuple _ => exact h2.elim
        | dict _ => exact h2.elim
    · rw [if_neg c] at h1
      exact h1.elim
def OwnM (K : PySem.W.Frag) (r : V → List V → Hp → VK → Prop) (f : List D → List D → Option (D × List D)) : Prop := ∀ (l : Addr) (vs ws : List V) (xs args : List D) (z : D) (ys : List D) (G H : Hp) (Q : VK),
  H l = some (.lst vs) → DvAll K G vs xs → DvAll K G ws args → Ex G H → G l = none → f xs args = some (z, ys) → (∀ v vs', Dv K G v z → DvAll K G vs' ys → Q v (upd H l (.lst vs'))) → r (.ref l) ws H Q
def eMO (i : Nat) (f : List D → List D → Option (D × List D)) (da : DA) : DE := fun env => if (getL i env).isSome then (da env).bind fun args e1 => match getL i e1 with
  | some xs => match f xs args with
    | some (z, ys) => .ok z (putL i ys e1)
    | none => .stuck
  | none => .stuck else .stuck
theorem mo_ok {K : PySem.W.Frag} {mg : Str → Option Value} {r : V → List V → Hp → VK → Prop} {f : List D → List D → Option (D × List D)} (o : OwnM K r f) {i : Nat} {e1 : DEnv} {σ : L2.St} {G1 H1 : Hp} {args : List D} {ws : List V} {l : Addr} {Q : VK} (R1 : Rel K e1 σ G1 H1)
    (hl : σ[i]? = some (some (.ref l))) (dw : DvAll K G1 ws args) (h1 : RunE K mg W e1 σ G1 H1 (match getL i e1 with
      | some xs => match f xs args with
        | some (z, ys) => .ok z (putL i ys e1)
        | none => .stuck
      | none => .stuck) Q) : r (.ref l) ws H1 Q := by
  cases q : getL i e1 with
  | none => rw [q] at h1; exact h1.elim
  | some xs =>
    rw [q] at h1
    obtain ⟨a, vs, x1, x2, x3, x4, x5⟩ := own_get R1 q
    rw [hl] at x1
    cases x1
    have h2 : RunE K mg W e1 σ G1 H1 (match f xs args with
      | some (z, ys) => .ok z (putL i ys e1)
      | none => .stuck) Q := h1
    cases q2 : f xs args with
    | none => rw [q2] at h2; exact h2.elim
    | some p =>
      obtain ⟨z, ys⟩ := p
      rw [q2] at h2
      refine o l vs ws xs args z ys G1 H1 Q x2 x4 dw R1.ex x3 q2 fun v vs' dz dvs => ?_
      obtain ⟨r1, r2⟩ := own_put R1 q hl x2 x3 x5 dvs
      exact h2 v G1 _ r1 dz r2
theorem ce_mo (i : Nat) {x name : Str} {p apos : Pos} {id : String} {r : V → List V → Hp → VK → Prop} {f : List D → List D → Option (D × List D)} {es : List Expr} {da : DA} (o : OwnM X.K r f) (slot : Slot "list" name id) (hty : typeOf (.builtin id) = pure (.type "method_descriptor")) (hm : MtR X id r) (ha : CA X W (e :: es) da)
    (hN : X.N[i]? = some x := by rfl) (hv : Vis X.env.scope x := by first | exact Or.inl rfl | exact Or.inr (Or.inl rfl) | exact Or.inr (Or.inr rfl)) (hd : (x == ("__debug__" : Str)) = false := by decide) (hcd : (x == ("__classdict__" : Str)) = false := by decide)
    (hbase : attributeBase (.Name x p) name X.env (eval (.Name x p) X.env) = eval (.Name x p) X.env := by rfl)
    (hfew : ((backTo pos (starEach (e :: es) X.env)).all (fun x => !x.1) && (backToKw pos (keywordEach [] X.env)).all (fun x => x.1.isSome)
      && decide ((e :: es).length + ([] : List Keyword).length + (if ([] : List Keyword).isEmpty then 0 else 1) < 30)) = true := by rfl)
    (hline : (apos.endLine == pos.line) = true := by rfl) (hs : starEach (e :: es) X.env = (false, eval e X.env) :: starEach es X.env := by rfl) (hplain : (backTo pos (starEach es X.env)).any (·.1) = false := by rfl) :
    CE X W (.Call (.Attribute (.Name x p) name apos) (e :: es) [] pos) (eMO i f da) := pe_imp (pe_bm PySem.F.plainAttrs_list slot hty hm (pe_var hN hv hd hcd) ha hbase hfew hline hs hplain) fun σ H Q h => by
  obtain ⟨env, G, R, h⟩ := h
  obtain ⟨c, h⟩ := if_run (P := fun r => RunE X.K X.mg W env σ G H r Q) h fun z => z
  cases q : getL i env with
  | none => rw [q] at c; cases c
  | some xs =>
    obtain ⟨a, vs, x1, x2, x3, x4, x5⟩ := own_get R q
    exact ⟨_, x1, .inl ⟨rfl, _, .inl (.inl x2)⟩, A_thenE R h fun args e1 ws G1 H1 _ R1 dw F1 h1 => mo_ok o R1 x1 dw h1⟩
def mAppend : List D → List D → Option (D × List D)
  | xs, [d] => if xs.length < 100000 then some (.none, xs ++ [d]) else none
  | _, _ => none
theorem lt_size {n : Nat} (h : n < 100000) : n < sizeLine := Nat.lt_of_lt_of_le h (by decide)
theorem om_append {K : PySem.W.Frag} : OwnM K rAppend mAppend := fun l vs ws xs args z ys G H Q h1 h2 h3 ex hg hf k => by
  match args, h3, hf with
  | [d], .cons (v := v) a .nil, hf =>
    have hf' : (if xs.length < 100000 then some (PyData.none, xs ++ [d]) else none) = some (z, ys) := hf
    by_cases c : xs.length < 100000
    · rw [if_pos c] at hf'
      cases hf'
      exact ⟨l, vs, v, rfl, rfl, h1, by rw [h2.length]; exact lt_size c, k _ _ .non (h2.append (.one a))⟩
    · rw [if_neg c] at hf'; cases hf'
def seeL (i : Nat) (env : DEnv) : Option (List D) := match env[i]? with
  | some (.l xs) => some xs
  | some (.p xs) => some xs
  | some (.v (.list xs)) => some xs
  | _ => none
theorem see_list {K : PySem.W.Frag} {env : DEnv} {σ : L2.St} {G H : Hp} {i : Nat} {xs : List D} (R : Rel K env σ G H) (h : seeL i env = some xs) : ∃ a vs, σ[i]? = some (some (.ref a)) ∧ SqL K H a vs ∧ DvAll K G vs xs := by
  unfold seeL at h
  cases q : env[i]? with
  | none => rw [q] at h; cases h
  | some s =>
    rw [q] at h
    obtain ⟨o, ho, rs⟩ := peekV R q
    cases s with
    | l ys =>
      cases h
      obtain ⟨a, vs, e, h1, h2, h3⟩ := rs
      exact ⟨a, vs, by rw [ho, e], .inl (.inl h1), h3⟩
    | p ys =>
      cases h
      obtain ⟨a, vs, e, h1, h2, h3⟩ := rs
      exact ⟨a, vs, by rw [ho, e], .inl (.inl h1), h3⟩
    | no => cases h
    | n _ => cases h
    | m d => cases h
    | f d => cases h
    | a d _ _ => cases h
    | t d => cases h
    | u d => cases h
    | v d =>
      cases d with
      | list ys =>
        cases h
        obtain ⟨v, e, dv⟩ := rs
        cases dv with
        | @lst a ws _ h2 h3 => exact ⟨a, ws, by rw [ho, e], (R.ex.rl h2).sq, h3⟩
      | none => cases h
      | bool _ => cases h
      | int _ => cases h
      | str _ => cases h
      | dict _ => cases h
      | tuple _ => cases h
/-- tuple(x) -/
def eTupO (i : Nat) : DE := fun env => match seeL i env with
  | some xs => .ok (.tuple xs) env
  | none => .stuck
theorem ce_tupO (i : Nat) {x : Str} {p p2 : Pos} (hm : X.mg "tuple" = none) (hN : X.N[i]? = some x := by rfl) (hv : Vis X.env.scope x := by first | exact Or.inl rfl | exact Or.inr (Or.inl rfl) | exact Or.inr (Or.inr rfl)) (hd : (x == ("__debug__" : Str)) = false := by decide) (hcd : (x == ("__classdict__" : Str)) = false := by decide)
    (hg : Gl X "tuple" := by rfl) (hs : starEach [.Name x p] X.env = (false, eval (.Name x p) X.env) :: starEach [] X.env := by rfl) (hpl : (backTo pos (starEach [] X.env)).any (·.1) = false := by rfl) : CE X W (.Call (.Name "tuple" p2) [.Name x p] [] pos) (eTupO i) :=
  pe_imp (pe_callTy call_tuple_ofF hg hm (by decide +kernel) (pa_cons (pe_var hN hv hd hcd) pa_nil hs) (by decide) (by decide) hs hpl) fun σ H Q h => by
    obtain ⟨env, G, R, h⟩ := h
    unfold eTupO at h
    cases q : seeL i env with
    | none => rw [q] at h; exact h.elim
    | some xs =>
      rw [q] at h
      obtain ⟨a, vs, x1, x2, x4⟩ := see_list R q
      refine ⟨_, x1, a, vs, rfl, .inl ⟨x2, fun l o hl hd => ?_⟩⟩
      have g : Grow G H (upd G l (.frz o (.tup vs))) (upd H l (.frz o (.tup vs))) := Grow.one R.ex hl
      exact h _ _ _ (R.grow g) (.tup (.inl ⟨o, upd_same, hd⟩) (x4.up g.gg)) (g.fr R)
end
end DL
set_option Elab.async false
set_option linter.all false
set_option maxRecDepth 100000
set_option autoImplicit false
namespace DL
open PySem L2
def cutD (xs : List D) (lo hi : Option Int) : List D := (xs.drop (HT.sIx xs.length 0 lo)).take (HT.sIx xs.length xs.length hi - HT.sIx xs.length 0 lo)
def dSl (d : D) (lo hi : Option Int) : Option D := match d with
  | .list xs => some (.list (cutD xs lo hi))
  | .tuple xs => some (.tuple (cutD xs lo hi))
  | .str z => if z.length ≤ 100000 then some (.str (cutS z lo hi)) else none
  | _ => none
/-- an end of a slice -/
inductive Pt where
  | no
  | of (de : DE)
def Pt.run (p : Pt) (env : DEnv) : Rs (Option Int) := match p with
  | .no => .ok none env
  | .of de => (de env).bind fun d e1 => match d with
    | .int i => .ok (some i) e1
    | _ => .stuck
def eSl (de : DE) (lo hi : Pt) : DE := fun env => (de env).bind fun d e1 => (lo.run e1).bind fun l e2 => (hi.run e2).bind fun u e3 => put (dSl d l u) e3
section
variable {K : PySem.W.Frag} {mg : Str → Option Value} {W : WX}
def RunO (env : DEnv) (σ : L2.St) (G H : Hp) (r : Rs (Option Int)) (Q : Option Int → Hp → Prop) (K : PySem.W.Frag) (mg : Str → Option Value) (W : WX) : Prop := match r with
  | .ok o env' => ∀ G' H', Rel K env' σ G' H' → Fr env σ G H env' σ G' H' → Q o H'
  | .ex x env' => RunX K mg W env σ G H x env'
  | .stuck => False
def rdO (K : PySem.W.Frag) (mg : Str → Option Value) (W : WX) (p : Pt) : TO := fun σ H Q => ∃ env G, Rel K env σ G H ∧ RunO env σ G H (p.run env) Q K mg W
theorem O_thenE {env : DEnv} {σ : L2.St} {G H : Hp} {p : Pt} {f : Option Int → DEnv → Rs D} {Q : VK} {R : Option Int → Hp → Prop} (hR : Rel K env σ G H) (h : RunE K mg W env σ G H ((p.run env).bind f) Q)
    (k : ∀ o e1 G1 H1, p.run env = .ok o e1 → Rel K e1 σ G1 H1 → Fr env σ G H e1 σ G1 H1 → RunE K mg W e1 σ G1 H1 (f o e1) Q → R o H1) : rdO K mg W p σ H R := by
  refine ⟨env, G, hR, ?_⟩
  cases q : p.run env with
  | ok d e1 =>
    rw [q] at h
    exact fun G1 H1 a c => k d e1 G1 H1 q a c (RunE.shift h c)
  | ex x e => rw [q] at h; exact h
  | stuck => rw [q] at h; exact h
def rSlAny (K : PySem.W.Frag) : V → Option Int → Option Int → Hp → VK → Prop := fun x lo hi H Q => rSlF K x lo hi H Q ∨ rSlL K x lo hi H Q ∨ rSlS x lo hi H Q
theorem sl_any {X : Cx} : SlR X (rSlAny X.K) := sl_tupF.or (sl_list.or sl_str)
theorem cut_dv {G : Hp} {xs : List V} {ds : List D} (dv : DvAll K G xs ds) (lo hi : Option Int) : DvAll K G (cutV xs lo hi) (cutD ds lo hi) := by
  unfold cutV cutD
  rw [dv.length]
  exact (dv.drop _).take _
theorem cut_whole (ds : List D) (lo hi : Option Int) (h : HT.sIx ds.length 0 lo = 0 ∧ HT.sIx ds.length ds.length hi = ds.length) : cutD ds lo hi = ds := by
  unfold cutD
  rw [h.1, h.2]
  simp
theorem sl_d {x : V} {d z : D} {lo hi : Option Int} {G H : Hp} {Q : VK} (hx : Dv K G x d) (ex : Ex G H) (hf : dSl d lo hi = some z) (k : ∀ v G' H', Dv K G' v z → Grow G H G' H' → Q v H') : rSlAny K x lo hi H Q := by
  cases hx with
  | @tup a xs ds h1 h2 =>
    cases hf
    refine .inl ⟨a, xs, rfl, (ex.n h1).t, fun w => ?_, fun w p o hp hd => ?_⟩
    · rw [h2.length] at w
      rw [cut_whole ds lo hi w] at k
      exact k _ G H (.tup h1 h2) (Grow.refl ex)
    · have g : Grow G H (upd G p (.frz o (.tup (cutV xs lo hi)))) (upd H p (.frz o (.tup (cutV xs lo hi)))) := Grow.one ex hp
      exact k _ _ _ (.tup (.inl ⟨o, upd_same, hd⟩) ((cut_dv h2 lo hi).up g.gg)) g
  | @lst a xs ds h1 h2 =>
    cases hf
    refine .inr (.inl ⟨a, xs, rfl, (ex.rl h1).sq, fun p hp => ?_⟩)
    have g : Grow G H (upd G p (.lst (cutV xs lo hi))) (upd H p (.lst (cutV xs lo hi))) := Grow.one ex hp
    exact k _ _ _ (.lst (.of upd_same) ((cut_dv h2 lo hi).up g.gg)) g
  | str s =>
    have hf' : (if s.length ≤ 100000 then some (PyData.str (cutS s lo hi)) else none) = some z := hf
    by_cases c : s.length ≤ 100000
    · rw [if_pos c] at hf'
      cases hf'
      exact .inr (.inr ⟨s, rfl, lim_size c, k _ G H (.str _) (Grow.refl ex)⟩)
    · rw [if_neg c] at hf'; cases hf'
  | non => cases hf
  | bl _ => cases hf
  | int _ => cases hf
  | dct _ _ => cases hf
end
section
variable {X : Cx} {W : WX} {pos : Pos} {e : Expr} {de : DE}
abbrev CO (X : Cx) (W : WX) (e : Option Expr) (p : Pt) : Prop := PO X e (rdO X.K X.mg W p)
theorem po_imp {e : Option Expr} {t t' : TO} (h : PO X e t) (k : ∀ σ H Q, t' σ H Q → t σ H Q) : PO X e t' := ⟨fun pins s σ H Q I w => h.run pins s σ H Q I (k σ H Q w)⟩
theorem co_none : CO X W none .no := po_imp po_none fun σ H Q h => by
  obtain ⟨env, G, R, h⟩ := h
  exact h G H R (Fr.refl _ _ _ _)
theorem co_some (h : CE X W e de) : CO X W (some e) (.of de) := po_imp (po_some h) fun σ H Q h => by
  obtain ⟨env, G, R, h⟩ := h
  refine ⟨env, G, R, ?_⟩
  have h' : RunO env σ G H ((de env).bind fun d e1 => match d with
    | .int i => .ok (some i) e1
    | _ => .stuck) Q X.K X.mg W := h
  cases q : de env with
  | stuck => rw [q] at h'; exact h'
  | ex x e => rw [q] at h'; exact h'
  | ok d e1 =>
    rw [q] at h'
    intro v G1 H1 R1 dv F1
    cases dv with
    | int i => exact ⟨i, rfl, h' G1 H1 R1 F1⟩
    | non => exact h'.elim
    | bl _ => exact h'.elim
    | str _ => exact h'.elim
    | lst _ _ => exact h'.elim
    | tup _ _ => exact h'.elim
    | dct _ _ => exact h'.elim
theorem ce_sl {lo hi : Option Expr} {pl ph : Pt} {p2 : Pos} (he : CE X W e de) (hl : CO X W lo pl) (hh : CO X W hi ph) : CE X W (.Subscript e (.Slice lo hi none p2) pos) (eSl de pl ph) := pe_imp (pe_slice sl_any he hl hh) fun σ H Q h => by
  obtain ⟨env, G, R, h⟩ := h
  refine E_thenE R h fun d e1 v G1 H1 _ R1 dv F1 h1 => O_thenE R1 h1 fun l e2 G2 H2 _ R2 F2 h2 => O_thenE R2 h2 fun u e3 G3 H3 _ R3 F3 h3 => ?_
  obtain ⟨z, ez, k⟩ := RunE.put R3 h3
  exact sl_d ((dv.up F2.gg).up F3.gg) R3.ex ez k
def tyD : D → String
  | .none => "NoneType"
  | .bool _ => "bool"
  | .int _ => "int"
  | .str _ => "str"
  | .list _ => "list"
  | .tuple _ => "tuple"
  | .dict _ => "dict"
def isiD (T : String) (d : D) : Option D := (kitB (tyD d) T).map .bool
def eIsi (T : String) (de : DE) : DE := fun env => (de env).bind fun d e1 => put (isiD T d) e1
theorem ty_dv {K : PySem.W.Frag} {G H : Hp} {x : V} {d : D} (hx : Dv K G x d) (ex : Ex G H) : TyX K H x (.type (tyD d)) := by
  cases hx with
  | non => exact .base .non
  | bl b => exact .base (.bl b)
  | int b => exact .base (.int b)
  | str b => exact .base (.str b)
  | lst a b =>
    rcases ex.rl a with (h | ⟨o, h⟩) | ⟨its, n, h, _⟩
    · exact .base (.lst h)
    · exact .base (.frz h)
    · exact .kList h rfl
  | tup a b =>
    rcases (ex.n a).t with (h | ⟨o, h⟩) | ⟨o, its, n, h1, h2, _⟩
    · exact .base (.tup h)
    · exact .fTuple h
    · exact .kTuple h1 h2
  | dct a b =>
    rcases ex.rd a with h | ⟨o, h⟩
    · exact .base (.dK h)
    · exact .fDict h
theorem ce_isi (T : String) {x : Str} {p p2 : Pos} (hT : bootBuiltins x = some (.type T)) (hmT : X.mg x = none) (hm : X.mg "isinstance" = none) (he : CE X W e de) (hb : bootBuiltins "isinstance" = some (.builtin "isinstance") := by decide +kernel) (hg : Gl X "isinstance" := by rfl) (hgT : Gl X x := by rfl) (hn : x ≠ "__name__" := by decide) (hd : (x == ("__debug__" : Str)) = false := by decide)
    (hs : starEach (e :: [.Name x p]) X.env = (false, eval e X.env) :: starEach [.Name x p] X.env := by rfl) (hs2 : starEach [.Name x p] X.env = (false, eval (.Name x p) X.env) :: starEach [] X.env := by rfl) (hpl : (backTo pos (starEach [.Name x p] X.env)).any (·.1) = false := by rfl) :
    CE X W (.Call (.Name "isinstance" p2) [e, .Name x p] [] pos) (eIsi T de) := pe_imp (pe_callB call_isi hg hm hb (pa_cons he (pa_cons (pe_bltn (v := .ty T) hgT hmT hT rfl hn hd) pa_nil hs2) hs) (by decide) (by decide) hs hpl) fun σ H Q h => by
  obtain ⟨env, G, R, h⟩ := h
  refine E_thenE R h fun d e1 v G1 H1 _ R1 dv F1 h1 => ?_
  obtain ⟨z, ez, k⟩ := RunE.put R1 h1
  unfold isiD at ez
  cases q : kitB (tyD d) T with
  | none => rw [q] at ez; cases ez
  | some b =>
    rw [q] at ez
    cases ez
    exact ⟨v, .ty T, .type (tyD d), .type T, b, rfl, .ty T, ty_dv dv R1.ex, kit_ty q, k _ G1 H1 (.bl b) (Grow.refl R1.ex)⟩
variable {a b c : Expr} {da db dc : DE}
theorem ce_globI {x : Str} {i : Int} {t : Tok} (hm : X.mg x = some (.int i t)) (hg : Gl X x := by rfl) (hd : (x == ("__debug__" : Str)) = false := by decide) : CE X W (.Name x pos) (eC (.int i)) := pe_imp (pe_glob (v := .int i) hg hm ⟨t, rfl⟩ hd) (c_ok fun _ => .int i)
end
section
variable {X : Cx} {K : PySem.W.Frag}
def rCatR (K : PySem.W.Frag) : R2 := fun x y H Q => ∃ l b xs zs, x = .ref l ∧ y = .ref b ∧ RL K H l xs ∧ RL K H b zs ∧ xs.length + zs.length ≤ sizeLine ∧ ∀ p, H p = none → Q (.ref p) (upd H p (.lst (xs ++ zs)))
theorem rd_lst {pins : List (Addr × Obj)} {σ : L2.St} {H : Hp} {s : Shared} {l : Addr} {xs : List V} (I : Inv X pins σ H s) (h : RL X.K H l xs) : xs.length ≤ sizeLine ∧ ∃ (its : List Value) (n : Nat), Vals xs its ∧ xs.length = its.length ∧ s.heap.get? l = some { cls := .type "list", data := .seq its.toArray n } := by
  rcases h with h | ⟨its, n, h1, h2, h3⟩
  · obtain ⟨z, its, n, r, e⟩ := h.ok I.hok
    exact ⟨z, its, n, r, r.length, e⟩
  · have e := h3.length
    exact ⟨by rw [e]; simpa using h2, its.toList, n, h3, e, by simpa using I.kIn _ _ h1⟩
theorem op_catR : OpR X (binaryOp .Add) (rCatR X.K) := by
  intro pins s σ H x y v u Q I rx ry h
  obtain ⟨l, b, xs, zs, rfl, rfl, hH, hB, hz, q⟩ := h
  cases rx
  cases ry
  obtain ⟨z, its, n, r, hl, e⟩ := rd_lst I hH
  obtain ⟨z2, its2, n2, r2, hl2, e2⟩ := rd_lst I hB
  refine PySem.P.add_list e e2 ?_ (by rw [List.size_toArray, List.size_toArray]; omega)
  have ea : its.toArray ++ its2.toArray = (its ++ its2).toArray := by simp
  rw [ea]
  exact ⟨.ref _, _, I.lnew (t' := s.toks) (r.append r2) (by rw [List.length_append]; omega), rfl, q _ I.fresh⟩
def dCat : D → D → Option (List D)
  | .list xs, .list ys => if xs.length + ys.length ≤ 100000 then some (xs ++ ys) else none
  | _, _ => none
theorem ol_cat : OlD K (rCatR K) dCat := fun x y d e zs G H Q hx hy ex h k => by
  cases d <;> cases e <;> first | (simp [dCat] at h; done) | skip
  rename_i xs ys
  have h' : (if xs.length + ys.length ≤ 100000 then some (xs ++ ys) else none) = some zs := h
  by_cases c : xs.length + ys.length ≤ 100000
  · rw [if_pos c] at h'
    cases h'
    cases hx with
    | @lst a vs _ h1 h2 =>
      cases hy with
      | @lst b ws _ h3 h4 => exact ⟨a, b, vs, ws, rfl, rfl, ex.rl h1, ex.rl h3, by rw [h2.length, h4.length]; exact lim_size c, fun p hp => k p _ hp (h2.append h4)⟩
  · rw [if_neg c] at h'; cases h'
/-- [x] * n: the list is one that was just made -/
def repD (xs : List D) (k : Int) : List D := (List.replicate k.toNat xs).flatten
theorem rep_dv {G : Hp} {vs : List V} {xs : List D} (h : DvAll K G vs xs) : ∀ n : Nat, DvAll K G (List.replicate n vs).flatten (List.replicate n xs).flatten
  | 0 => .nil
  | n + 1 => by
    rw [List.replicate_succ, List.flatten_cons, List.replicate_succ, List.flatten_cons]
    exact h.append (rep_dv h n)
noncomputable def lRep (dl : DA) (dk : DE) : DA := fun env => (dl env).bind fun xs e1 => (dk e1).bind fun k e2 => match k with
  | .int n => if I63 n ∧ xs.length * n.toNat ≤ 100000 then .ok (repD xs n) e2 else .stuck
  | _ => .stuck
end
section
variable {X : Cx} {W : WX} {pos : Pos} {a b e : Expr} {da db de : DE} {dl : DA}
theorem cl_rep (ha : CL X W a dl) (hb : CE X W b db) : CL X W (.BinOp a .Mult b pos) (lRep dl db) := pe_imp (pe_op op_rep ha hb) fun σ H Q h => by
  obtain ⟨env, G, R, h⟩ := h
  refine ⟨env, G, R, ?_⟩
  have h' : RunL X.K X.mg W env σ G H ((dl env).bind fun xs e1 => (db e1).bind fun k e2 => match k with
    | .int n => if I63 n ∧ xs.length * n.toNat ≤ 100000 then .ok (repD xs n) e2 else .stuck
    | _ => .stuck) Q := h
  cases q : dl env with
  | stuck => rw [q] at h'; exact h'
  | ex x e => rw [q] at h'; exact h'
  | ok xs e1 =>
    rw [q] at h'
    intro l vs G1 H1 R1 h1 h2 h3 h4 dv F1
    have h5 : RunL X.K X.mg W e1 σ G1 H1 ((db e1).bind fun k e2 => match k with
      | .int n => if I63 n ∧ xs.length * n.toNat ≤ 100000 then .ok (repD xs n) e2 else .stuck
      | _ => .stuck) Q := RunL.shift h' F1
    refine E_thenL R1 h5 fun k e2 y G2 H2 _ R2 dk F2 h6 => ?_
    cases dk with
    | int n =>
      have h7 : RunL X.K X.mg W e2 σ G2 H2 (if I63 n ∧ xs.length * n.toNat ≤ 100000 then .ok (repD xs n) e2 else .stuck) Q := h6
      by_cases c : I63 n ∧ xs.length * n.toNat ≤ 100000
      · rw [if_pos c] at h7
        have hl : H2 l = some (.lst vs) := F2.keep l _ h1 h4
        exact ⟨l, n, vs, rfl, rfl, hl, c.1.1, c.1.2, by rw [dv.length]; exact lim_size c.2, fun p hp => RunL.new R2 h7 hp (rep_dv (dv.up F2.gg) n.toNat)⟩
      · rw [if_neg c] at h7
        exact h7.elim
    | non => exact h6.elim
    | bl _ => exact h6.elim
    | str _ => exact h6.elim
    | lst _ _ => exact h6.elim
    | tup _ _ => exact h6.elim
    | dct _ _ => exact h6.elim
end
end DL
set_option Elab.async false
set_option linter.all false
set_option maxRecDepth 100000
set_option autoImplicit false
namespace DL
open PySem L2
def kEq (d : D) (k : Key) : Bool := match d, k with
  | .int i, .inl j => i == j
  | .str x, .inr y => x == y
  | _, _ => false
def keyOf : D → Option Key
  | .int i => some (.inl i)
  | .str x => some (.inr x)
  | _ => none
def valD (kvs : List (D × D)) (k : Key) : Option D := (kvs.find? fun kv => kEq kv.1 k).map (·.2)
def putD (kvs : List (D × D)) (k : Key) (v : D) : List (D × D) := if (kvs.any fun kv => kEq kv.1 k) = true then kvs.map (fun kv => if kEq kv.1 k = true then (kv.1, v) else kv) else kvs ++ [(kD k, v)]
theorem kEq_kD (a k : Key) : kEq (kD a) k = decide (a = k) := by
  cases a <;> cases k <;> simp [kEq, kD, Bool.beq_eq_decide_eq]
theorem keyOf_some {d : D} {k : Key} (h : keyOf d = some k) : d = kD k := by
  cases d <;> simp [keyOf] at h <;> subst h <;> rfl
theorem dv_key {K : PySem.W.Frag} {G : Hp} {v : V} {k : Key} (h : Dv K G v (kD k)) : v = kV k := by
  cases k <;> cases h <;> rfl
section
variable {K : PySem.W.Frag} {G : Hp}
theorem kv_val {k : Key} : ∀ {vs : List (Key × V)} {ds : List (D × D)}, DvKv K G vs ds → (valV vs k = none ∧ valD ds k = none) ∨ ∃ v d, valV vs k = some v ∧ valD ds k = some d ∧ Dv K G v d
  | _, _, .nil => .inl ⟨rfl, rfl⟩
  | _, _, .cons (k := a) (v := v) (d := d) (xs := xs) (ys := ys) x t => by
    by_cases c : a = k
    · refine .inr ⟨v, d, valV_pos c, ?_, x⟩
      unfold valD
      rw [List.find?_cons, kEq_kD, decide_eq_true c]
      rfl
    · have e : valD ((kD a, d) :: ys) k = valD ys k := by
        unfold valD
        rw [List.find?_cons, kEq_kD, decide_eq_false c]
      rw [valV_neg c, e]
      exact kv_val t
theorem kv_any {k : Key} : ∀ {vs : List (Key × V)} {ds : List (D × D)}, DvKv K G vs ds → (vs.any fun kv => decide (kv.1 = k)) = ds.any fun kv => kEq kv.1 k
  | _, _, .nil => rfl
  | _, _, .cons x t => by rw [List.any_cons, List.any_cons, kv_any t, kEq_kD]
theorem kv_map {k : Key} {v : V} {d : D} (h : Dv K G v d) : ∀ {vs : List (Key × V)} {ds : List (D × D)}, DvKv K G vs ds → DvKv K G (vs.map fun kv => if kv.1 = k then (kv.1, v) else kv) (ds.map fun kv => if kEq kv.1 k = true then (kv.1, d) else kv)
  | _, _, .nil => .nil
  | _, _, .cons (k := a) x t => by
    rw [List.map_cons, List.map_cons]
    by_cases c : a = k
    · rw [if_pos c, if_pos (by rw [kEq_kD]; exact decide_eq_true c)]
      exact .cons h (kv_map h t)
    · rw [if_neg c, if_neg (by rw [kEq_kD]; simpa using c)]
      exact .cons x (kv_map h t)
theorem kv_app : ∀ {vs ws : List (Key × V)} {ds es : List (D × D)}, DvKv K G vs ds → DvKv K G ws es → DvKv K G (vs ++ ws) (ds ++ es)
  | _, _, _, _, .nil, s => s
  | _, _, _, _, .cons x t, s => .cons x (kv_app t s)
theorem kv_put {k : Key} {v : V} {d : D} {vs : List (Key × V)} {ds : List (D × D)} (h : DvKv K G vs ds) (hv : Dv K G v d) : DvKv K G (putK vs k v) (putD ds k d) := by
  unfold putK putD
  rw [kv_any h]
  by_cases c : (ds.any fun kv => kEq kv.1 k) = true
  · rw [if_pos c, if_pos c]
    exact kv_map hv h
  · rw [if_neg c, if_neg c]
    exact kv_app h (.cons hv .nil)
end
def pairsD : List (DE × DE) → DEnv → Rs (List (D × D))
  | [], env => .ok [] env
  | (dk, dv) :: r, env => (dk env).bind fun k e1 => (dv e1).bind fun v e2 => (pairsD r e2).bind fun ps e3 => .ok ((k, v) :: ps) e3
def keysOf : List (D × D) → Option (List (Key × D))
  | [] => some []
  | (k, v) :: r => match keyOf k, keysOf r with
    | some a, some ps => some ((a, v) :: ps)
    | _, _ => none
def mergeP (ds : List (D × D)) (ps : List (Key × D)) : List (D × D) := ps.foldl (fun acc kv => putD acc kv.1 kv.2) ds
def lDisp (prs : List (DE × DE)) : DEnv → Rs (List (D × D)) := fun env => (pairsD prs env).bind fun ps e1 => match keysOf ps with
  | some ks => if ks.length ≤ 15 then .ok (mergeP [] ks) e1 else .stuck
  | none => .stuck
/-- a dict that nobody else holds -/
def RunM (K : PySem.W.Frag) (mg : Str → Option Value) (W : WX) (env : DEnv) (σ : L2.St) (G H : Hp) (r : Rs (List (D × D))) (Q : VK) : Prop := match r with
  | .ok ds env' => ∀ a vs G' H', Rel K env' σ G' H' → H' a = some (.dK vs) → G' a = none → H a = none → ¬ Own env' σ H' a → DvKv K G' vs ds → Fr env σ G H env' σ G' H' → Q (.ref a) H'
  | .ex x env' => RunX K mg W env σ G H x env'
  | .stuck => False
abbrev DM := DEnv → Rs (List (D × D))
def rdM (K : PySem.W.Frag) (mg : Str → Option Value) (W : WX) (de : DM) : TE := fun σ H Q => ∃ env G, Rel K env σ G H ∧ RunM K mg W env σ G H (de env) Q
abbrev CM (X : Cx) (W : WX) (e : Expr) (de : DM) : Prop := PE X e (rdM X.K X.mg W de)
def eDct (dm : DM) : DE := fun env => (dm env).bind fun ds e1 => .ok (.dict ds) e1
section
variable {K : PySem.W.Frag} {mg : Str → Option Value} {W : WX} {env : DEnv} {σ : L2.St} {G H : Hp}
theorem RunM.of {r : Rs (List (D × D))} {Q : VK} (h' : RunE K mg W env σ G H (r.bind fun xs e1 => .ok (.dict xs) e1) Q) : RunM K mg W env σ G H r Q := by
  cases r with
  | stuck => exact h'
  | ex x e => exact h'
  | ok ds e1 =>
    intro a vs G' H' R' h1 h2 h3 h4 dv F
    refine h' (.ref a) (upd G' a (.dK vs)) H' (R'.still h1 h2 h4) (.dct (.inl upd_same) (dv.up (Ex.new h2)))
      ⟨F.gg.trans (Ex.new h2), F.keep, F.dom, fun b hb => ?_, F.own, F.par⟩
    by_cases z : b = a
    · subst z; exact .inr (.inl h3)
    · rw [upd_ne z] at hb; exact F.fresh b hb
theorem M_to_E {dm : DM} (σ : L2.St) (H : Hp) (Q : VK) (h : rdE K mg W (eDct dm) σ H Q) : rdM K mg W dm σ H Q := by
  obtain ⟨env, G, R, h⟩ := h
  exact ⟨env, G, R, RunM.of h⟩
/-- pairs by data -/
inductive PrD (K : PySem.W.Frag) (G : Hp) : List (V × V) → List (D × D) → Prop
  | nil : PrD K G [] []
  | cons {k v : V} {dk dv : D} {xs : List (V × V)} {ys : List (D × D)} : Dv K G k dk → Dv K G v dv → PrD K G xs ys → PrD K G ((k, v) :: xs) ((dk, dv) :: ys)
theorem PrD.up {G G' : Hp} (e : Ex G G') : ∀ {xs : List (V × V)} {ys : List (D × D)}, PrD K G xs ys → PrD K G' xs ys
  | _, _, .nil => .nil
  | _, _, .cons a b c => .cons (a.up e) (b.up e) (PrD.up e c)
theorem pairs_ok {prs : List (DE × DE)} : ∀ {env : DEnv} {G H : Hp} (R : Rel K env σ G H) {Q : List (V × V) → Hp → Prop} (_ : match pairsD prs env with
    | .ok ps e1 => ∀ vs G' H', Rel K e1 σ G' H' → PrD K G' vs ps → Fr env σ G H e1 σ G' H' → Q vs H'
    | .ex x e1 => RunX K mg W env σ G H x e1
    | .stuck => False), tPairs (prs.map fun p => (rdE K mg W p.1, rdE K mg W p.2)) σ H Q := by
  induction prs with
  | nil => exact fun R Q h => h [] _ _ R .nil (Fr.refl _ _ _ _)
  | cons p prs ih =>
    intro env G H R Q h
    obtain ⟨dk, dv⟩ := p
    have pd : pairsD ((dk, dv) :: prs) env = (dk env).bind fun k e1 => (dv e1).bind fun v e2 => (pairsD prs e2).bind fun ps e3 => .ok ((k, v) :: ps) e3 := rfl
    rw [pd] at h
    refine ⟨env, G, R, ?_⟩
    show RunE K mg W env σ G H (dk env) _
    cases qk : dk env with
    | stuck => rw [qk] at h; exact h
    | ex x e => rw [qk] at h; exact h
    | ok k e1 =>
      rw [qk] at h
      intro vk G1 H1 R1 dvk F1
      refine ⟨e1, G1, R1, ?_⟩
      show RunE K mg W e1 σ G1 H1 (dv e1) _
      rw [bind_ok] at h
      cases qv : dv e1 with
      | stuck => rw [qv] at h; exact h
      | ex x e => rw [qv] at h; exact RunX.shift h F1
      | ok v e2 =>
        rw [qv] at h
        intro vv G2 H2 R2 dvv F2
        rw [bind_ok] at h
        refine ih R2 ?_
        cases qp : pairsD prs e2 with
        | stuck => rw [qp] at h; exact h
        | ex x e => rw [qp] at h; exact RunX.shift h (F1.trans F2)
        | ok ps e3 =>
          rw [qp] at h
          exact fun vs G3 H3 R3 pr F3 => h _ G3 H3 R3 (.cons ((dvk.up F2.gg).up F3.gg) (dvv.up F3.gg) pr) ((F1.trans F2).trans F3)
theorem keys_pr {G : Hp} : ∀ {vs : List (V × V)} {ps : List (D × D)} {ks : List (Key × D)}, PrD K G vs ps → keysOf ps = some ks → ∃ kvs : List (Key × V), vs = kvs.map (fun kv => (kV kv.1, kv.2)) ∧ kvs.length = ks.length ∧ ∀ {ws : List (Key × V)} {ds : List (D × D)}, DvKv K G ws ds → DvKv K G (mergeK ws kvs) (mergeP ds ks)
  | _, [], ks, .nil, h => by cases h; exact ⟨[], rfl, rfl, fun z => z⟩
  | _, (dk, dv) :: ps, ks, .cons a b c, h => by
    have h' : (match keyOf dk, keysOf ps with
      | some a, some qs => some ((a, dv) :: qs)
      | _, _ => none) = some ks := h
    cases q1 : keyOf dk with
    | none => rw [q1] at h'; cases h'
    | some k0 =>
      cases q2 : keysOf ps with
      | none => rw [q1, q2] at h'; cases h'
      | some qs =>
        rw [q1, q2] at h'
        cases h'
        obtain ⟨kvs, e1, e2, e3⟩ := keys_pr c q2
        have e0 := keyOf_some q1
        subst e0
        have ek := dv_key a
        subst ek
        refine ⟨(k0, _) :: kvs, by rw [List.map_cons, ← e1], by simp [e2], fun {ws ds} z => ?_⟩
        exact e3 (kv_put z b)
end
section
variable {X : Cx} {W : WX} {pos : Pos}
abbrev CPs (X : Cx) (W : WX) (pos : Pos) (keys : List (Option Expr)) (values : List Expr) (prs : List (DE × DE)) : Prop := PPs X pos keys values (prs.map fun p => (rdE X.K X.mg W p.1, rdE X.K X.mg W p.2))
theorem cps_nil : CPs X W pos [] [] [] := pps_nil
theorem cps_cons {k v : Expr} {ks : List (Option Expr)} {vs : List Expr} {dk dv : DE} {prs : List (DE × DE)} (hk : CE X W k dk) (hv : CE X W v dv) (hr : CPs X W pos ks vs prs) : CPs X W pos (some k :: ks) (v :: vs) ((dk, dv) :: prs) := pps_cons hk hv hr
theorem cm_disp {keys : List (Option Expr)} {values : List Expr} {prs : List (DE × DE)} (h : CPs X W pos keys values prs) (hall : keys.all (·.isSome) = true := by rfl) (hl : keys.length = values.length := by rfl) (h0 : keys ≠ [] := by intro z; cases z) (h15 : keys.length ≤ 15 := by decide) : CM X W (.Dict keys values pos) (lDisp prs) :=
  pe_imp (pe_disp h hall hl h0 h15) fun σ H Q h => by
    obtain ⟨env, G, R, h⟩ := h
    intro p hp
    have gp : G p = none := R.ex.none hp
    have np : ¬ Own env σ H p := fun z => (z.there R).1 hp
    have R0 : Rel X.K env σ G (upd H p (.dK [])) := R.mutFree gp np
    refine pairs_ok R0 ?_
    have h' : RunM X.K X.mg W env σ G H ((pairsD prs env).bind fun ps e1 => match keysOf ps with
      | some ks => if ks.length ≤ 15 then .ok (mergeP [] ks) e1 else .stuck
      | none => .stuck) Q := h
    have back : ∀ {e1 : DEnv} {G' H' : Hp}, Fr env σ G (upd H p (.dK [])) e1 σ G' H' → Fr env σ G H e1 σ G' H' := fun {e1 G' H'} F => F.unlay R hp
    have np0 : ¬ Own env σ (upd H p (.dK [])) p := fun ⟨i, w⟩ => np ⟨i, ((R.laid1 hp).2 i p).1 w⟩
    cases q : pairsD prs env with
    | stuck => rw [q] at h'; exact h'
    | ex x e => rw [q] at h'; exact fun cls dd G' H' a b c => h' cls dd G' H' a b (back c)
    | ok ps e1 =>
      rw [q, bind_ok] at h'
      intro vs G' H' R' pr F'
      have hp' : H' p = some (.dK []) := F'.keep p _ upd_same np0
      have gp' : G' p = none := by
        cases z : G' p with
        | none => rfl
        | some u =>
          rcases F'.fresh p (by rw [z]; exact fun w => by cases w) with w | w | w
          · exact absurd gp w
          · rw [upd_same] at w; cases w
          · exact absurd w np0
      have np' : ¬ Own e1 σ H' p := fun z => by
        rcases F'.own p z with w | w
        · exact np0 w
        · rw [upd_same] at w; cases w
      cases qk : keysOf ps with
      | none => rw [qk] at h'; exact h'.elim
      | some ks =>
        rw [qk] at h'
        have h2 : RunM X.K X.mg W env σ G H (if ks.length ≤ 15 then .ok (mergeP [] ks) e1 else .stuck) Q := h'
        by_cases c : ks.length ≤ 15
        · rw [if_pos c] at h2
          obtain ⟨kvs, e1', e2, e3⟩ := keys_pr pr qk
          refine ⟨hp', kvs, e1', by omega, ?_⟩
          obtain ⟨R2, m2⟩ := R'.mutFreeO (o := .dK (mergeK [] kvs)) gp' np'
          exact h2 p _ G' _ R2 upd_same gp' hp (fun ⟨i, w⟩ => np' ⟨i, (m2 i p).1 w⟩) (e3 .nil) ((back F').mutNew hp m2)
        · rw [if_neg c] at h2
          exact h2.elim
theorem RunM.new {K : PySem.W.Frag} {mg : Str → Option Value} {env : DEnv} {σ : L2.St} {G H : Hp} {zs : List (D × D)} {vs : List (Key × V)} {Q : VK} {a : Addr} (R : Rel K env σ G H) (h : RunM K mg W env σ G H (.ok zs env) Q) (ha : H a = none) (dv : DvKv K G vs zs) : Q (.ref a) (upd H a (.dK vs)) := by
  have ga : G a = none := R.ex.none ha
  obtain ⟨R2, m⟩ := R.laid1 (o := .dK vs) ha
  refine h a vs G _ R2 upd_same ga ha (fun ⟨i, w⟩ => (((m i a).1 w).there R).1 ha) dv ⟨Ex.refl _, fun b u hb _ => by rw [upd_ne (ne_of_none hb ha)]; exact hb, fun b hb => ?_, fun _ z => .inl z, fun b ⟨i, w⟩ => .inl ⟨i, (m i b).1 w⟩, fun _ s z _ => ⟨rfl, s, z, rfl⟩⟩
  by_cases z : b = a
  · subst z; exact ha
  · rw [upd_ne z] at hb; exact hb
theorem ce_dct {e : Expr} {dm : DM} (h : CM X W e dm) : CE X W e (eDct dm) := pe_imp h fun σ H Q h => M_to_E σ H Q h
def dGet2 (d k x : D) : Option D := match d with
  | .dict ds => match keyOf k with
    | some a => some ((valD ds a).getD x)
    | none => none
  | _ => none
def eGet2 (dd dk dx : DE) : DE := fun env => (dd env).bind fun d e1 => match d with
  | .dict ds => (dk e1).bind fun k e2 => (dx e2).bind fun x e3 => put (dGet2 (.dict ds) k x) e3
  | _ => .stuck
variable {o e f : Expr} {dd dk dx : DE} {apos : Pos}
theorem ce_get2 (hu : X.A.units + 1 < cLine) (ho : CE X W o dd) (he : CE X W e dk) (hf : CE X W f dx) (base : attributeBase o "get" X.env (eval o X.env) = eval o X.env := by rfl) (line : (apos.endLine == pos.line) = true := by rfl)
    (few : ((backTo pos (starEach [e, f] X.env)).all (fun x => !x.1) && (backToKw pos (keywordEach [] X.env)).all (fun x => x.1.isSome) && decide (([e, f] : List Expr).length + ([] : List Keyword).length + (if ([] : List Keyword).isEmpty then 0 else 1) < 30)) = true := by rfl)
    (trees : backTo pos (starEach [e, f] X.env) = [(false, eval e X.env), (false, eval f X.env)] := by rfl) : CE X W (.Call (.Attribute o "get" apos) [e, f] [] pos) (eGet2 dd dk dx) := pe_imp (pe_dget2 hu ho he hf ⟨base, few, line, trees⟩) fun σ H Q h => by
  obtain ⟨env, G, R, h⟩ := h
  refine E_thenE R h fun d e1 v G1 H1 _ R1 dv F1 h1 => ?_
  cases dv with
  | @dct a xs ds h2 h3 =>
    refine ⟨a, rfl, .inl ⟨xs, R1.ex.rd h2⟩, E_thenE R1 h1 fun k e2 w G2 H2 _ R2 dw F2 h4 => E_thenE R2 h4 fun x e3 z G3 H3 _ R3 dz F3 h5 => ?_⟩
    obtain ⟨r, er, kk⟩ := RunE.put R3 h5
    unfold dGet2 at er
    cases q : keyOf k with
    | none => simp [q] at er
    | some key =>
      simp only [q, Option.some.injEq] at er
      have e0 := keyOf_some q
      subst e0
      have ew := dv_key dw
      subst ew
      refine ⟨valV xs key, .inl ⟨xs, key, R3.ex.rd (F3.gg.rd (F2.gg.rd h2)), rfl, rfl⟩, ?_⟩
      rcases kv_val (k := key) h3 with ⟨n1, n2⟩ | ⟨v1, d1, n1, n2, n3⟩
      · rw [n1]
        rw [n2] at er
        exact kk _ G3 H3 (by rw [← er]; exact dz) (Grow.refl R3.ex)
      · rw [n1]
        rw [n2] at er
        exact kk _ G3 H3 (by rw [← er]; exact (n3.up F2.gg).up F3.gg) (Grow.refl R3.ex)
  | non => exact h1.elim
  | bl _ => exact h1.elim
  | int _ => exact h1.elim
  | str _ => exact h1.elim
  | lst _ _ => exact h1.elim
  | tup _ _ => exact h1.elim
end
end DL
set_option Elab.async false
set_option linter.all false
set_option maxRecDepth 100000
set_option autoImplicit false
namespace DL
open PySem L2
/-- a def of the top, where it stands -/
abbrev FnT (K : PySem.W.Frag) (x : Str) (st : Stmt) (fd : FuncData) : Prop := FunD K x x (defArgs st) (defBody st) (defScope st) [] [] (He.ga K x) fd
/-- what a caller knows of a def -/
structure Cal (P : Program) (w : World) (K : PySem.W.Frag) (mg : Str → Option Value) (base : Heap) (k : Nat) (x : Str) (np : Nat) (F : Df) : Prop where
  ex : ∃ (fd : FuncData) (ps : List Str), ps.length = np ∧ FnOk P w K mg base (L2N.CX P w) k (He.ga K x) fd ps (spD K mg ps.length F) ∧ Binds K fd ps []
  mg_ : mg x = some (.ref (He.ga K x))
  kp : PySem.W.keepIn K (.ref (He.ga K x)) = true
section
variable {P : Program} {w : World} {K : PySem.W.Frag} {mg : Str → Option Value} {base : Heap}
theorem fn_bodyD {x : Str} {st : Stmt} {fd : FuncData} {N ps : List Str} {k : Nat} {ds : DS} (F : FnT K x st fd) (S : FnScope N ps (defScope st)) (hps : ps.length ≤ N.length)
    (hbody : ∀ (cdv : Value) (A : Around) (outer : List Env) (s : Shared) (H : Hp) (E : XK), Room k (A.deeper (PyProof.Rows.envOfC x (defScope st) s.heap.objs.size (He.ga K x) cdv)) →
      CSs (cxOf (L2N.CX P w) P w K mg base N x (defScope st) (He.ga K x) cdv A outer s H E) (fun cls d _ H => E cls d H) (defBody st) ds) :
    FnOk P w K mg base (L2N.CX P w) (k + 1) (He.ga K x) fd ps (spD K mg ps.length (bodyF N.length ds)) := by
  obtain ⟨oc, od, dV, kV, doc, pm, an, cdv, ct, osl, rfl, lk, hcd, _, _⟩ := F.ex
  refine fn_of lk hcd S (fun vs H Q E h => h.1) fun A outer s H vs Q E hr h => ⟨_, hbody cdv A outer s H E hr, ?_⟩
  obtain ⟨hl, args, G, R, h⟩ := h
  have hn : vs.length ≤ N.length := by omega
  refine ⟨_, G, rel_start (N := N) R hn, ?_⟩
  have h' : RunF K mg args (vs.map some) G H (match ds (args ++ List.replicate (N.length - args.length) Sl.no) with
    | .nx e => .ok .none (outsOf args e)
    | .rt d e => .ok d (outsOf args e)
    | .rl xs e => .okl xs (outsOf args e)
    | .ex x e => .ex x (outsOf args e)
    | _ => .stuck) Q E := h
  cases q : ds (args ++ List.replicate (N.length - args.length) Sl.no) with
  | nx e =>
    rw [q] at h'
    exact fun σ' G' H' R' F' => let ⟨a, b, _⟩ := ends_fr R hn R' F'; h' .non G' H' a .non b
  | rt d e =>
    rw [q] at h'
    exact fun v σ' G' H' R' dv F' => let ⟨a, b, _⟩ := ends_fr R hn R' F'; h' v G' H' a dv b
  | rl d e =>
    rw [q] at h'
    exact fun a vs' σ' G' H' R' h1 h2 h3 h4 dv F' => let ⟨r, b, c⟩ := ends_fr R hn R' F'; h' a vs' G' H' r h1 h2 h3 (fun z => h4 (c a z)) dv b
  | ex x e =>
    rw [q] at h'
    exact fun cls dd σ' G' H' xr R' F' => let ⟨a, b, _⟩ := ends_fr R hn R' F'; h' cls dd G' H' xr a b
  | bk e => rw [q] at h'; exact h'.elim
  | ct e => rw [q] at h'; exact h'.elim
  | stuck => rw [q] at h'; exact h'.elim
/-- THE RULE: a def of the top keeps what its function on data says -/
theorem cal_of {x : Str} {st : Stmt} {N ps : List Str} {k : Nat} {ds : DS} (D : ∃ fd, FnT K x st fd) (g : mg x = some (.ref (He.ga K x))) (S : FnScope N ps (defScope st)) (hps : ps.length ≤ N.length)
    (hb : ∀ (kV doc pm : Value) (an : Option Addr) (cdv ct : Value) (us : List Value), us.length = ps.length → bindArgs (PySem.W.fnOf x x (defArgs st) (defBody st) (defScope st) .none kV doc pm an cdv ct) ⟨us, []⟩ = pure (ps.zip us))
    (hbody : ∀ (cdv : Value) (A : Around) (outer : List Env) (s : Shared) (H : Hp) (E : XK), Room k (A.deeper (PyProof.Rows.envOfC x (defScope st) s.heap.objs.size (He.ga K x) cdv)) →
      CSs (cxOf (L2N.CX P w) P w K mg base N x (defScope st) (He.ga K x) cdv A outer s H E) (fun cls d _ H => E cls d H) (defBody st) ds) :
    Cal P w K mg base (k + 1) x ps.length (bodyF N.length ds) := by
  obtain ⟨fd, F⟩ := D
  exact ⟨⟨fd, ps, rfl, fn_bodyD F S hps hbody, F.bindsN hb⟩, g, F.kp⟩
theorem Cal.mono {j k : Nat} {x : Str} {np : Nat} {F : Df} (C : Cal P w K mg base j x np F) (h : j ≤ k) : Cal P w K mg base k x np F :=
  let ⟨fd, ps, e, f, b⟩ := C.ex
  ⟨⟨fd, ps, e, f.mono h, b⟩, C.mg_, C.kp⟩
end
section
variable {X : Cx} {W : WX} {pos p : Pos} {e : Expr} {es : List Expr} {da : DAr} {j k np : Nat} {F : Df} {x : Str}
theorem passF (σ : L2.St) : PassesAt (L2N.CX X.prog X.w) X σ (WE WF σ) := fun _ _ _ _ _ _ h => by
  obtain ⟨_, _, _, _, _, _, _, _, _, _, _, _, z⟩ := h
  exact z.elim
theorem ce_callC (C : Cal X.prog X.w X.K X.mg X.base j x np F) (hr : Room k X.A) (hjk : j ≤ k) (tk : ∀ σ, PassesAt (L2N.CX X.prog X.w) X σ (WE W σ)) (ha : CR X W (e :: es) da) (hg : Gl X x := by rfl)
    (hdb : (x == ("__debug__" : Str)) = false := by decide) (he : starEach (e :: es) X.env = (false, eval e X.env) :: starEach es X.env := by rfl) (hpl : (backTo pos (starEach es X.env)).any (·.1) = false := by rfl) :
    CE X W (.Call (.Name x p) (e :: es) [] pos) (eCallN np F da) := by
  obtain ⟨fd, ps, rfl, f, b⟩ := C.ex
  exact ce_call f (hr.mono hjk) C.mg_ C.kp b tk ha hg hdb he hpl
theorem cl_callC (C : Cal X.prog X.w X.K X.mg X.base j x np F) (hr : Room k X.A) (hjk : j ≤ k) (tk : ∀ σ, PassesAt (L2N.CX X.prog X.w) X σ (WE W σ)) (ha : CR X W (e :: es) da) (hg : Gl X x := by rfl)
    (hdb : (x == ("__debug__" : Str)) = false := by decide) (he : starEach (e :: es) X.env = (false, eval e X.env) :: starEach es X.env := by rfl) (hpl : (backTo pos (starEach es X.env)).any (·.1) = false := by rfl) :
    CL X W (.Call (.Name x p) (e :: es) [] pos) (lCallN np F da) := by
  obtain ⟨fd, ps, rfl, f, b⟩ := C.ex
  exact cl_call f (hr.mono hjk) C.mg_ C.kp b tk ha hg hdb he hpl
/-- f(): nothing is handed in -/
def eCall0 (F : Df) : DE := fun env => match F [] with
  | .ok d _ => .ok d env
  | .okl xs _ => .ok (.list xs) env
  | _ => .stuck
theorem rel_nil {K : PySem.W.Frag} {G H : Hp} (ex : Ex G H) : Rel K [] [] G H := ⟨ex, rfl, fun i s o h => by simp at h, fun i j a ⟨s, o, h, _⟩ => by simp at h⟩
theorem own_nil {σ : L2.St} {H : Hp} {a : Addr} : ¬ Own [] σ H a := fun ⟨i, s, o, h, _⟩ => by simp at h
/-- the frame of a call without arguments -/
theorem fr_nil {K : PySem.W.Frag} {env outs : DEnv} {σ : L2.St} {G H G' H' : Hp} (R : Rel K env σ G H) (R' : Rel K outs [] G' H') (F : Fr [] [] G H outs [] G' H') : Grow G H G' H' :=
  ⟨F.gg, fun a o h => F.keep a o h own_nil, R'.ex, fun a h => by
    rcases F.fresh a h with w | w | w
    · exact .inl w
    · exact .inr w
    · exact (own_nil w).elim⟩
theorem ce_call0C (C : Cal X.prog X.w X.K X.mg X.base j x 0 F) (hr : Room k X.A) (hjk : j ≤ k) (hg : Gl X x := by rfl) (hdb : (x == ("__debug__" : Str)) = false := by decide) : CE X W (.Call (.Name x p) [] [] pos) (eCall0 F) := by
  obtain ⟨fd, ps, e0, f, b⟩ := C.ex
  refine pe_imp (pe_call0 f (hr.mono hjk) hg C.mg_ C.kp b .nil (E := E0) (fun _ _ _ _ _ _ _ h => let ⟨_, _, _, _, _, _, _, _, _, _, _, _, z⟩ := h; z.elim) hdb) fun σ H Q h => ?_
  obtain ⟨env, G, R, h⟩ := h
  show spD X.K X.mg ps.length F [] H Q E0
  refine ⟨e0.symm, [], G, rel_nil R.ex, ?_⟩
  unfold eCall0 at h
  cases q : F [] with
  | stuck => rw [q] at h; exact h
  | ex x outs => rw [q] at h; exact h.elim
  | ok d outs =>
    rw [q] at h
    intro v G' H' R' dv F'
    have g := fr_nil R R' F'
    exact h v G' H' (R.grow g) dv (g.fr R)
  | okl xs outs =>
    rw [q] at h
    intro a vs G' H' R' h1 h2 h3 h4 dv F'
    have g := fr_nil R R' F'
    have hl : RunL X.K X.mg W env σ G H (Rs.ok xs env) Q := RunL.of h
    exact hl a vs G' H' (R.grow g) h1 h2 h3 (fun ⟨i, w⟩ => ((((R.growO g).2 i a).1 w).there R).1 h3) dv (g.fr R)
end
/-- the script as data -/
def scriptD (ns : List Int) : D := .list (ns.map PyData.int)
theorem script_sp {K : PySem.W.Frag} {mg : Str → Option Value} {H : Hp} {a : Addr} {ns : List Int} {F : Df} {outs : DEnv} (h : RL K H a (ns.map V.int)) (e : F [.v (scriptD ns)] = .ok (.bool true) outs) : spD K mg 1 F [.ref a] H (fun v _ => v = .bl true) fun _ _ _ => False := by
  refine ⟨rfl, [.v (scriptD ns)], H, ⟨Ex.refl _, rfl, fun i s o h1 h2 => ?_, fun i j b ⟨s, o, h1, _, h2⟩ => ?_⟩, ?_⟩
  · match i, h1, h2 with
    | 0, h1, h2 =>
      cases h1
      cases h2
      exact ⟨_, rfl, .lst h (DvAll.of_ints ns)⟩
  · match i, h1 with
    | 0, h1 => cases h1; cases h2
  · rw [e]
    intro v G' H' R' dv F'
    cases dv
    rfl
theorem walk_ofR {l : PySem.W.OpenLaw} {n k : Nat} {q : Program} {loose : List Str} {XP : (Str → Option Value) → Heap → Prop} {YP : World → Heap → Prop} {d : DefRec} {F : Df}
    (hn : l.most = some n) (hn2 : n ≤ sizeLine) (hdf : d.params.defaults = []) (hr : Room k callerA) (hnm : d.name = "law")
    (hF : ∀ ns : List Int, ns.length ≤ n → ∃ outs, F [.v (scriptD ns)] = .ok (.bool true) outs)
    (hC : ∀ (w : World) (mg : Str → Option Value) (h : Heap), YP w h → h.Ns mainGlobals mg →
      ∃ (K : PySem.W.Frag) (fd : FuncData), K.In h ∧ mg "law" = some (.ref (He.ga K "law")) ∧ (∀ (s : Shared) (u : Value), BindsTo s fd ⟨[u], []⟩ [("script", u)]) ∧
        ∀ base : Heap, K.In base → base.Ns mainGlobals mg → FnOk l.prog w K mg base (L2N.CX l.prog w) k (He.ga K "law") fd ["script"] (spD K mg 1 F)) :
    PySem.W.WalkO q loose XP YP l.row.toRowW d [] (fun f vs => PySem.call f vs) := by
  refine Att.attach_call hn hdf fun w s0 s1 mg mb fa o pm cd doc a vs ns Gr Y ho hd hcd hmg hobj hints hlen hgen => ?_
  obtain ⟨K, fd, KX, hg, hb, hFn⟩ := hC w mg _ Y Gr.T.g
  rw [hnm, hg] at hmg
  cases hmg
  obtain ⟨outs, he⟩ := hF ns hlen
  refine law_call KX Gr.T.g Gr.T.b Gr.T.builtins Gr.T.nolimit hgen hobj hints (Nat.le_trans hlen hn2) hr hFn hb (fun H hO hS => script_sp ?_ he) fun H e s' hx => ?_
  · rcases hS with h | ⟨oo, its, m, h1, h2, h3, h4, h5, h6⟩
    · exact .inl h
    · have e1 := KX a oo h1
      rw [hobj] at e1
      cases e1
      exact .inr ⟨vs.toArray, _, h1, by cases h4; exact h5, by cases h4; exact h6⟩
  · obtain ⟨_, _, _, _, _, _, _, _, _, _, _, _, z⟩ := hx
    exact z
end DL
set_option Elab.async false
set_option linter.all false
set_option maxRecDepth 100000
set_option autoImplicit false
namespace DL
open PySem L2
def rLendC (i : Nat) (da : DAr) : DAr := fun env => if lent i env then (da env).bind fun xs e2 => if lent i e2 then .ok (.s i :: xs) e2 else .stuck else .stuck
/-- a tuple of texts, written at the top -/
def GloT (K : PySem.W.Frag) (mg : Str → Option Value) (x : Str) (ss : List Str) : Prop := mg x = some (.ref (He.ga K x)) ∧ ∀ H : Hp, SqN K H (He.ga K x) (ss.map V.str)
theorem ce_globT2 {X : Cx} {W : WX} {pos : Pos} {x : Str} {ss : List Str} (h : GloT X.K X.mg x ss) (hg : Gl X x := by rfl) (hdb : (x == ("__debug__" : Str)) = false := by decide) : CE X W (.Name x pos) (eC (.tuple (ss.map PyData.str))) := by
  refine pe_imp (pe_glob hg h.1 (v := .ref (He.ga X.K x)) rfl hdb) (c_ok fun G => .tup (xs := ss.map V.str) (h.2 G) ?_)
  have all : ∀ ss : List Str, DvAll X.K G (ss.map V.str) (ss.map PyData.str) := fun ss => by
    induction ss with
    | nil => exact .nil
    | cons s ss ih => exact .cons (.str s) ih
  exact all ss
/-- a def of the top as the head's facts name it -/
theorem tupBN_ok {K : PySem.W.Frag} {x : Str} {vs : List He.Dv} (h : tupBN K x vs = true) (H : Hp) : SqN K H (He.ga K x) (vs.map (He.Dv.v K)) := by
  unfold tupBN at h
  cases q : K.lookup (He.ga K x) with
  | none =>
    rw [q] at h
    cases h
  | some o =>
    obtain ⟨oc, od, dt, osl⟩ := o
    rw [q] at h
    cases oc with
    | type c =>
      cases od with
      | some _ => cases dt <;> cases h
      | none =>
        cases dt with
        | seq its n =>
          obtain ⟨h1, h2⟩ := He.ba (show (decide (c = "tuple") && (decide (its.size ≤ sizeLine) && He.relAll (vs.map (He.Dv.v K)) its.toList)) = true from h)
          obtain ⟨h3, h4⟩ := He.ba h2
          exact .inr ⟨_, its, n, q, congrArg Value.type (of_decide_eq_true h1), rfl, rfl, of_decide_eq_true h3, He.relAll_ok h4⟩
        | _ => cases h
    | _ => cases od <;> cases dt <;> cases h
end DL
set_option Elab.async false
set_option linter.all false
set_option maxRecDepth 100000
set_option autoImplicit false
namespace DL
open PySem L2
end DL
set_option Elab.async false
set_option linter.all false
set_option maxRecDepth 100000
set_option autoImplicit false
namespace DL
open PySem L2 PySem.Spec PyProof.Rows
def sRaise (x : Str) : DS := fun env => .ex ⟨x, none⟩ env
/-- what is known of an exception class of the program's own, without an own __init__ -/
structure ExC (K : PySem.W.Frag) (mg : Str → Option Value) (x : Str) : Prop where
  g : mg x = some (.ref (He.ga K x))
  e : PySem.W.excIn K (He.ga K x) He.veBase "ValueError.__new__" = true
  k : PySem.W.keepIn K (.ref (He.ga K x)) = true
  b : PySem.W.subIn K (.ref (He.ga K x)) (.type "BaseException") = some true
  t : PySem.W.typeIn K (.ref (He.ga K x)) = some (.type "type")
section
variable {X : Cx} {W : WX} {pos pos2 p p2 : Pos} {x m : Str} {j : Nat}
theorem cs_raise (T : ExC X.K X.mg x) (tk : L2N.Takes X W) (hc : X.calm = true := by rfl) (hg : Gl X x := by rfl) (hdb : (x == ("__debug__" : Str)) = false := by decide) :
    CS X W (.Raise (some (.Call (.Name x p) [.Constant (.str m) j p2] [] pos)) none pos2) (sRaise x) := ps_imp (L2N.ps_raise hc tk (L2N.pmk_own PySem.F.excBase_ValueError T.e T.g T.k (raises_own T.b T.t) hg hdb)) fun E σ H h => by
  obtain ⟨env, G, R, h⟩ := h
  exact h (.ref (He.ga X.K x)) none σ G H ⟨T.g, rfl⟩ R (Fr.refl _ _ _ _)
end
end DL
set_option Elab.async false
set_option linter.all false
set_option maxRecDepth 100000
set_option autoImplicit false
namespace PySem
open Sem (wp)
end PySem
namespace DL
open PySem L2 PySem.Spec PyProof.Rows
end DL
set_option Elab.async false
set_option linter.all false
set_option maxRecDepth 100000
set_option autoImplicit false
set_option maxHeartbeats 4000000
namespace PySem
open Sem (wp)
open AutoSeq1
end PySem
namespace DL
open PySem L2 PySem.Spec PyProof.Rows
end DL
namespace DL
open PySem L2 PySem.Spec PyProof.Rows RZ
end DL
namespace DL
open PySem L2 PySem.Spec PyProof.Rows RZ
end DL
set_option Elab.async false
set_option linter.all false
set_option maxRecDepth 100000
set_option autoImplicit false
set_option maxHeartbeats 4000000
namespace PySem
open PySem.W PySem.Calls PyProof.Rows PySem.Spec SrtO
end PySem
namespace DL
open PySem L2 PySem.Spec PyProof.Rows
end DL
set_option Elab.async false
set_option linter.all false
set_option maxRecDepth 100000
set_option autoImplicit false
set_option maxHeartbeats 4000000
namespace DL
open PySem L2 L2H HotX PySem.Spec PyProof.Rows
/-- a block's context that bears the handled exception -/
abbrev hblk (X : Cx) (p : Addr × Obj) (s : Shared) (H : Hp) (sc : Scope) (ce : Env) (fp : List Addr) : Cx := { X.blk s H sc ce fp with pn := [p] }
section
variable {X : Cx} {p : Addr × Obj}
theorem hblk_hot (hot : Hot1 X.A p) (s : Shared) (H : Hp) (sc : Scope) (ce : Env) (fp : List Addr) : HotC (hblk X p s H sc ce fp) := ⟨p, hot, List.mem_singleton.mpr rfl⟩
/-- the block starts: what block_start says, the pin kept -/
theorem hblk_start {pins : List (Addr × Obj)} {σ σ' : L2.St} {H : Hp} {s s' : Shared} {sc : Scope} {ce : Env} {fp : List Addr} (hp : p ∈ X.pn) (I : Inv X pins σ H s) (J : Inv (X.blk s H sc ce fp) [] σ' H s')
    (hk : ∀ b o, s.heap.get? b = some o → s'.heap.get? b = some o) (hl : ce.locals = s.heap.objs.size) : Inv (hblk X p s H sc ce fp) [] σ' H s' := by
  obtain ⟨a1, a2, a3, a4, a5⟩ := I.pin p (List.mem_append_left _ hp)
  have jo := J.ok
  refine ⟨⟨jo.mod, jo.kind, jo.glob, jo.blt, jo.above, jo.inj, jo.has, jo.cab, jo.hd, jo.frames, jo.stk, jo.exf, jo.bs, jo.bsz, jo.noex, jo.exfs, jo.funs, jo.frf⟩, J.os, J.bare, J.base, J.loc, J.cell, J.free, J.freeC, fun q hq => ?_, J.hok, J.len⟩
  have eq : q = p := by simpa using (show q ∈ [p] ++ ([] : List (Addr × Obj)) from hq)
  subst eq
  refine ⟨hk _ _ a1, a2, ?_, fun hm => ?_, a5⟩
  · show q.1 ≠ ce.locals
    rw [hl]
    exact Nat.ne_of_lt (Heap.lt_size a1)
  · rcases List.mem_cons.mp (I.stkSub q.1 hm) with z | z
    · exact a3 z
    · exact a4 z
section
variable {pins : List (Addr × Obj)} {s : Shared} {σ : L2.St} {H : Hp} {Q : VK} {elt tg iter : Expr} {ifs : List Expr} {sc : Scope} {own : List (Str × Nat)} {pos pos' : Pos} {wi : TI} {g : TG} {tt : TT} {te : TE} {use : Option (Value → Sem Unit)} {Qf : Value → Shared → Prop}
theorem hot_core (hot : Hot1 X.A p) (hpn : p ∈ X.pn) (hN : X.N.Nodup) (I : Inv X pins σ H s) (hi : PIH X tg iter wi) (ok : BlkOk X.N X.env.scope sc own)
    (hg : ∀ (s : Shared) (H : Hp) (C : Addr) (cl : List (Str × Addr)) (fp : List Addr), PG (hblk X p s H sc (compEnvC sc cl C X.env) fp) tg g)
    (ht : ∀ (s : Shared) (H : Hp) (C : Addr) (cl : List (Str × Addr)) (fp : List Addr), PTs (hblk X p s H sc (compEnvC sc cl C X.env) fp) ifs tt)
    (he : ∀ (s : Shared) (H : Hp) (C : Addr) (cl : List (Str × Addr)) (fp : List Addr), PE (hblk X p s H sc (compEnvC sc cl C X.env) fp) elt te)
    (hs : ∀ x, foldedSetIterable iter X.env x = pure x) (h : tLc wi g tt te (own.map (·.2)) σ H Q)
    (hRR : ∀ D C s' m H', Inv X pins σ H' s' → Q (.ref D) H' → s'.heap.Ns C m → FpOk X pins H' C → compPost (model X.prog X.w) X.A X.xe use Qf (.ref D) C (.ok .next) s') :
    wpAny (model X.prog X.w) X.A (comprehension (.ListComp elt [⟨tg, iter, ifs, 0⟩] sc pos) sc X.env pos' (newList []) false (eval iter X.env) use) Qf X.xe s := by
  have hfr : ∀ y ∈ sc.names, y.2 = .free → ∃ c, X.env.cells.lookup y.1 = some c := fun y hy e => by
    rcases ok.free y hy e with k | k
    · exact I.ok.has _ (.inl k)
    · exact I.ok.has _ (.inr k)
  refine wpAny_comprehension_free (use := use) rfl hs (closure_ok hfr) ok.kind (fun y hy e => by rw [ok.uniq y hy, e])
    (thn (hi.run pins s σ H _ I h) fun xv s1 hx => thn hx fun itv s2 h2 => ?_)
  obtain ⟨it, fp, tn, J, H2, e, I2, T, st2, f2, q⟩ := h2
  subst e
  refine wpAny_newObj_type (newEnv_comp ?_) (by show 0 ≤ sizeLine; decide)
  generalize hD : s2.heap.objs.size = D
  obtain ⟨W, ⟨m0, w0⟩, turn⟩ := q D (I2.hok.fresh (Nat.le_of_eq hD))
  generalize hs3 : ({ s2 with heap := s2.heap.push { cls := .type "list", data := .seq ([] : List Value).toArray } } : Shared) = s3
  have h3 : s3.heap = s2.heap.push { cls := .type "list", data := .seq ([] : List Value).toArray } := by rw [← hs3]
  have I3 : Inv X pins σ (upd H2 D (.lst [])) s3 := by
    subst hs3
    refine I2.laid (t' := s2.toks) (fun b o e => Heap.get?_push_of_some _ e) (Nat.le_of_eq hD) ⟨Nat.zero_le _, [], 0, .nil, ?_⟩
    subst hD
    exact Heap.get?_push_size _ rfl
  have sz : ∀ b ∈ fp, b < s2.heap.objs.size := fun b hb => let ⟨o, e, _⟩ := T.obj _ _ st2 b hb; Heap.lt_size e
  have f3 : ∀ b ∈ fp, FpOk X pins (upd H2 D (.lst [])) b ∧ b < s3.heap.objs.size := fun b hb =>
    ⟨⟨(upd_ne (by rw [← hD]; exact Nat.ne_of_lt (sz b hb))).trans (f2 b hb).1, (f2 b hb).2⟩, by rw [h3, Heap.size_push]; exact Nat.lt_succ_of_lt (sz b hb)⟩
  have st3 : tn 0 s3.heap := T.keep _ _ _ st2 fun b _ o e => (by rw [h3]; exact Heap.get?_push_of_some _ e)
  have I4 := block_start I3 ok hN f3
  have pg := hg s3 (upd H2 D (.lst [])) s3.heap.objs.size (cellsFrom (s3.heap.objs.size + 1) sc.names (cloFrom X.env.cells sc.names [])) fp
  have pt := ht s3 (upd H2 D (.lst [])) s3.heap.objs.size (cellsFrom (s3.heap.objs.size + 1) sc.names (cloFrom X.env.cells sc.names [])) fp
  have pe := he s3 (upd H2 D (.lst [])) s3.heap.objs.size (cellsFrom (s3.heap.objs.size + 1) sc.names (cloFrom X.env.cells sc.names [])) fp
  show codeAny _ _ (.compStart (.ListComp elt [⟨tg, iter, ifs, 0⟩] sc pos) 0 (.ref it) (.ref D) (compEnvC sc (cellsFrom (s3.heap.objs.size + 1) sc.names (cloFrom X.env.cells sc.names [])) s3.heap.objs.size X.env))
    (compPost (model X.prog X.w) X.A X.xe use Qf (.ref D) s3.heap.objs.size) { s3 with heap := pushCells (s3.heap.push { cls := .type "dict", data := .dict #[] }) sc.names }
  have nfp : ∀ b ∈ fp, (upd H2 D (.lst [])) b = none := fun b hb => (f3 b hb).1.1
  generalize hce : compEnvC sc (cellsFrom (s3.heap.objs.size + 1) sc.names (cloFrom X.env.cells sc.names [])) s3.heap.objs.size X.env = ce at I4 pg pt pe ⊢
  have cL : ce.locals = s3.heap.objs.size := by subst hce; rfl
  generalize hH3 : upd H2 D (.lst []) = H3 at I3 I4 pg pt pe w0 nfp f3
  generalize hs4 : ({ s3 with heap := pushCells (s3.heap.push { cls := .type "dict", data := .dict #[] }) sc.names } : Shared) = s4 at I4 ⊢
  have k4 : ∀ b o, s3.heap.get? b = some o → s4.heap.get? b = some o := fun b o e => by
    subst hs4
    exact pushCells_keeps _ _ _ _ (Heap.get?_push_of_some _ e)
  have st4 : tn 0 s4.heap := T.keep _ _ _ st3 fun b _ o e => k4 b o e
  have I4 : Inv (hblk X p s3 H3 sc ce fp) [] (wipe σ (own.map (·.2))) H3 s4 := hblk_start hpn I3 I4 k4 cL
  have hc := hblk_hot hot s3 H3 sc ce fp
  have stat : ∀ {σ' : L2.St} {H' : Hp} {s' : Shared}, Inv (hblk X p s3 H3 sc ce fp) [] σ' H' s' → (∀ b ∈ fp, H' b = none) → ∀ b ∈ fp, FpOk (hblk X p s3 H3 sc ce fp) [] H' b := fun {σ' H' s'} I' hn b hb =>
    ⟨hn b hb, (I'.ok.exf b hb).1, I'.ok.exfs b hb, .inl hb, fun x c e => (I'.ok.exf b hb).2 x c e, fun q hq => by
      have eq : q = p := by simpa using (show q ∈ [p] ++ ([] : List (Addr × Obj)) from hq)
      subst eq
      exact (f3 b hb).1.2.2.2.2.2 q (List.mem_append_left _ hpn)⟩
  have loop : codeAny (model X.prog X.w) X.A (.compLoop (.ListComp elt [⟨tg, iter, ifs, 0⟩] sc pos) 0 (.ref it) (.ref D) ce) (compPost (model X.prog X.w) X.A X.xe use Qf (.ref D) s3.heap.objs.size) s4 := by
    refine compLoop_any (fun n s' => ∃ i H', Inv (hblk X p s3 H3 sc ce fp) [] (wipe σ (own.map (·.2))) H' s' ∧ tn i s'.heap ∧ (∀ b ∈ fp, H' b = none) ∧ W i n H') ?_ m0 ⟨0, H3, I4, st4, nfp, w0⟩
    rintro n s5 ⟨i, H5, I5, st5, n5, w5⟩
    rcases turn i n H5 w5 with ⟨stop, qq⟩ | ⟨go, Nx, hNx, step⟩
    · refine thnF (T.done (hblk X p s3 H3 sc ce fp) rfl rfl rfl hc i [] s5 _ H5 (fun _ _ => False) I5 (stat I5 n5) st5 stop) fun r s6 ⟨hr, I6⟩ => ?_
      subst hr
      have I7 : Inv X pins σ H5 s6 := I3.call' (ch := fp) I6.os I6.base I6.hok I6.bare fun b hb => let z := (f3 b hb).1.2; ⟨z.2.2.1, z.1, z.2.2.2.1, z.2.2.2.2⟩
      have nC : H5 s3.heap.objs.size = none := cL ▸ (show H5 ce.locals = none from I6.free)
      obtain ⟨m, hn, _⟩ := I6.loc
      have hn : s6.heap.Ns s3.heap.objs.size m := cL ▸ (show s6.heap.Ns ce.locals m from hn)
      exact hRR D s3.heap.objs.size s6 m H5 I7 qq hn (I3.fpOk (Nat.le_refl _) nC)
    · refine thnF (T.item (hblk X p s3 H3 sc ce fp) rfl rfl rfl hc i [] s5 _ H5 (fun _ _ => False) I5 (stat I5 n5) st5 go) fun r s6 ⟨u, hr, h6⟩ => ?_
      subst hr
      refine thnF h6 fun _ s7 ⟨x, H7, I7, r7, y7, st7, n7⟩ => ?_
      have I7' := I7.pinned (stat I7 n7) (T.obj _ _ st7)
      refine thnF (pg.run _ s7 _ H7 x u _ I7' r7 (step x H7 y7)) fun _ s8 ⟨σ8, H8, I8, hw8, q8⟩ => ?_
      refine thnF (pt.run _ s8 σ8 H8 _ I8 q8) fun b s9 ⟨H9, I9, q9⟩ => ?_
      have fin : ∀ {s' : Shared} {H' : Hp}, Inv (hblk X p s3 H3 sc ce fp) ([] ++ pinsAt fp s7.heap) σ8 H' s' → Nx H' →
          ∃ m, m < n ∧ ∃ i H', Inv (hblk X p s3 H3 sc ce fp) [] (wipe σ (own.map (·.2))) H' s' ∧ tn i s'.heap ∧ (∀ b ∈ fp, H' b = none) ∧ W i m H' := fun {s' H'} I' nx => by
        obtain ⟨m', hm, w'⟩ := hNx H' nx
        have pin' : ∀ b ∈ fp, ∀ o, s7.heap.get? b = some o → s'.heap.get? b = some o ∧ H' b = none := fun b hb o e => by
          have z := I'.pin (b, o) (List.mem_append_right _ (List.mem_append_right _ (mem_pinsAt hb e)))
          exact ⟨z.1, z.2.1⟩
        refine ⟨m', hm, i + 1, H', (I'.unpinned (pins := [])).weak (by rw [← hw8, wipe_length]) (fun j v e => (wipe_some (hw8 ▸ e)).1), T.keep _ _ _ st7 fun b hb o e => (pin' b hb o e).1, fun b hb => ?_, w'⟩
        obtain ⟨o, e, _⟩ := T.obj _ _ st7 b hb
        exact (pin' b hb o e).2
      cases b with
      | false => exact fin I9 (by simpa using q9)
      | true =>
        simp only [if_true] at q9 ⊢
        refine thnF (pe.run _ s9 σ8 H9 _ I9 q9) fun z s10 ⟨yv, H10, I10, r10, acc, hD10, hz10, nx⟩ => ?_
        exact app_ok (X := hblk X p s3 H3 sc ce fp) I10 hD10 hz10 r10 fun s11 I11 => fin I11 nx
  exact codeAny_compStart_list loop (T.self X.A 0 _ _ _ st4 loop)
theorem pe_lcH (hot : Hot1 X.A p) (hpn : p ∈ X.pn) (hN : X.N.Nodup) (hi : PIH X tg iter wi) (ok : BlkOk X.N X.env.scope sc own)
    (hg : ∀ (s : Shared) (H : Hp) (C : Addr) (cl : List (Str × Addr)) (fp : List Addr), PG (hblk X p s H sc (compEnvC sc cl C X.env) fp) tg g)
    (ht : ∀ (s : Shared) (H : Hp) (C : Addr) (cl : List (Str × Addr)) (fp : List Addr), PTs (hblk X p s H sc (compEnvC sc cl C X.env) fp) ifs tt)
    (he : ∀ (s : Shared) (H : Hp) (C : Addr) (cl : List (Str × Addr)) (fp : List Addr), PE (hblk X p s H sc (compEnvC sc cl C X.env) fp) elt te)
    (hs : ∀ x, foldedSetIterable iter X.env x = pure x := by intro _; rfl) : PE X (.ListComp elt [⟨tg, iter, ifs, 0⟩] sc pos) (tLc wi g tt te (own.map (·.2))) := by
  refine ⟨fun pins s σ H Q I h => ?_⟩
  rw [eval_ListComp]
  refine hot_core hot hpn hN I hi ok hg ht he hs h fun D C s' m H' I' q hn f => ⟨m, hn, fun h'' sb => ?_⟩
  obtain ⟨f0, f1, f2, f3, f4, f5⟩ := f
  exact ⟨.ref D, H', I'.turned (t' := s'.toks) (fun b o hb e => (sb.2 b hb).trans e) f0 f1 f3 f4 f5, rfl, q⟩
end
abbrev CIH (X : Cx) (W : WX) (tg e : Expr) (di : DA) : Prop := PIH X tg e (rdI X.K X.mg W di)
theorem pih_imp {tg e : Expr} {wi wi' : TI} (h : PIH X tg e wi) (k : ∀ σ H R, wi' σ H R → wi σ H R) : PIH X tg e wi' := ⟨fun pins s σ H R I w => h.run pins s σ H R I (k σ H R w)⟩
end
end DL
set_option Elab.async false
set_option linter.all false
set_option maxRecDepth 100000
set_option autoImplicit false
set_option maxHeartbeats 4000000
namespace DL
open PySem L2 L2H HotX PySem.Spec PyProof.Rows
structure ExI (K : PySem.W.Frag) (C : Addr) : Prop where
  cl : (PySem.W.clsIn K C).isSome = true
  ga : PySem.W.findIn K (.ref C) "__getattribute__" = some (some (.builtin "BaseException.__getattribute__"))
  gt : PySem.W.findIn K (.ref C) "__getattr__" = some none
  sb : PySem.W.subIn K (.ref C) (.type "BaseException") = some true
  ca : PySem.W.findIn K (.ref C) "__class__" = some (some (.builtin "object.__class__"))
  gn : PySem.W.specialIn K (.builtin "object.__class__") "__get__" = some (some (.builtin "getset_descriptor.__get__"))
  tk : PySem.W.takesIn K (.builtin "object.__class__") = some true
  mr : PySem.W.mroIn K C (.type "object") = some true
theorem exiB_ok {K : PySem.W.Frag} {C : Addr} (h : exiB K C = true) : ExI K C := by
  unfold exiB at h
  simp only [Bool.and_eq_true, decide_eq_true_eq] at h
  obtain ⟨h1, h2, h3, h4, h5, h6, h7, h8⟩ := h
  exact ⟨h1, h2, h3, h4, h5, h6, h7, h8⟩
def rIsX (K : PySem.W.Frag) (C a : Addr) (d : Option Addr) : List V → Hp → VK → Prop := fun xs H Q =>
  ∃ (c : V) (cv : Value) (b : Bool), xs = [.ref a, c] ∧ (∀ u, RelV c u → u = cv) ∧ PySem.W.kitOne K (.ref C) cv = some b ∧ (∀ dx, d = some dx → ∃ fs, H dx = some (.xd fs)) ∧ Q (.bl b) H
theorem cr_isX {X : Cx} {a C : Addr} {d : Option Addr} {oe : Obj} (T : ExI X.K C) (hp : (a, oe) ∈ X.pn) (hz : Zc (.ref C) d oe) (hf : ∃ vs, oe.data = .fields vs) : CallR X (.builtin "isinstance") (rIsX X.K C a d) := by
  intro pins s σ H xs us Q I r h
  obtain ⟨c, cv, b, rfl, hcv, e, xd, q⟩ := h
  cases r with
  | cons rx rr =>
    cases rr with
    | cons rt rr =>
      cases rr
      cases rx
      cases hcv _ rt
      have hget := (I.pin (a, oe) (List.mem_append_left _ hp)).1
      obtain ⟨vs, hv⟩ := hf
      have nc : PySem.W.notCls oe = true := by unfold PySem.W.notCls; rw [hv]
      have J : ∃ od, PySem.W.InstAt s.heap a oe C od := by
        cases d with
        | none => exact ⟨none, hget, hz.1, nc, by rw [hz.2]; trivial⟩
        | some dx =>
          obtain ⟨fs, hx⟩ := xd dx rfl
          have ho : ObjOk X.prog X.w H s.heap dx (.xd fs) := I.hok dx _ hx
          obtain ⟨mA, hns, _⟩ := ho
          obtain ⟨o, es, ep, h1, _⟩ := hns
          exact ⟨some o, hget, hz.1, nc, by rw [hz.2]; exact h1⟩
      obtain ⟨od, J⟩ := J
      exact PySem.W.kia_one (PySem.W.kitx_exc T.cl T.ga T.gt T.sb T.ca T.gn T.tk T.mr) I.kIn J e (fun z => nomatch z) fun tk => ⟨.bl b, H, I.kept (t' := tk) fun _ _ z => z, rfl, q⟩
structure FnX (P : Program) (w : World) (K : PySem.W.Frag) (mg : Str → Option Value) (base : Heap) (k : Nat) (f : Addr) (fd : FuncData) (ps : List Str) (p : Addr × Obj) (sp : Sp) : Prop where
  len : ∀ vs H Q E, sp vs H Q E → vs.length = ps.length
  run : ∀ (A : Around) (outer : List Env) (s : Shared) (H : Hp) (args : Args) (us : List Value) (vs : List V) (Q : VK), RoomH k A → Hot1 A p → PinOk outer H s p → Env0 P w K mg base A outer s H →
    BindsTo s fd args (ps.zip us) → Vals vs us → sp vs H Q (fun _ _ _ => False) → codeAny (model P w) A (.call (.ref f) args) (L2.CR (L2N.CX P w) outer P w H s Q fun _ _ _ => False) s
abbrev cxX (P : Program) (w : World) (K : PySem.W.Frag) (mg : Str → Option Value) (base : Heap) (N : List Str) (qual : Str) (sc : Scope) (f : Addr) (cd : Value) (A : Around) (outer : List Env) (s : Shared) (H : Hp) (p : Addr × Obj) : Cx :=
  cxH (L2N.CX P w) P w K mg base N qual sc f cd A outer s H (fun _ _ _ => False) p
section
variable {P : Program} {w : World} {K : PySem.W.Frag} {mg : Str → Option Value} {base : Heap} {k : Nat} {f : Addr} {name qual : Str} {params : Arguments} {body : List Stmt} {sc : Scope} {dV kV doc pm cdv ct oc : Value} {an od : Option Addr} {osl : Array (Option Value)} {N ps : List Str} {sp : Sp} {p : Addr × Obj}
theorem fnX_of (lk : K.lookup f = some ⟨oc, od, .func (PySem.W.fnOf name qual params body sc dV kV doc pm an cdv ct), osl⟩) (hcd : PySem.W.codeIn K cdv qual = true) (S : FnScope N ps sc) (len : ∀ vs H Q E, sp vs H Q E → vs.length = ps.length)
    (hbody : ∀ (A : Around) (outer : List Env) (s : Shared) (H : Hp) (vs : List V) (Q : VK), Hot1 A p → RoomH k (A.deeper (envOfC qual sc s.heap.objs.size f cdv)) → sp vs H Q (fun _ _ _ => False) →
      ∃ t, PSs (cxX P w K mg base N qual sc f cdv A outer s H p) body t ∧ t { nx := fun _ H' => Q .non H', rt := Q } (L2.start N vs) H) :
    FnX P w K mg base (k + 1) f (PySem.W.fnOf name qual params body sc dV kV doc pm an cdv ct) ps p sp := by
  refine ⟨len, fun A outer s H args us vs Q hr hot hpin e0 hb r hsp => ?_⟩
  have keeps : ∀ b o, base.get? b = some o → s.heap.get? b = some o := fun b o e => (e0.bs b o e).1
  have KX := e0.mod.kin.keeps keeps
  have hkind : ∀ y ∈ ps.zip us, sc.names.lookup y.1 = some .local ∨ (sc.names.lookup y.1 = some .cell ∧ ((cellsFrom (s.heap.objs.size + 1) sc.names []).lookup y.1).isSome = true) := by
    rintro ⟨n, v⟩ hy
    rcases S.par n (List.of_mem_zip hy).1 with q | q
    · exact .inl q
    · exact .inr ⟨q, PySem.W.cellsFrom_some _ _ _ (.inl q)⟩
  refine codeAny_call_function hr.depth (KX _ _ lk) rfl S.co S.gen rfl (PySem.W.codeRec_of KX hcd) (hb _ _ _ _ (wpAny_newFunctionEnv_cells S.kind hkind fun env he s1 x => ?_))
  subst he
  refine ⟨(e0.mod.nolimit.keeps keeps).keeps x.toInCall.keep, codeAny_func ?_⟩
  obtain ⟨t, ht, hq⟩ := hbody A outer s H vs Q hot (hr.deeper _) hsp
  have I : Inv (cxX P w K mg base N qual sc f cdv A outer s H p) [] (L2.start N vs) H s1 := inv_startH S hpin e0 (len _ _ _ _ hsp) r x
  refine wpAny_mono (ht.run [] s1 (L2.start N vs) H _ I hq) (fun fl s' hs => ?_) fun e s' hs => hs
  have fin : ∀ {σ' : L2.St} {H' : Hp} {v : V} {u : Value}, Inv (cxX P w K mg base N qual sc f cdv A outer s H p) [] σ' H' s' → RelV v u → Q v H' → L2.CE outer P w H s Q u s' :=
    fun {σ' H' v u} J rv q => ⟨v, H', J.os, J.bare, J.base, J.hok, rv, q⟩
  match fl, hs with
  | .ret u, ⟨v, σ', H', J, rv, q⟩ => exact fin J rv q
  | .next, ⟨σ', H', J, q⟩ => exact fin (v := V.non) (u := Value.none) J rfl q
  | .brk, ⟨_, _, _, q⟩ => exact q.elim
  | .cont, ⟨_, _, _, q⟩ => exact q.elim
end
section
variable {X : Cx} {k : Nat} {f : Addr} {fd : FuncData} {ps : List Str} {sp : Sp} {x : Str} {q pos : Pos} {e : Expr} {es : List Expr} {t : TA} {p : Addr × Obj}
def tCallX (sp : Sp) (t : TA) : TE := fun σ H Q => t σ H fun vs H1 => sp vs H1 Q fun _ _ _ => False
theorem pe_callX (F : FnX X.prog X.w X.K X.mg X.base k f fd ps p sp) (hr : RoomH k X.A) (hot : Hot1 X.A p) (hp : p ∈ X.pn) (hg : Gl X x) (hm : X.mg x = some (.ref f)) (hk : PySem.W.keepIn X.K (.ref f) = true) (hb : Binds X.K fd ps []) (ha : PA X (e :: es) t)
    (hdb : (x == ("__debug__" : Str)) = false := by decide) (he : starEach (e :: es) X.env = (false, eval e X.env) :: starEach es X.env := by rfl) (hpl : (backTo pos (starEach es X.env)).any (·.1) = false := by rfl) :
    PE X (.Call (.Name x q) (e :: es) [] pos) (tCallX sp t) := by
  refine ⟨fun pins s σ H Q I h => wpAny_Call_Name_kw (ld_glob I hg hm ?_ hdb)⟩
  refine PySem.W.callWith_K (h₀ := X.base) I.ok.mod.kin hk (thn (ha.run pos pins s σ H _ I h) fun us s1 ⟨vs, H1, I1, r, q⟩ => ⟨I1.kIn, ?_⟩) he hpl
  have hl : us.length = ps.length := by rw [← r.length]; exact F.len _ _ _ _ q
  have b := hb s1 us I1.kIn (by rw [List.append_nil]; exact hl)
  rw [List.append_nil] at b
  obtain ⟨a1, a2, a3, a4, a5⟩ := I1.pin p (List.mem_append_left _ hp)
  have hpin : PinOk X.stack H1 s1 p := ⟨a1, a2, fun hm => (List.mem_cons.mp (I1.stkSub p.1 hm)).elim a3 a4, a5⟩
  refine wpAny_call (codeAny_mono (F.run X.A X.stack s1 H1 ⟨us, []⟩ us vs Q hr hot hpin I1.env0 b r q) fun r s' hq => ?_)
  match r, hq with
  | .error e, hq =>
    obtain ⟨_, _, _, _, _, _, _, _, _, _, _, _, z⟩ := hq
    exact z.elim
  | .ok (.ret u), hq => exact I1.after hq
  | .ok .next, hq => exact hq.elim
  | .ok .brk, hq => exact hq.elim
  | .ok .cont, hq => exact hq.elim
end
abbrev Ends.lose (D : Ends) (i : Nat) : Ends := { nx := fun σ H => D.nx (σ.set i none) H, rt := D.rt, bk := fun σ H => D.bk (σ.set i none) H, ct := fun σ H => D.ct (σ.set i none) H }
abbrev Hd := Value × (Addr → Value → Option Addr → TS)
def wAsM (K : PySem.W.Frag) (i : Nat) (W : WX) (D : Ends) : List Hd → WX
  | [] => W
  | (c, ts) :: r => fun cls d σ H => ∃ b, PySem.W.exmOne K cls c = some b ∧ (b = true → ∀ a, H a = none → ts a cls d (Ends.lose D i) (σ.set i (some (.ref a))) H) ∧ (b = false → wAsM K i W D r cls d σ H)
inductive HdsAs (X : Cx) (n : Str) : List ExceptHandler → List Hd → Prop
  | nil : HdsAs X n [] []
  | cons {x : Str} {c : Value} {ts : Addr → Value → Option Addr → TS} {b₀ : Stmt} {su : List Stmt} {np pos' : Pos} {hds : List ExceptHandler} {l : List Hd} (hc : Names X x c)
      (hsu : ∀ (a : Addr) (oe : Obj) (cls : Value) (d : Option Addr) (pn : List (Addr × Obj)), L2N.Zn cls d oe → (∃ vs, oe.data = .fields vs) → PSs (X.suite a ((a, oe) :: pn)) (b₀ :: su) (ts a cls d)) (r : HdsAs X n hds l) :
      HdsAs X n (.ExceptHandler (some (.Name x np)) (some n) (b₀ :: su) pos' :: hds) ((c, ts) :: l)
section
variable {X : Cx} {body : List Stmt} {hd0 : ExceptHandler} {hds : List ExceptHandler} {l : List Hd} {pos : Pos} {tb : WX → TS} {W : WX} {n : Str} {i : Nat}
theorem ps_tryAs (hs : X.stack = X.env :: X.outer) (hf : X.env.frame = some X.env.locals) (hN : X.N.Nodup) (hi : X.N[i]? = some n) (hln : X.env.kindOf n = some .local) (tk : L2N.Takes X W)
    (hb : ∀ (W : WX) (pn : List (Addr × Obj)) (xe : Value → Shared → Prop), L2N.Takes (X.tr pn xe) W → PassesOwn (model X.prog X.w) X.A X.env xe → PSs (X.tr pn xe) body (tb W))
    (hh : HdsAs X n (hd0 :: hds) l) : PS X (.Try body (hd0 :: hds) [] [] pos) (fun D σ H => tb (wAsM X.K i W D l) D σ H) := by
  refine ⟨fun pins s σ H D I h => ?_⟩
  have ok := I.ok
  have hfr : X.A.frames = some (X.env :: X.outer) := ok.frames.trans (congrArg some hs)
  have hloc : Loc X.env.scope n := .inl hln
  let xe' : Value → Shared → Prop := fun e s₁ => wpAny (model X.prog X.w) X.A (noteFrame e X.env)
    (fun _ s₂ => wpAny (model X.prog X.w) X.A (setFlight e none) (fun _ s₃ => wpAny (model X.prog X.w) X.A (handleBy e X.env (hd0 :: hds)) (SP X pins D) X.xe s₃) X.xe s₂) X.xe s₁
  have pw : PassesOwn (model X.prog X.w) X.A X.env xe' := PassesOwn.looking
  refine wpAny_Try_except (wpAny_mono ((hb (wAsM X.K i W D l) (X.pn ++ pins) xe' (fun u s' xx => ?_) pw).run [] s σ H D (I.toTry _) h) (fun fl s1 hsp => ?_) (fun e s1 he => he))
  · obtain ⟨a, B, sI, pins', σ', H', cls, d, rfl, J', nb, up, sky, na, os, ag, w⟩ := xx
    have J : Inv X pins σ' H' sI := J'.ofTry ok
    refine L2N.Sky.land L2N.Zn.steady hfr hf (hs ▸ sky) fun h3 fl3 up3 => ?_
    have J3 : Inv X pins σ' H' { s' with heap := h3 } := J.landed nb fl3.1 (up.trans up3) os ag
    obtain ⟨oe3, vs3, he3, hz3, hd3⟩ := fl3.there
    have nfr : a ∉ frs (X.env :: X.outer) := fun hm => by
      obtain ⟨_, o', e', hnf⟩ := fl3.2.2.1.mem hm
      rw [he3] at e'
      cases e'
      exact hnf _ hd3
    have nL : a ≠ X.env.locals := fun z => nfr (List.mem_filterMap.mpr ⟨X.env, List.mem_cons_self, by rw [hf, z]⟩)
    have nF : a ∉ X.fs := fun hm => let ⟨e, he, q⟩ := List.mem_filterMap.mp hm; nfr (List.mem_filterMap.mpr ⟨e, List.mem_cons_of_mem _ he, q⟩)
    have S3 := J3.suite he3 hd3 na nL nF
    have go : ∀ {hds' : List ExceptHandler} {l' : List Hd}, HdsAs X n hds' l' → wAsM X.K i W D l' cls d σ' H' → wpAny (model X.prog X.w) X.A (handleBy (.ref a) X.env hds') (SP X pins D) X.xe { s' with heap := h3 } := by
      intro hds' l' hk
      induction hk with
      | nil =>
        intro w
        obtain ⟨k1, k2, k3, oe, vs, T, oT, ts', he, hz, hd, h1, hr⟩ := id fl3
        refine wpAny_handleBy_nil ?_
        unfold PySem.passOn
        refine wpAny_bind (wpAny_field he hd h1 ?_)
        rw [if_neg (show ¬ ((Value.ref T == Value.none) = true) from by simp)]
        have fin : wpAny (model X.prog X.w) X.A (setFlight (.ref a) X.env.frame) (fun _ s4 => wpAny (model X.prog X.w) X.A (throw (.ref a) : Sem Flow) (SP X pins D) X.xe s4) X.xe { s' with heap := h3 } := by
          rw [hf]
          exact HandSPX.setFlight_upZ fl3 fun h4 hh4 up4 => wpAny_throw (tk _ _ ⟨a, B, sI, pins, σ', H', cls, d, rfl, J, nb, (up.trans up3).trans up4, .inr (.inr (by rw [hs]; exact hh4)), na, os, ag, w⟩)
        first
          | exact wpAny_bind (wpAny_pure (wpAny_bind fin))
          | exact wpAny_bind fin
      | @cons x c ts b₀ su np pos' hds2 l2 hc hsu r ih =>
        intro w
        obtain ⟨b, hb1, hyes, hno⟩ := w
        have LT : PySem.W.Looks (model X.prog X.w) h3 (typeOf (.ref a)) cls := fun A Q E s k q => wpAny_typeOf_ref (k _ _ he3) (hz3.1.symm ▸ q)
        have test : ∀ {Q : Value → Shared → Prop} {E : Value → Shared → Prop}, Q c { s' with heap := h3 } → wpAny (model X.prog X.w) (X.A.mark (some (.ref a))) (eval (.Name x np) X.env) Q E { s' with heap := h3 } := fun {Q E} q => by
          obtain ⟨hg, hdbg, hm | ⟨hm, hv, hnn⟩⟩ := hc
          · exact ld_glob (X := X.suite a ((a, oe3) :: (X.pn ++ pins))) S3 hg hm q hdbg
          · exact ld_blt (X := X.suite a ((a, oe3) :: (X.pn ++ pins))) S3 hg hm hv q hnn hdbg
        refine wpAny_handleBy_cons (codeAny_handlers_test (test ((PySem.W.exm_one (M := model X.prog X.w) J3.kIn LT hb1).here ?_))) (by intro q; cases q)
        cases b with
        | false => exact ih (hno rfl)
        | true =>
          refine codeAny_handlers_suite_as (HandSPX.lands_againZ fl3 fun h4 fl4 up4 => ?_)
          have J4 : Inv X pins σ' H' { s' with heap := h4 } := J.landed nb fl4.1 ((up.trans up3).trans up4) os ag
          obtain ⟨oe4, vs4, he4, hz4, hd4⟩ := fl4.there
          have S4 := J4.suite he4 hd4 na nL nF
          refine store_ok (X := X.suite a ((a, oe4) :: (X.pn ++ pins))) (v := .ref a) S4 hN hi hloc rfl (fun s5 S5 => ?_) (.inr hln)
          refine wpAny_mono ((hsu a oe4 cls d (X.pn ++ pins) hz4 ⟨_, hd4⟩).run [] s5 _ H' _ S5 (hyes rfl a na)) (fun fl s6 hsp => ?_) (fun _ _ z => False.elim z)
          have end_ : ∀ {σ6 : L2.St} {H6 : Hp} {Q : Shared → Prop}, Inv (X.suite a ((a, oe4) :: (X.pn ++ pins))) [] σ6 H6 s6 → (∀ s7, Inv X pins (σ6.set i none) H6 s7 → Q s7) →
              wpAny (model X.prog X.w) X.A (do bindName X.env n .none; unbindBehindTheSuite X.env n pos') (fun _ s7 => Q s7) X.xe s6 := fun {σ6 H6 Q} S6 hq => gone_ok (S6.unsuite ok) hN hi hln hq
          match fl, hsp with
          | .next, ⟨σ6, H6, S6, q6⟩ => exact end_ S6 fun s7 J7 => ⟨_, _, J7, q6⟩
          | .brk, ⟨σ6, H6, S6, q6⟩ => exact end_ S6 fun s7 J7 => ⟨_, _, J7, q6⟩
          | .cont, ⟨σ6, H6, S6, q6⟩ => exact end_ S6 fun s7 J7 => ⟨_, _, J7, q6⟩
          | .ret u, ⟨v6, σ6, H6, S6, r6, q6⟩ => exact end_ S6 fun s7 J7 => ⟨_, _, _, J7, r6, q6⟩
    exact go hh w
  · match fl, hsp with
    | .next, ⟨σ', H', J', q⟩ => exact wpAny_execs_nil ⟨σ', H', J'.ofTry ok, q⟩
    | .brk, ⟨σ', H', J', q⟩ => exact ⟨σ', H', J'.ofTry ok, q⟩
    | .cont, ⟨σ', H', J', q⟩ => exact ⟨σ', H', J'.ofTry ok, q⟩
    | .ret u, ⟨v, σ', H', J', r, q⟩ => exact ⟨v, σ', H', J'.ofTry ok, r, q⟩
end
end DL
set_option Elab.async false
set_option linter.all false
set_option maxRecDepth 100000
set_option autoImplicit false
set_option maxHeartbeats 4000000
namespace DL
open PySem L2 L2H HotX PySem.Spec PyProof.Rows
def strsD : List D → Option (List Str)
  | [] => some []
  | .str x :: r => (strsD r).map (x :: ·)
  | _ :: _ => none
theorem strsD_some : ∀ {ds : List D} {ys : List Str}, strsD ds = some ys → ds = ys.map PyData.str
  | [], _, h => by cases h; rfl
  | .str x :: r, _, h => by
    cases q : strsD r with
    | none => simp [strsD, q] at h
    | some zs =>
      simp [strsD, q] at h
      subst h
      rw [strsD_some q]
      rfl
  | .none :: _, _, h => by cases h
  | .bool _ :: _, _, h => by cases h
  | .int _ :: _, _, h => by cases h
  | .list _ :: _, _, h => by cases h
  | .tuple _ :: _, _, h => by cases h
  | .dict _ :: _, _, h => by cases h
theorem dv_strs {K : PySem.W.Frag} {G : Hp} : ∀ {vs : List V} {ys : List Str}, DvAll K G vs (ys.map PyData.str) → vs = ys.map V.str
  | _, [], h => by cases h; rfl
  | _, y :: ys, h => by
    cases h with
    | cons a b => cases a; rw [dv_strs b]; rfl
def joinG (a : Str) (ys : List Str) : Prop := (ys.map (·.length)).sum + ys.length * a.length ≤ 16777216
instance (a : Str) (ys : List Str) : Decidable (joinG a ys) := by unfold joinG; infer_instance
def dJoin (a : Str) : D → Option D
  | .list xs => match strsD xs with
    | some ys => if joinG a ys then some (.str (Txt.join a ys)) else none
    | none => none
  | .tuple xs => match strsD xs with
    | some ys => if joinG a ys then some (.str (Txt.join a ys)) else none
    | none => none
  | _ => none
def eJoin (da db : DE) : DE := fun env => (da env).bind fun x e1 => match x with
  | .str a => (db e1).bind fun y e2 => put (dJoin a y) e2
  | _ => .stuck
section
variable {X : Cx} {W : WX} {pos apos : Pos} {o e : Expr} {da db : DE}
theorem ce_join (ho : CE X W o da) (he : CE X W e db) (hs : starEach [e] X.env = [(false, eval e X.env)] := by rfl) (hbase : attributeBase o "join" X.env (eval o X.env) = eval o X.env := by rfl) (hline : (apos.endLine == pos.line) = true := by rfl) :
    CE X W (.Call (.Attribute o "join" apos) [e] [] pos) (eJoin da db) := pe_imp (pe_join ho he hs hbase hline) fun σ H Q h => by
  obtain ⟨env, G, R, h⟩ := h
  refine E_thenE R h fun d e1 v G1 H1 _ R1 dv F1 h1 => ?_
  cases dv with
  | str a =>
    refine ⟨⟨a, rfl⟩, E_thenE R1 h1 fun y e2 w G2 H2 _ R2 dw F2 h2 => ?_⟩
    obtain ⟨z, ez, k⟩ := RunE.put R2 h2
    have fin : ∀ {p : Addr} {vs : List V} {xs : List D}, (SqL X.K H2 p vs ∨ SqT X.K H2 p vs) → DvAll X.K G2 vs xs → (match strsD xs with
        | some ys => if joinG a ys then some (PyData.str (Txt.join a ys)) else none
        | none => none) = some z → ∃ a' p', ∃ ys : List Str, V.str a = .str a' ∧ [V.ref p] = [.ref p'] ∧ (SqL X.K H2 p' (ys.map V.str) ∨ SqT X.K H2 p' (ys.map V.str)) ∧ (ys.map (·.length)).sum + ys.length * a'.length ≤ 16777216 ∧ Q (.str (Txt.join a' ys)) H2 := fun {p vs xs} hq dvs ez => by
      cases q : strsD xs with
      | none => rw [q] at ez; cases ez
      | some ys =>
        rw [q] at ez
        by_cases c : joinG a ys
        · simp only [if_pos c] at ez
          cases ez
          rw [strsD_some q] at dvs
          rw [dv_strs dvs] at hq
          exact ⟨a, p, ys, rfl, rfl, hq, c, k _ G2 H2 (.str _) (Grow.refl R2.ex)⟩
        · simp only [if_neg c] at ez
          cases ez
    cases dw with
    | lst x y => exact fin (.inl (R2.ex.rl x).sq) y ez
    | tup x y => exact fin (.inr (R2.ex.n x).t) y ez
    | non => cases ez
    | bl _ => cases ez
    | int _ => cases ez
    | str _ => cases ez
    | dct _ _ => cases ez
  | non => exact h1.elim
  | bl _ => exact h1.elim
  | int _ => exact h1.elim
  | lst _ _ => exact h1.elim
  | tup _ _ => exact h1.elim
  | dct _ _ => exact h1.elim
end
section
variable {X : Cx} {W : WX} {pos : Pos} {p : Addr × Obj}
theorem ci_range1H {tg a : Expr} {da : DA} {q : Pos} (hm : X.mg "range" = none) (ha : CA X W [a] da) (hg : Gl X "range" := by rfl) (hs : starEach [a] X.env = [(false, eval a X.env)] := by rfl) : CIH X W tg (.Call (.Name "range" q) [a] [] pos) (iRng1 da) :=
  pih_imp (pi_range1H hg hm ha hs) fun σ H R h => by
    obtain ⟨env, G, R0, h⟩ := h
    refine A_thenI R0 h fun ds e1 vs G1 H1 _ R1 dv F1 h1 => ?_
    cases q2 : int1 ds with
    | none => rw [q2] at h1; exact h1.elim
    | some j =>
      rw [q2] at h1
      have e := int1_some q2
      subst e
      obtain ⟨v, rfl, dv1⟩ := dv.inv1
      obtain rfl : v = .int j := by cases dv1; rfl
      have h2 : RunI X.K X.mg W e1 σ G1 H1 (if I62 j then .ok (rngD 0 j) e1 else .stuck) R := h1
      by_cases c : I62 j
      · rw [if_pos c] at h2
        have w := walk_rng (K := X.K) (G := G1) 0 j
        rw [Int.sub_zero] at w
        exact ⟨j, rfl, c.1, c.2, h2 _ G1 H1 R1 w (Fr.refl _ _ _ _)⟩
      · rw [if_neg c] at h2
        exact h2.elim
theorem cl_compH {elt tg iter : Expr} {ifs : List Expr} {sc : Scope} {own : List (Str × Nat)} {di : DA} {g : DG} {ws : List Nat} {t : DT} {de : DE} (hot : Hot1 X.A p) (hpn : p ∈ X.pn) (hN : X.N.Nodup) (hi : CIH X W tg iter di) (ok : BlkOk X.N X.env.scope sc own)
    (hg : ∀ (s : Shared) (H : Hp) (C : Addr) (cl : List (Str × Addr)) (fp : List Addr), CG (hblk X p s H sc (compEnvC sc cl C X.env) fp) tg g ws)
    (ht : ∀ (s : Shared) (H : Hp) (C : Addr) (cl : List (Str × Addr)) (fp : List Addr), PTs (hblk X p s H sc (compEnvC sc cl C X.env) fp) ifs (rdT X.K X.mg WF t))
    (he : ∀ (s : Shared) (H : Hp) (C : Addr) (cl : List (Str × Addr)) (fp : List Addr), CE (hblk X p s H sc (compEnvC sc cl C X.env) fp) WF elt de)
    (hws : ∀ j ∈ ws, j ∈ own.map (·.2) := by decide) (hs : ∀ x, foldedSetIterable iter X.env x = pure x := by intro _; rfl) : CL X W (.ListComp elt [⟨tg, iter, ifs, 0⟩] sc pos) (lComp di g t de (own.map (·.2))) :=
  pe_imp (pe_lcH hot hpn hN hi ok hg ht he hs) fun σ H Q h => lc_ok hws σ H Q h
end
structure Kx (K : PySem.W.Frag) (mg : Str → Option Value) : Prop where
  g : ∀ c ∈ kNames, mg c = some (.ref (He.ga K c))
  gs : mg "SkinError" = some (.ref (He.ga K "SkinError"))
  i : ∀ c ∈ kNames, ExI K (He.ga K c)
  kk : ∀ c ∈ kNames, ∀ n ∈ kNames, PySem.W.kitOne K (.ref (He.ga K c)) (.ref (He.ga K n)) = some (c == n)
  kv : ∀ c ∈ kNames, PySem.W.kitOne K (.ref (He.ga K c)) (.type "ValueError") = some true
  xk : ∀ c ∈ kNames, ∀ n ∈ ("SkinError" : Str) :: kNames, PySem.W.exmOne K (.ref (He.ga K c)) (.ref (He.ga K n)) = some (mtC n c)
  xf : ∀ c ∈ kNames, XfC K (He.ga K c) ∧ PySem.W.findIn K (.ref (He.ga K c)) "word" = some none ∧ PySem.W.findIn K (.ref (He.ga K c)) "half" = some none
theorem kxB_ok {K : PySem.W.Frag} {mg : Str → Option Value} (h : kxB K = true) (g : ∀ c ∈ kNames, mg c = some (.ref (He.ga K c))) (gs : mg "SkinError" = some (.ref (He.ga K "SkinError"))) : Kx K mg := by
  have h' := fun c hc => List.all_eq_true.mp h c hc
  simp only [Bool.and_eq_true, decide_eq_true_eq] at h'
  exact ⟨g, gs, fun c hc => exiB_ok (h' c hc).1, fun c hc n hn => by simpa using List.all_eq_true.mp (h' c hc).2.1 n hn, fun c hc => (h' c hc).2.2.1, fun c hc n hn => by simpa using List.all_eq_true.mp (h' c hc).2.2.2.1 n hn,
    fun c hc => ⟨xfB_ok (h' c hc).2.2.2.2.1, (h' c hc).2.2.2.2.2.1, (h' c hc).2.2.2.2.2.2⟩⟩
/-- isinstance(e, C): the answer is b -/
def eIsE (a : Addr) (d : Option Addr) (i : Nat) (b : Bool) : DE := fun env => match env[i]? with
  | some (.a a' d' _) => if a' = a ∧ d' = d then .ok (.bool b) env else .stuck
  | _ => .stuck
/-- e.n -/
def eFld (a : Addr) (d : Option Addr) (i : Nat) (n : Str) : DE := fun env => match env[i]? with
  | some (.a a' d' (some (m, x))) => if a' = a ∧ d' = d ∧ m = n then .ok x env else .stuck
  | _ => .stuck
/-- _law_kinds(e) -/
def eKinds (a : Addr) (d : Option Addr) (c : Str) (i : Nat) : DE := fun env => match env[i]? with
  | some (.a a' d' _) => if a' = a ∧ d' = d then .ok (.str (c ++ "+")) env else .stuck
  | _ => .stuck
theorem a_slot {K : PySem.W.Frag} {env : DEnv} {σ : L2.St} {G H : Hp} {i : Nat} {a : Addr} {d : Option Addr} {f : Option (Str × D)} (R : Rel K env σ G H) (h : env[i]? = some (.a a d f)) : σ[i]? = some (some (.ref a)) ∧ XD K G d f := by
  have li : i < σ.length := by rw [← R.len]; exact (List.getElem?_eq_some_iff.mp h).1
  have ho : σ[i]? = some σ[i] := List.getElem?_eq_getElem li
  have q := R.slot i _ _ h ho
  exact ⟨by rw [ho]; exact congrArg some q.1, q.2⟩
theorem xd_there {K : PySem.W.Frag} {G H : Hp} {d : Option Addr} {f : Option (Str × D)} (e : Ex G H) (h : XD K G d f) : ∀ dx, d = some dx → ∃ fs, H dx = some (.xd fs) := fun dx q => by
  cases f with
  | none => rw [show d = none from h] at q; cases q
  | some p =>
    obtain ⟨a, v, h1, h2, _⟩ := h
    rw [q] at h1
    cases h1
    exact ⟨_, e _ _ h2⟩
section
variable {X : Cx} {W : WX} {pos p1 p2 p3 : Pos} {a : Addr} {d : Option Addr} {oe : Obj} {c : Str} {i : Nat} {x n : Str}
theorem isE_core {cv : Value} {v2 : V} {b : Bool} {e2 : Expr} (T : Kx X.K X.mg) (hc : c ∈ kNames) (hp : (a, oe) ∈ X.pn) (hz : Zc (.ref (He.ga X.K c)) d oe) (hf : ∃ vs, oe.data = .fields vs) (he2 : PE X e2 (tC v2)) (hv2 : ∀ u, RelV v2 u → u = cv)
    (hk : PySem.W.kitOne X.K (.ref (He.ga X.K c)) cv = some b) (hm : X.mg "isinstance" = none) (hb : bootBuiltins "isinstance" = some (.builtin "isinstance")) (hg : Gl X "isinstance") (hN : X.N[i]? = some x)
    (hv : Vis X.env.scope x) (hd : (x == ("__debug__" : Str)) = false) (hcd : (x == ("__classdict__" : Str)) = false)
    (hs : starEach (.Name x p1 :: [e2]) X.env = (false, eval (.Name x p1) X.env) :: starEach [e2] X.env) (hs2 : starEach [e2] X.env = (false, eval e2 X.env) :: starEach [] X.env) (hpl : (backTo pos (starEach [e2] X.env)).any (·.1) = false) :
    CE X W (.Call (.Name "isinstance" p3) [.Name x p1, e2] [] pos) (eIsE a d i b) := pe_imp (pe_callB (cr_isX (T.i c hc) hp hz hf) hg hm hb (pa_cons (pe_var hN hv hd hcd) (pa_cons he2 pa_nil hs2) hs) (by decide) (by decide) hs hpl) fun σ H Q h => by
  obtain ⟨env, G, R, h⟩ := h
  unfold eIsE at h
  split at h
  · rename_i a' d' f' q
    split at h
    · rename_i z
      obtain ⟨rfl, rfl⟩ := z
      obtain ⟨s1, s2⟩ := a_slot R q
      exact ⟨_, s1, v2, cv, b, rfl, hv2, hk, xd_there R.ex s2, h (.bl b) G H R (.bl b) (Fr.refl _ _ _ _)⟩
    · exact h.elim
  · exact h.elim
/-- isinstance(e, C), C a class of the program's own -/
theorem ce_isK (n : Str) (T : Kx X.K X.mg) (hc : c ∈ kNames) (hn : n ∈ kNames) (hp : (a, oe) ∈ X.pn) (hz : Zc (.ref (He.ga X.K c)) d oe) (hf : ∃ vs, oe.data = .fields vs) (hm : X.mg "isinstance" = none) (hgn : Gl X n := by rfl) (hdn : (n == ("__debug__" : Str)) = false := by decide) (hb : bootBuiltins "isinstance" = some (.builtin "isinstance") := by decide +kernel) (hg : Gl X "isinstance" := by rfl) (hN : X.N[i]? = some x := by rfl)
    (hv : Vis X.env.scope x := by first | exact Or.inl rfl | exact Or.inr (Or.inl rfl) | exact Or.inr (Or.inr rfl)) (hd : (x == ("__debug__" : Str)) = false := by decide) (hcd : (x == ("__classdict__" : Str)) = false := by decide)
    (hs : starEach (.Name x p1 :: [.Name n p2]) X.env = (false, eval (.Name x p1) X.env) :: starEach [.Name n p2] X.env := by rfl) (hs2 : starEach [.Name n p2] X.env = (false, eval (.Name n p2) X.env) :: starEach [] X.env := by rfl) (hpl : (backTo pos (starEach [.Name n p2] X.env)).any (·.1) = false := by rfl) :
    CE X W (.Call (.Name "isinstance" p3) [.Name x p1, .Name n p2] [] pos) (eIsE a d i (c == n)) :=
  isE_core (v2 := .ref (He.ga X.K n)) T hc hp hz hf (pe_glob hgn (T.g n hn) rfl hdn) (fun _ h => h) (T.kk c hc n hn) hm hb hg hN hv hd hcd hs hs2 hpl
/-- isinstance(e, ValueError) -/
theorem ce_isV (T : Kx X.K X.mg) (hc : c ∈ kNames) (hp : (a, oe) ∈ X.pn) (hz : Zc (.ref (He.ga X.K c)) d oe) (hf : ∃ vs, oe.data = .fields vs) (hm : X.mg "isinstance" = none) (hmv : X.mg "ValueError" = none) (hgn : Gl X "ValueError" := by rfl) (hb : bootBuiltins "isinstance" = some (.builtin "isinstance") := by decide +kernel) (hg : Gl X "isinstance" := by rfl) (hN : X.N[i]? = some x := by rfl)
    (hv : Vis X.env.scope x := by first | exact Or.inl rfl | exact Or.inr (Or.inl rfl) | exact Or.inr (Or.inr rfl)) (hd : (x == ("__debug__" : Str)) = false := by decide) (hcd : (x == ("__classdict__" : Str)) = false := by decide)
    (hs : starEach (.Name x p1 :: [.Name "ValueError" p2]) X.env = (false, eval (.Name x p1) X.env) :: starEach [.Name "ValueError" p2] X.env := by rfl) (hs2 : starEach [.Name "ValueError" p2] X.env = (false, eval (.Name "ValueError" p2) X.env) :: starEach [] X.env := by rfl) (hpl : (backTo pos (starEach [.Name "ValueError" p2] X.env)).any (·.1) = false := by rfl) :
    CE X W (.Call (.Name "isinstance" p3) [.Name x p1, .Name "ValueError" p2] [] pos) (eIsE a d i true) :=
  isE_core (v2 := .ty "ValueError") T hc hp hz hf (pe_bltn hgn hmv PyProof.Rows.Boot.«ValueError» rfl (by decide) (by decide)) (fun _ h => h) (T.kv c hc) hm hb hg hN hv hd hcd hs hs2 hpl
end
end DL
set_option Elab.async false
set_option linter.all false
set_option maxRecDepth 100000
set_option autoImplicit false
set_option maxHeartbeats 4000000
namespace DL
open PySem L2 L2H HotX PySem.Spec PyProof.Rows
abbrev DfX := Addr → Option Addr → Str → Df
abbrev DsX := Addr → Option Addr → Str → DS
/-- the def that tells an exception's classes -/
structure CalK (P : Program) (w : World) (K : PySem.W.Frag) (mg : Str → Option Value) (base : Heap) (k : Nat) (x : Str) (F : DfX) : Prop where
  ex : ∃ (fd : FuncData) (ps : List Str), ps.length = 1 ∧ Binds K fd ps [] ∧ ∀ (a : Addr) (oe : Obj) (d : Option Addr) (c : Str), c ∈ kNames → Zc (.ref (He.ga K c)) d oe → (∃ vs, oe.data = .fields vs) →
    FnX P w K mg base k (He.ga K x) fd ps (a, oe) (spD K mg 1 (F a d c))
  mg_ : mg x = some (.ref (He.ga K x))
  kp : PySem.W.keepIn K (.ref (He.ga K x)) = true
section
variable {P : Program} {w : World} {K : PySem.W.Frag} {mg : Str → Option Value} {base : Heap}
theorem calK_of {x : Str} {st : Stmt} {N ps : List Str} {k : Nat} {ds : DsX} (D : ∃ fd, FnT K x st fd) (g : mg x = some (.ref (He.ga K x))) (S : FnScope N ps (defScope st)) (h1 : ps.length = 1) (hps : ps.length ≤ N.length)
    (hb : ∀ (kV doc pm : Value) (an : Option Addr) (cdv ct : Value) (us : List Value), us.length = ps.length → bindArgs (PySem.W.fnOf x x (defArgs st) (defBody st) (defScope st) .none kV doc pm an cdv ct) ⟨us, []⟩ = pure (ps.zip us))
    (hbody : ∀ (cdv : Value) (A : Around) (outer : List Env) (s : Shared) (H : Hp) (a : Addr) (oe : Obj) (d : Option Addr) (c : Str), c ∈ kNames → Zc (.ref (He.ga K c)) d oe → (∃ vs, oe.data = .fields vs) → Hot1 A (a, oe) → RoomH k (A.deeper (PyProof.Rows.envOfC x (defScope st) s.heap.objs.size (He.ga K x) cdv)) →
      CSs (cxX P w K mg base N x (defScope st) (He.ga K x) cdv A outer s H (a, oe)) (fun _ _ _ _ => False) (defBody st) (ds a d c)) :
    CalK P w K mg base (k + 1) x fun a d c => bodyF N.length (ds a d c) := by
  obtain ⟨fd, F⟩ := D
  refine ⟨⟨fd, ps, h1, F.bindsN hb, fun a oe d c hc hz hf => ?_⟩, g, F.kp⟩
  obtain ⟨oc, od, dV, kV, doc, pm, an, cdv, ct, osl, rfl, lk, hcd, _, _⟩ := F.ex
  refine fnX_of lk hcd S (fun vs H Q E h => by rw [h1]; exact h.1) fun A outer s H vs Q hot hr h => ⟨_, hbody cdv A outer s H a oe d c hc hz hf hot hr, ?_⟩
  obtain ⟨hl, args, G, R, h⟩ := h
  have hn : vs.length ≤ N.length := by omega
  refine ⟨_, G, rel_start (N := N) R hn, ?_⟩
  unfold bodyF at h
  cases q : ds a d c (args ++ List.replicate (N.length - args.length) Sl.no) with
  | nx e =>
    rw [q] at h
    exact fun σ' G' H' R' F' => let ⟨a, b, _⟩ := ends_fr R hn R' F'; h .non G' H' a .non b
  | rt d e =>
    rw [q] at h
    exact fun v σ' G' H' R' dv F' => let ⟨a, b, _⟩ := ends_fr R hn R' F'; h v G' H' a dv b
  | rl d e =>
    rw [q] at h
    exact fun a vs' σ' G' H' R' h1 h2 h3 h4 dv F' => let ⟨r, b, c⟩ := ends_fr R hn R' F'; h a vs' G' H' r h1 h2 h3 (fun z => h4 (c a z)) dv b
  | ex x e =>
    rw [q] at h
    exact fun cls dd σ' G' H' xr R' F' => let ⟨a, b, _⟩ := ends_fr R hn R' F'; h cls dd G' H' xr a b
  | bk e => rw [q] at h; exact h.elim
  | ct e => rw [q] at h; exact h.elim
  | stuck => rw [q] at h; exact h.elim
end
/-- its function on data tells the class's word -/
def KindsF (F : DfX) : Prop := ∀ (a : Addr) (d : Option Addr) (f : Option (Str × D)) (c : Str), c ∈ kNames → F a d c [.a a d f] = .ok (.str (c ++ "+")) [.no]
theorem hot_suite {X : Cx} {a : Addr} {oe : Obj} {pn : List (Addr × Obj)} {cls : Value} {d : Option Addr} (hz : L2N.Zn cls d oe) (hf : ∃ vs, oe.data = .fields vs) : Hot1 (X.suite a ((a, oe) :: pn)).A (a, oe) :=
  let ⟨vs, e⟩ := hf
  ⟨rfl, vs, e, hz.2.2 vs e⟩
section
variable {X : Cx} {W : WX} {pos p1 p2 : Pos} {a : Addr} {d : Option Addr} {oe : Obj} {c : Str} {i k j : Nat} {x e : Str} {pn : List (Addr × Obj)} {F : DfX}
/-- _law_kinds(e) in the suite -/
theorem ce_kinds (C : CalK X.prog X.w X.K X.mg X.base j x F) (hF : KindsF F) (hc : c ∈ kNames) (hz : L2N.Zn (.ref (He.ga X.K c)) d oe) (hf : ∃ vs, oe.data = .fields vs) (hr : Room k X.A) (hjk : j ≤ k) (hg : Gl X x := by rfl) (hN : X.N[i]? = some e := by rfl)
    (hv : Vis X.env.scope e := by first | exact Or.inl rfl | exact Or.inr (Or.inl rfl) | exact Or.inr (Or.inr rfl)) (hd : (e == ("__debug__" : Str)) = false := by decide) (hcd : (e == ("__classdict__" : Str)) = false := by decide) (hdb : (x == ("__debug__" : Str)) = false := by decide)
    (hs : starEach [.Name e p1] X.env = (false, eval (.Name e p1) X.env) :: starEach [] X.env := by rfl) (hpl : (backTo pos (starEach [] X.env)).any (·.1) = false := by rfl) :
    CE (X.suite a ((a, oe) :: pn)) W (.Call (.Name x p2) [.Name e p1] [] pos) (eKinds a d c i) := by
  obtain ⟨fd, ps, h1, hb, Fn⟩ := C.ex
  have hr2 : RoomH j (X.suite a ((a, oe) :: pn)).A := ⟨(hr.mono hjk).dp, (hr.mono hjk).un⟩
  refine pe_imp (pe_callX (X := X.suite a ((a, oe) :: pn)) (Fn a oe d c hc hz.zc hf) hr2 (hot_suite hz hf) (List.mem_cons_self) hg C.mg_ C.kp hb (pa_cons (pe_var (i := i) hN hv hd hcd) pa_nil hs) hdb hs hpl) fun σ H Q h => ?_
  obtain ⟨env, G, R, h⟩ := h
  unfold eKinds at h
  split at h
  · rename_i a' d' f q
    split at h
    · rename_i z
      obtain ⟨rfl, rfl⟩ := z
      obtain ⟨s1, s2⟩ := a_slot R q
      refine ⟨_, s1, rfl, [.a a' d' f], G, ⟨R.ex, rfl, fun m s o e1 e2 => ?_, fun m1 m2 b ⟨s, o, e1, _, e2⟩ => ?_⟩, ?_⟩
      · match m, e1, e2 with
        | 0, e1, e2 => cases e1; cases e2; exact ⟨rfl, s2⟩
      · match m1, e1 with
        | 0, e1 => cases e1; exact e2.elim
      · show RunF X.K X.mg _ _ G H (F a' d' c [.a a' d' f]) Q _
        rw [hF a' d' f c hc]
        intro v G' H' R' dv F'
        have g : Grow G H G' H' := ⟨F'.gg, fun b o hb => F'.keep b o hb (fun ⟨m, s, o, e1, _, e2⟩ => by
          match m, e1 with
          | 0, e1 => cases e1; exact e2.elim), R'.ex, fun b hb => by
            rcases F'.fresh b hb with z | z | ⟨m, s, o, e1, _, e2⟩
            · exact .inl z
            · exact .inr z
            · match m, e1 with
              | 0, e1 => cases e1; exact e2.elim⟩
        exact h v G' H' (R.grow g) dv (g.fr R)
    · exact h.elim
  · exact h.elim
end
/-- a clause's text: the class's word, and the field's behind it -/
def kindD (x : Xc) : Option Str → Option D
  | none => some (.str (x.c ++ "+"))
  | some w => match x.f with
    | some (n, y) => if n = w then dAdd (.str (x.c ++ "+")) y else none
    | none => none
/-- what a clause assigns -/
def eHd (a : Addr) (d : Option Addr) (c : Str) (i : Nat) : Option Str → DE
  | none => eKinds a d c i
  | some w => eBin dAdd (eKinds a d c i) (eFld a d i w)
def tryH (iE iK : Nat) (x : Xc) : List (Str × Option Str) → DS
  | [] => fun e => .ex x e
  | (n, w) :: r => fun e => if mtC n x.c = true then (match setV iE .no e with
    | some e1 => match kindD x w with
      | some y => match setV iK (.v y) e1 with
        | some e2 => .nx e2
        | none => .stuck
      | none => .stuck
    | none => .stuck) else tryH iE iK x r e
def sTryK (ds : DS) (iE iK : Nat) (l : List (Str × Option Str)) : DS := fun env => match ds env with
  | .ex x e => if x.c ∈ kNames then tryH iE iK x l e else .stuck
  | r => r
inductive HsD (X : Cx) (nE : Str) (iE iK : Nat) : List ExceptHandler → List (Str × Option Str) → Prop
  | nil : HsD X nE iE iK [] []
  | cons {n : Str} {w : Option Str} {b₀ : Stmt} {su : List Stmt} {np pos' : Pos} {hds : List ExceptHandler} {l : List (Str × Option Str)} (hn : n ∈ ("SkinError" : Str) :: kNames) (hg : Gl X n) (hdb : (n == ("__debug__" : Str)) = false)
      (hsu : ∀ (c : Str), c ∈ kNames → mtC n c = true → ∀ (a : Addr) (oe : Obj) (d : Option Addr) (pn : List (Addr × Obj)), L2N.Zn (.ref (He.ga X.K c)) d oe → (∃ vs, oe.data = .fields vs) →
        CSs (X.suite a ((a, oe) :: pn)) WF (b₀ :: su) (sAsg (eHd a d c iE w) (gN iK))) (r : HsD X nE iE iK hds l) :
      HsD X nE iE iK (.ExceptHandler (some (.Name n np)) (some nE) (b₀ :: su) pos' :: hds) ((n, w) :: l)
section
variable {K : PySem.W.Frag} {env : DEnv} {σ : L2.St} {G H : Hp}
theorem own_set_no {i : Nat} {o : Option V} {a : Addr} {j : Nat} (h : OwnAt (env.set i .no) (σ.set i o) H j a) : OwnAt env σ H j a := by
  obtain ⟨s, o', e1, e3, e2⟩ := h
  by_cases z : i = j
  · subst z
    by_cases l : i < env.length
    · rw [List.getElem?_set_self l] at e1
      cases e1
      exact e2.elim
    · rw [List.getElem?_eq_none (by simpa using l)] at e1
      cases e1
  · rw [List.getElem?_set_ne z] at e1 e3
    exact ⟨s, o', e1, e3, e2⟩
theorem Rel.lose (R : Rel K env σ G H) (i : Nat) : Rel K (env.set i .no) (σ.set i none) G H := by
  refine ⟨R.ex, by rw [List.length_set, List.length_set]; exact R.len, fun j s o e1 e2 => ?_, fun j k a x y => R.dist j k a (own_set_no x) (own_set_no y)⟩
  by_cases z : i = j
  · subst z
    by_cases l : i < env.length
    · rw [List.getElem?_set_self l] at e1
      cases e1
      trivial
    · rw [List.getElem?_eq_none (by simpa using l)] at e1
      cases e1
  · rw [List.getElem?_set_ne z] at e1 e2
    exact R.slot j s o e1 e2
theorem Fr.lose (env : DEnv) (σ : L2.St) (G H : Hp) (i : Nat) : Fr env σ G H (env.set i .no) (σ.set i none) G H := by
  refine ⟨Ex.refl _, fun _ _ h _ => h, fun _ h => h, fun _ h => .inl h, fun a ⟨j, h⟩ => .inl ⟨j, own_set_no h⟩, fun j xs e n => ?_⟩
  by_cases z : i = j
  · subst z
    by_cases l : i < env.length
    · rw [List.getElem?_set_self l] at e
      cases e
      exact absurd rfl n
    · rw [List.getElem?_eq_none (by simpa using l)] at e
      cases e
  · rw [List.getElem?_set_ne z] at e
    exact ⟨List.getElem?_set_ne z, xs, e, rfl⟩
theorem set_around {α : Type} (l : List α) {i j : Nat} (a b c : α) (h : i ≠ j) : ((l.set i a).set j b).set i c = (l.set i c).set j b := by
  rw [List.set_comm _ _ (Ne.symm h), List.set_set]
theorem setV_no {i : Nat} {e e1 : DEnv} (h : setV i .no e = some e1) (s : Sl) : setV i s e = some (e.set i s) ∧ e1 = e.set i .no ∧ ∃ s0, e[i]? = some s0 ∧ ∀ xs, s0 ≠ .p xs := by
  obtain ⟨s0, a1, a2, rfl⟩ := setV_some h
  refine ⟨?_, rfl, s0, a1, a2⟩
  unfold setV
  rw [a1]
  cases s0 with
  | p xs => exact (a2 xs rfl).elim
  | _ => rfl
end
section
variable {X : Cx} {W : WX} {pos : Pos} {body : List Stmt} {hd0 : ExceptHandler} {hds : List ExceptHandler} {l : List (Str × Option Str)} {nE : Str} {iE iK : Nat} {db : DS}
def tsOf (K : PySem.W.Frag) (mg : Str → Option Value) (iE iK : Nat) (n : Str) (w : Option Str) : Addr → Value → Option Addr → TS := fun a cls d D σ H => ∃ c, c ∈ kNames ∧ mtC n c = true ∧ cls = .ref (He.ga K c) ∧ rdS K mg WF (sAsg (eHd a d c iE w) (gN iK)) D σ H
def hdOf (K : PySem.W.Frag) (mg : Str → Option Value) (iE iK : Nat) (p : Str × Option Str) : Hd := (.ref (He.ga K p.1), tsOf K mg iE iK p.1 p.2)
theorem glo_any (T : Kx X.K X.mg) {n : Str} (h : n ∈ ("SkinError" : Str) :: kNames) : X.mg n = some (.ref (He.ga X.K n)) := by
  rcases List.mem_cons.mp h with e | h
  · subst e; exact T.gs
  · exact T.g n h
theorem HsD.as (T : Kx X.K X.mg) : ∀ {hds : List ExceptHandler} {l : List (Str × Option Str)}, HsD X nE iE iK hds l → HdsAs X nE hds (l.map (hdOf X.K X.mg iE iK))
  | _, _, .nil => .nil
  | _, _, .cons hn hg hdb hsu r => .cons ⟨hg, hdb, .inl (glo_any T hn)⟩ (fun a oe cls d pn hz hf => ⟨fun pins s σ H D I h => by
      obtain ⟨c, hc, hm, rfl, h⟩ := h
      exact (hsu c hc hm a oe d pn hz hf).run pins s σ H D I h⟩) (r.as T)
theorem HsD.names : ∀ {hds : List ExceptHandler} {l : List (Str × Option Str)}, HsD X nE iE iK hds l → ∀ p ∈ l, p.1 ∈ ("SkinError" : Str) :: kNames
  | _, _, .nil, _, h => by cases h
  | _, _, .cons hn _ _ _ r, p, h => by
    rcases List.mem_cons.mp h with e | h
    · subst e; exact hn
    · exact r.names p h
/-- what a clause assigns, where it stands -/
theorem hd_runs {a : Addr} {d : Option Addr} {x : Xc} {w : Option Str} {y : D} {e : DEnv} (h : kindD x w = some y) (l : iE < e.length) : eHd a d x.c iE w (e.set iE (.a a d x.f)) = .ok y (e.set iE (.a a d x.f)) := by
  have q : (e.set iE (.a a d x.f))[iE]? = some (.a a d x.f) := List.getElem?_set_self l
  have k : eKinds a d x.c iE (e.set iE (.a a d x.f)) = .ok (.str (x.c ++ "+")) (e.set iE (.a a d x.f)) := by
    unfold eKinds
    rw [q]
    simp
  cases w with
  | none =>
    cases h
    exact k
  | some w =>
    unfold kindD at h
    cases qf : x.f with
    | none => rw [qf] at h; cases h
    | some p =>
      obtain ⟨n, z⟩ := p
      rw [qf] at h q k
      by_cases c : n = w
      · simp only [if_pos c] at h
        show (eKinds a d x.c iE _).bind _ = _
        rw [k]
        show (eFld a d iE w _).bind _ = _
        have f : eFld a d iE w (e.set iE (.a a d (some (n, z)))) = .ok z (e.set iE (.a a d (some (n, z)))) := by
          unfold eFld
          rw [q]
          simp [c]
        rw [f]
        show put (dAdd _ _) _ = _
        rw [h]
        rfl
      · simp only [if_neg c] at h
        cases h
theorem cs_tryK (T : Kx X.K X.mg) (tk : L2N.Takes X W) (nd : X.N.Nodup) (hb : ∀ (W' : WX) (pn : List (Addr × Obj)) (xe : Value → Shared → Prop), L2N.Takes (X.tr pn xe) W' → PassesOwn (model X.prog X.w) X.A X.env xe → CSs (X.tr pn xe) W' body db)
    (hh : HsD X nE iE iK (hd0 :: hds) l) (hne : iE ≠ iK := by decide) (hs : X.stack = X.env :: X.outer := by rfl) (hf : X.env.frame = some X.env.locals := by rfl) (hi : X.N[iE]? = some nE := by rfl) (hln : X.env.kindOf nE = some .local := by rfl) :
    CS X W (.Try body (hd0 :: hds) [] [] pos) (sTryK db iE iK l) := ps_imp (ps_tryAs (i := iE) (tb := fun W1 => rdS X.K X.mg W1 db) hs hf nd hi hln tk hb (hh.as T)) fun E σ H h => by
  obtain ⟨env, G, R, h⟩ := h
  refine ⟨env, G, R, ?_⟩
  unfold sTryK at h
  cases q : db env with
  | nx e => rw [q] at h; exact h
  | bk e => rw [q] at h; exact h
  | ct e => rw [q] at h; exact h
  | rt d e => rw [q] at h; exact h
  | rl d e => rw [q] at h; exact h
  | stuck => rw [q] at h; exact h
  | ex x e =>
    rw [q] at h
    intro cls dd σ' G' H' xr R' F'
    obtain ⟨hc, xf⟩ := xr
    by_cases hk : x.c ∈ kNames
    · have h : RunS X.K X.mg W env σ G H (tryH iE iK x l e) E := by
        simp only [if_pos hk] at h
        exact h
      rw [T.g x.c hk] at hc
      cases hc
      have nm := hh.names
      rename_i hold
      clear hh q hold
      induction l with
      | nil => exact h _ dd σ' G' H' ⟨T.g x.c hk, xf⟩ R' F'
      | cons p r ih =>
        obtain ⟨n, w⟩ := p
        refine ⟨mtC n x.c, T.xk x.c hk n (nm _ List.mem_cons_self), fun hm a ha => ?_, fun hm => ?_⟩
        · have h : RunS X.K X.mg W env σ G H (match setV iE .no e with
              | some e1 => match kindD x w with
                | some y => match setV iK (.v y) e1 with
                  | some e2 => .nx e2
                  | none => .stuck
                | none => .stuck
              | none => .stuck) E := by
            have z := h
            unfold tryH at z
            rw [if_pos hm] at z
            exact z
          cases q1 : setV iE .no e with
          | none => rw [q1] at h; exact h.elim
          | some e1 =>
            rw [q1] at h
            obtain ⟨b1, b2, s0, b3, b4⟩ := setV_no q1 (.a a dd x.f)
            subst b2
            cases q2 : kindD x w with
            | none => simp only [q2] at h; exact h.elim
            | some y =>
              simp only [q2] at h
              cases q3 : setV iK (.v y) (e.set iE .no) with
              | none => rw [q3] at h; exact h.elim
              | some e2 =>
                rw [q3] at h
                obtain ⟨s1, c1, c2, rfl⟩ := setV_some q3
                have li : iE < e.length := (List.getElem?_eq_some_iff.mp b3).1
                have c1' : (e.set iE (.a a dd x.f))[iK]? = some s1 := by
                  rw [List.getElem?_set_ne hne] at c1 ⊢
                  exact c1
                have R1 : Rel X.K (e.set iE (.a a dd x.f)) (σ'.set iE (some (.ref a))) G' H' := R'.set b3 b4 ⟨rfl, xf⟩ (fun _ z => nomatch z) fun z => nomatch z
                have F1 := Fr.set (s := .a a dd x.f) (v := .ref a) R' b3 b4 (fun _ z => nomatch z) rfl
                refine ⟨x.c, hk, hm, rfl, _, G', R1, ?_⟩
                show RunS X.K X.mg WF _ _ G' H' ((eHd a dd x.c iE w (e.set iE (.a a dd x.f))).fl fun d e1 => match gN iK d e1 with
                  | some e2 => .nx e2
                  | none => .stuck) _
                rw [hd_runs q2 li, fl_ok]
                have g : gN iK y (e.set iE (.a a dd x.f)) = some ((e.set iE (.a a dd x.f)).set iK (.v y)) := by
                  show setV iK (.v y) _ = _
                  unfold setV
                  rw [c1']
                  cases s1 with
                  | p xs => exact (c2 xs rfl).elim
                  | _ => rfl
                rw [g]
                intro σ2 G2 H2 R2 F2
                have R3 := R2.lose iE
                have F3 := Fr.lose ((e.set iE (.a a dd x.f)).set iK (.v y)) σ2 G2 H2 iE
                rw [set_around e _ _ _ hne] at R3 F3
                exact h _ G2 H2 R3 (F'.trans (F1.trans (F2.trans F3)))
        · refine ih (by
            have z := h
            unfold tryH at z
            rw [if_neg (by rw [hm]; exact Bool.false_ne_true)] at z
            exact z) fun p hp => nm p (List.mem_cons_of_mem _ hp)
    · simp only [if_neg hk] at h
      exact h.elim
end
end DL
set_option Elab.async false
set_option linter.all false
set_option maxRecDepth 100000
set_option autoImplicit false
set_option maxHeartbeats 4000000
namespace DL
open PySem L2 PySem.Spec PyProof.Rows
end DL
set_option Elab.async false
set_option linter.all false
set_option maxRecDepth 100000
set_option autoImplicit false
set_option maxHeartbeats 4000000
namespace DL
open PySem L2 PySem.Spec PyProof.Rows
end DL
set_option Elab.async false
set_option linter.all false
set_option maxRecDepth 100000
set_option autoImplicit false
set_option maxHeartbeats 8000000
namespace PySem
open PySem.W PySem.Calls PyProof.Rows PySem.Spec SrtO L2
end PySem
set_option Elab.async false
set_option linter.all false
set_option maxRecDepth 100000
set_option autoImplicit false
set_option maxHeartbeats 8000000
namespace PySem
open PySem.W PySem.Calls PyProof.Rows PySem.Spec SrtO L2
end PySem
namespace DL
open PySem L2 PySem.Spec PyProof.Rows
end DL
set_option Elab.async false
set_option linter.all false
set_option maxRecDepth 100000
set_option autoImplicit false
set_option maxHeartbeats 8000000
namespace DL
open PySem L2 PySem.Spec PyProof.Rows
end DL
set_option Elab.async false
set_option linter.all false
set_option maxRecDepth 100000
set_option autoImplicit false
set_option maxHeartbeats 8000000
namespace DL
open PySem L2 PySem.Spec PyProof.Rows
end DL
set_option Elab.async false
set_option linter.all false
set_option maxRecDepth 100000
set_option autoImplicit false
set_option maxHeartbeats 8000000
namespace DL
open PySem L2 PySem.Spec PyProof.Rows
def sgn (z : Str) : List Str := z.cps.toList.map fun c => ⟨#[c]⟩
def seqS : D → Option (List D)
  | .list xs => some xs
  | .tuple xs => some xs
  | .str z => some ((sgn z).map PyData.str)
  | _ => none
def iSeqS (de : DE) : DA := fun env => (de env).bind fun d e1 => put (seqS d) e1
theorem walk_str {K : PySem.W.Frag} {G : Hp} (z : Str) : WalkD K (Its z) ((sgn z).map PyData.str) G := fun i G' H' e1 e2 => by
  have hl : ((sgn z).map PyData.str).length = z.cps.size := by simp [sgn]
  refine ⟨fun d hd => ?_, fun hl' => by rw [hl] at hl'; exact hl'⟩
  have h1 : i < z.cps.size := by rw [← hl]; exact (List.getElem?_eq_some_iff.mp hd).1
  refine ⟨h1, fun x H'' ⟨e, c, hc, y⟩ => ?_⟩
  subst e
  have ed : d = .str ⟨#[c]⟩ := by
    simp only [sgn, List.getElem?_map, Array.getElem?_toList, hc, Option.map_some, Option.some.injEq] at hd
    exact hd.symm
  subst ed
  rw [y]
  exact ⟨G', Grow.refl e2, .str _⟩
section
variable {X : Cx} {W : WX} {pos : Pos} {tg e : Expr} {de : DE}
theorem ci_seqS (he : CE X W e de) : CI X W tg e (iSeqS de) := pi_imp (pi_or (ci_seq he) (pi_str he)) fun σ H R h => by
  obtain ⟨env, G, R0, h⟩ := h
  have h' : RunI X.K X.mg W env σ G H ((de env).bind fun d e1 => put (seqS d) e1) R := h
  cases q : de env with
  | stuck => rw [q] at h'; exact h'.elim
  | ex x e => rw [q] at h'; exact .inr ⟨env, G, R0, by rw [q]; exact h'⟩
  | ok d e1 =>
    rw [q] at h'
    cases d with
    | list xs =>
      refine .inl ⟨env, G, R0, ?_⟩
      unfold iSeq
      rw [q]
      exact h'
    | tuple xs =>
      refine .inl ⟨env, G, R0, ?_⟩
      unfold iSeq
      rw [q]
      exact h'
    | str z =>
      refine .inr ⟨env, G, R0, ?_⟩
      rw [q]
      intro v G1 H1 R1 dv F1
      cases dv
      exact ⟨z, rfl, h' _ G1 H1 R1 (walk_str z) F1⟩
    | none => exact h'.elim
    | bool b => exact h'.elim
    | int b => exact h'.elim
    | dict b => exact h'.elim
end
def inStr (x z : Str) : Option Bool := match x.cps.toList with
  | [c] => some (decide (c ∈ z.cps.toList))
  | _ => none
theorem inStr_some {x z : Str} {b : Bool} (h : inStr x z = some b) : ∃ c, x = ⟨#[c]⟩ ∧ b = decide (c ∈ z.cps.toList) := by
  unfold inStr at h
  split at h
  · rename_i c q
    refine ⟨c, ?_, (Option.some.inj h).symm⟩
    apply Str.ext'
    apply Array.toList_inj.mp
    rw [q]
  · cases h
def dInS (x s : D) : Option D := match s with
  | .str z => match x with
    | .str y => (inStr y z).map PyData.bool
    | _ => none
  | s => dIn x s
def dNotInS (x s : D) : Option D := match s with
  | .str z => match x with
    | .str y => (inStr y z).map fun b => PyData.bool (!b)
    | _ => none
  | s => dNotIn x s
def rInSt (neg : Bool) : R2 := fun x y H Q => ∃ (c : Nat) (z : Str), x = .str ⟨#[c]⟩ ∧ y = .str z ∧ Q (.bl (if neg then !decide (c ∈ z.cps.toList) else decide (c ∈ z.cps.toList))) H
section
variable {X : Cx} {K : PySem.W.Frag}
theorem op_inA : OpR X (compareOp .In) (fun x y H Q => rIn X.K false x y H Q ∨ rInSt false x y H Q) := op_in_seq.or op_in_sign
theorem op_notInA : OpR X (compareOp .NotIn) (fun x y H Q => rIn X.K true x y H Q ∨ rInSt true x y H Q) := op_notIn_seq.or op_notIn_sign
theorem od_inS : OpD K (fun x y H Q => rIn K false x y H Q ∨ rInSt false x y H Q) dInS := fun x y d e z G H Q hx hy ex h k => by
  by_cases hs : ∃ t, e = .str t
  · obtain ⟨t, rfl⟩ := hs
    right
    cases hy
    cases d with
    | str u =>
      cases hx
      have h' : (inStr u t).map PyData.bool = some z := h
      cases q : inStr u t with
      | none => rw [q] at h'; cases h'
      | some b =>
        rw [q] at h'
        cases h'
        obtain ⟨c, rfl, rfl⟩ := inStr_some q
        exact ⟨c, t, rfl, rfl, k _ G H (.bl _) (Grow.refl ex)⟩
    | _ => cases h
  · left
    have h' : dIn d e = some z := by
      cases e <;> first | exact h | exact absurd ⟨_, rfl⟩ hs
    exact od_in x y d e z G H Q hx hy ex h' k
theorem od_notInS : OpD K (fun x y H Q => rIn K true x y H Q ∨ rInSt true x y H Q) dNotInS := fun x y d e z G H Q hx hy ex h k => by
  by_cases hs : ∃ t, e = .str t
  · obtain ⟨t, rfl⟩ := hs
    right
    cases hy
    cases d with
    | str u =>
      cases hx
      have h' : (inStr u t).map (fun b => PyData.bool (!b)) = some z := h
      cases q : inStr u t with
      | none => rw [q] at h'; cases h'
      | some b =>
        rw [q] at h'
        cases h'
        obtain ⟨c, rfl, rfl⟩ := inStr_some q
        exact ⟨c, t, rfl, rfl, k _ G H (.bl _) (Grow.refl ex)⟩
    | _ => cases h
  · left
    have h' : dNotIn d e = some z := by
      cases e <;> first | exact h | exact absurd ⟨_, rfl⟩ hs
    exact od_notIn x y d e z G H Q hx hy ex h' k
def mulStr (x : Str) (n : Int) : Option Str := if x.length ≤ 100 ∧ 0 ≤ n ∧ n ≤ 1000 then some (Txt.mul x n) else none
def dMulS (a b : D) : Option D := match a, b with
  | .str x, .int n => (mulStr x n).map PyData.str
  | a, b => dMul a b
def rMulS : R2 := fun x y H Q => ∃ u n, x = .str u ∧ y = .int n ∧ u.length ≤ 100 ∧ 0 ≤ n ∧ n ≤ 1000 ∧ Q (.str (Txt.mul u n)) H
theorem mulOk_small {u : Str} {n : Int} (h1 : u.length ≤ 100) (h2 : 0 ≤ n) (h3 : n ≤ 1000) : MulOk u n := by
  refine ⟨?_, fun h4 _ => ?_, fun h4 _ => ?_⟩
  · rw [Bool.or_eq_false_iff, decide_eq_false_iff_not, decide_eq_false_iff_not]
    constructor <;> omega
  · have h5 : (0 : Int) < n := by omega
    have h6 : n ≤ (2 ^ 63 - 1) / 100000 := by omega
    have h7 : (100000 : Int) ≤ (2 ^ 63 - 1) / n := by
      rw [Int.le_ediv_iff_mul_le h5]
      have : 100000 * n ≤ 100000 * 1000 := Int.mul_le_mul_of_nonneg_left h3 (by decide)
      omega
    omega
  · obtain ⟨m, rfl⟩ := Int.eq_ofNat_of_zero_le h2
    have hm : m ≤ 1000 := by omega
    have : u.length * m ≤ 100 * 1000 := Nat.mul_le_mul h1 hm
    rw [Int.toNat_natCast]
    unfold Builtin.Str.tooLong
    rw [decide_eq_false_iff_not]
    have := lim_size (n := u.length * m) (by omega)
    omega
theorem op_mulSt : OpR X (binaryOp .Mult) rMulS := by
  intro pins s σ H x y v u Q I rx ry h
  obtain ⟨a, n, rfl, rfl, h1, h2, h3, q⟩ := h
  obtain ⟨t, rfl⟩ := rx
  obtain ⟨t', rfl⟩ := ry
  exact SB.mul (mulOk_small h1 h2 h3) fun t2 k => ⟨.str (Txt.mul a n), H, I.tok _, ⟨t2, rfl⟩, q⟩
theorem op_mulAS : OpR X (binaryOp .Mult) (fun x y H Q => rMulA x y H Q ∨ rMulS x y H Q) := op_mulA.or op_mulSt
theorem od_mulS : OpD K (fun x y H Q => rMulA x y H Q ∨ rMulS x y H Q) dMulS := fun x y d e z G H Q hx hy ex h k => by
  by_cases hs : ∃ u n, d = .str u ∧ e = .int n
  · obtain ⟨u, n, rfl, rfl⟩ := hs
    right
    cases hx
    cases hy
    have h' : (mulStr u n).map PyData.str = some z := h
    unfold mulStr at h'
    by_cases c : u.length ≤ 100 ∧ 0 ≤ n ∧ n ≤ 1000
    · rw [if_pos c] at h'
      cases h'
      exact ⟨u, n, rfl, rfl, c.1, c.2.1, c.2.2, k _ G H (.str _) (Grow.refl ex)⟩
    · rw [if_neg c] at h'
      cases h'
  · left
    have h' : dMul d e = some z := by
      cases d <;> first | exact h | (cases e <;> first | exact h | exact absurd ⟨_, _, rfl, rfl⟩ hs)
    exact od_mul x y d e z G H Q hx hy ex h' k
end
end DL
set_option Elab.async false
set_option linter.all false
set_option maxRecDepth 100000
set_option autoImplicit false
set_option maxHeartbeats 8000000
namespace DL
open PySem L2 PySem.Spec PyProof.Rows
end DL
set_option Elab.async false
set_option linter.all false
set_option maxRecDepth 100000
set_option autoImplicit false
namespace DL
open PySem L2 PySem.Spec PyProof.Rows
def repT (xs : List D) (n : Int) : Option D := if xs ≠ [] ∧ 2 ≤ n ∧ n ≤ 1000 ∧ xs.length ≤ 1000 then some (.tuple (List.replicate n.toNat xs).flatten) else none
def dMulT (a b : D) : Option D := match a, b with
  | .tuple xs, .int n => repT xs n
  | a, b => dMulS a b
def rRepF (K : PySem.W.Frag) : R2 := fun x y H Q => ∃ l k xs, x = .ref l ∧ y = .int k ∧ SqT K H l xs ∧ xs ≠ [] ∧ 2 ≤ k ∧ k ≤ 1000 ∧ xs.length ≤ 1000 ∧ ∀ (p : Addr) (o : Obj), H p = none → o.dict = none → Q (.ref p) (upd H p (.frz o (.tup (List.replicate k.toNat xs).flatten)))
theorem many_ok {a b : Nat} (h1 : a ≤ 1000) (h2 : b ≤ 1000) : a * b ≤ sizeLine := by
  have : a * b ≤ 1000 * 1000 := Nat.mul_le_mul h1 h2
  have e : sizeLine = _ := sizeLine_eq
  omega
section
variable {X : Cx} {K : PySem.W.Frag}
theorem op_repF : OpR X (binaryOp .Mult) (rRepF X.K) := by
  intro pins s σ H x y v u Q I rx ry hh
  obtain ⟨l, k, xs, rfl, rfl, hT, hne, h1, h2, hz, hq⟩ := hh
  cases rx
  obtain ⟨tk, rfl⟩ := ry
  obtain ⟨its, rr, ⟨⟨kl, dd, dat, sl⟩, ho, e1, n, e2⟩, _⟩ := I.tuple hT
  simp only at e1 e2
  subst e1 e2
  have le : its.length = xs.length := rr.length.symm
  have ne : its.toArray.isEmpty = false := by
    cases its with
    | nil => exact absurd (List.eq_nil_of_length_eq_zero le.symm) hne
    | cons _ _ => rfl
  have sz : its.toArray.size = xs.length := List.size_toArray.trans le
  have mm : ((its.toArray.size : Nat) : Int) * k ≤ 1000000 := by
    rw [sz]
    have := Int.mul_le_mul_of_nonneg_right (show ((xs.length : Nat) : Int) ≤ 1000 by omega) (show 0 ≤ k by omega)
    omega
  have fl : (List.replicate k.toNat its).flatten.length ≤ sizeLine := by
    rw [PyProof.Rows.lm_len_rep_flat, le]
    exact many_ok (by omega) hz
  have fx : (List.replicate k.toNat xs).flatten.length ≤ sizeLine := by
    rw [PyProof.Rows.lm_len_rep_flat]
    exact many_ok (by omega) hz
  refine wpAny_binaryOp_repeat_ref (T := "tuple") (U := "int") (by decide) ⟨_, ho, rfl⟩ (fun z => typeIs_int z k tk) noFill_tuple_mul F.fills_int_mul F.slot_int_rmul repeat_tuple F.slot_int_index.lookup ?_
  refine call_meets F.slot_int_rmul (typeIs_int s k tk) F.entry_int_rmul (F.args_int_rmul_2 _ _) (int_rmul_tuple k tk l its.toArray n dd sl) ⟨ho, rfl, ⟨_, ho, rfl⟩, ?_⟩
  refine call_meets F.slot_tuple_mul ⟨_, ho, rfl⟩ F.entry_tuple_mul (F.args_tuple_mul_2 _ _) (tuple_mulW l its.toArray n dd sl k tk ?_ ?_ ?_ (by omega) ?_ ?_) ⟨ho, ?_⟩
  · rw [Bool.or_eq_false_iff, decide_eq_false_iff_not, decide_eq_false_iff_not]
    constructor <;> omega
  · rw [ne]
    exact beq_eq_false_iff_ne.mpr (by omega)
  · rw [ne, Bool.or_false]
    exact decide_eq_false (by omega)
  · unfold Builtin.Tuple.tupleTooMany
    have e : sizeLine = _ := sizeLine_eq
    exact decide_eq_false (by omega)
  · rw [size_rep]
    exact fl
  · rw [size_rep]
    refine ⟨.ref s.heap.objs.size, _, I.laid (t' := s.toks) (o := .frz { cls := .type "tuple", data := .seq (List.replicate k.toNat its).flatten.toArray } (.tup (List.replicate k.toNat xs).flatten)) (fun b ob q => Heap.get?_push_of_some _ q) (Nat.le_refl _) ?_, rfl, hq _ _ (I.hok.fresh (Nat.le_refl _)) rfl⟩
    exact ⟨Heap.get?_push_size _ rfl, fx, _, rr.rep k.toNat, IsTup.new _ _⟩
theorem DvAll.rep {G : Hp} {vs : List V} {ds : List D} (h : DvAll K G vs ds) : ∀ m, DvAll K G (List.replicate m vs).flatten (List.replicate m ds).flatten
  | 0 => .nil
  | m + 1 => by
    rw [List.replicate_succ, List.replicate_succ, List.flatten_cons, List.flatten_cons]
    exact h.append (DvAll.rep h m)
def rMulT (K : PySem.W.Frag) : R2 := fun x y H Q => (rMulA x y H Q ∨ rMulS x y H Q) ∨ rRepF K x y H Q
theorem op_mulAT : OpR X (binaryOp .Mult) (rMulT X.K) := op_mulAS.or op_repF
theorem od_mulT : OpD K (rMulT K) dMulT := fun x y d e z G H Q hx hy ex h k => by
  by_cases hs : ∃ u n, d = .tuple u ∧ e = .int n
  · obtain ⟨u, n, rfl, rfl⟩ := hs
    right
    cases hy
    have h' : repT u n = some z := h
    unfold repT at h'
    by_cases c : u ≠ [] ∧ 2 ≤ n ∧ n ≤ 1000 ∧ u.length ≤ 1000
    · rw [if_pos c] at h'
      cases h'
      cases hx with
      | @tup a vs _ h1 h2 =>
        refine ⟨a, n, vs, rfl, rfl, (ex.n h1).t, fun q => ?_, c.2.1, c.2.2.1, by rw [h2.length]; exact c.2.2.2, fun p o hp hd => ?_⟩
        · subst q
          cases h2
          exact c.1 rfl
        · have g : Grow G H (upd G p (.frz o (.tup (List.replicate n.toNat vs).flatten))) (upd H p (.frz o (.tup (List.replicate n.toNat vs).flatten))) := Grow.one ex hp
          exact k _ _ _ (.tup (.inl ⟨o, upd_same, hd⟩) ((h2.rep n.toNat).up g.gg)) g
    · rw [if_neg c] at h'
      cases h'
  · left
    have h' : dMulS d e = some z := by
      cases d <;> first | exact h | (cases e <;> first | exact h | exact absurd ⟨_, _, rfl, rfl⟩ hs)
    exact od_mulS x y d e z G H Q hx hy ex h' k
end
end DL
set_option Elab.async false
set_option linter.all false
set_option maxRecDepth 100000
set_option autoImplicit false
namespace DL
open PySem L2 PySem.Spec PyProof.Rows
def mergeK (kvs more : List (Key × V)) : List (Key × V) := more.foldl (fun acc p => putK acc p.1 p.2) kvs
end DL
set_option Elab.async false
set_option linter.all false
set_option maxRecDepth 100000
set_option autoImplicit false
namespace DL
open PySem L2 PySem.Spec PyProof.Rows
end DL
set_option Elab.async false
set_option linter.all false
set_option maxRecDepth 100000
set_option autoImplicit false
namespace DL
open PySem L2
/-- a def that makes a dict, by data: the dict, what comes back -/
abbrev DfM := DEnv → Option (List (D × D) × DEnv)
section
variable (K : PySem.W.Frag) (mg : Str → Option Value)
def RunFM (args : DEnv) (σ : L2.St) (G H : Hp) (r : Option (List (D × D) × DEnv)) (Q : VK) : Prop := match r with
  | some (kvs, outs) => ∀ a ws G' H', Rel K outs σ G' H' → H' a = some (.dK ws) → G' a = none → H a = none → ¬ Own outs σ H' a → DvKv K G' ws kvs → Fr args σ G H outs σ G' H' → Q (.ref a) H'
  | none => False
def spM (np : Nat) (F : DfM) : L2.Sp := fun vs H Q E => vs.length = np ∧ ∃ args G, Rel K args (vs.map some) G H ∧ RunFM K args (vs.map some) G H (F args) Q
end
/-- what a caller knows of such a def -/
structure CalM (P : Program) (w : World) (K : PySem.W.Frag) (mg : Str → Option Value) (base : Heap) (k : Nat) (x : Str) (np : Nat) (F : DfM) : Prop where
  ex : ∃ (fd : FuncData) (ps : List Str), ps.length = np ∧ FnOk P w K mg base (L2N.CX P w) k (He.ga K x) fd ps (spM K ps.length F) ∧ Binds K fd ps []
  mg_ : mg x = some (.ref (He.ga K x))
  kp : PySem.W.keepIn K (.ref (He.ga K x)) = true
section
variable {P : Program} {w : World} {K : PySem.W.Frag} {mg : Str → Option Value} {base : Heap}
theorem CalM.mono {j k : Nat} {x : Str} {np : Nat} {F : DfM} (C : CalM P w K mg base j x np F) (h : j ≤ k) : CalM P w K mg base k x np F :=
  let ⟨fd, ps, e, f, b⟩ := C.ex
  ⟨⟨fd, ps, e, f.mono h, b⟩, C.mg_, C.kp⟩
end
section
variable {X : Cx} {W : WX} {pos p : Pos} {e : Expr} {es : List Expr} {da : DAr} {j k np : Nat} {F : DfM} {x : Str}
theorem RunM.shift {K : PySem.W.Frag} {mg : Str → Option Value} {env env1 : DEnv} {σ : L2.St} {G H G1 H1 : Hp} {r : Rs (List (D × D))} {Q : VK} (h : RunM K mg W env σ G H r Q) (f : Fr env σ G H env1 σ G1 H1) : RunM K mg W env1 σ G1 H1 r Q := by
  cases r with
  | stuck => exact h
  | ex x e => exact RunX.shift h f
  | ok ds e2 => exact fun p vs G' H' R' h1 h2 h3 h4 dv F => h p vs G' H' R' h1 h2 (f.dom p h3) h4 dv (f.trans F)
end
end DL
set_option Elab.async false
set_option linter.all false
set_option maxRecDepth 100000
set_option autoImplicit false
set_option maxHeartbeats 4000000
namespace DL
open PySem L2 PySem.Spec PyProof.Rows
abbrev Rows := List (List Int)
/-- lists within a list, apart from one another -/
structure NL (H : Hp) (r : Addr) (bs : List Addr) (rows : Rows) : Prop where
  out : H r = some (.lst (bs.map V.ref))
  len : bs.length = rows.length
  inn : ∀ (j : Nat) (b : Addr) (row : List Int), bs[j]? = some b → rows[j]? = some row → H b = some (.lst (row.map V.int))
  nd : (r :: bs).Nodup
theorem NL.all {H : Hp} {r : Addr} {bs : List Addr} {rows : Rows} (h : NL H r bs rows) {a : Addr} (ha : a ∈ r :: bs) : H a ≠ none := by
  rcases List.mem_cons.1 ha with rfl | ha
  · rw [h.out]; exact fun z => by cases z
  · obtain ⟨j, hj, e⟩ := List.getElem_of_mem ha
    have hj2 : j < rows.length := by rw [← h.len]; exact hj
    rw [← e, h.inn j _ _ (List.getElem?_eq_getElem hj) (List.getElem?_eq_getElem hj2)]
    exact fun z => by cases z
theorem NL.keep {H H' : Hp} {r : Addr} {bs : List Addr} {rows : Rows} (h : NL H r bs rows) (k : ∀ a, a ∈ r :: bs → H' a = H a) : NL H' r bs rows :=
  ⟨by rw [k r (List.mem_cons_self ..)]; exact h.out, h.len, fun j b row hb hr => by rw [k b (List.mem_cons_of_mem _ (List.mem_of_getElem? hb))]; exact h.inn j b row hb hr, h.nd⟩
def putRows : Rows → Int → Int → Int → Option Rows
  | [], _, _, _ => none
  | row :: rows, name, new, more => if name ∈ row then (if row.length ≤ 100000 ∧ 0 ≤ (row.idxOf name : Int) + more ∧ (row.idxOf name : Int) + more ≤ 200000 then some ((row.take ((row.idxOf name : Int) + more).toNat ++ [new] ++ row.drop ((row.idxOf name : Int) + more).toNat) :: rows) else none)
    else (putRows rows name new more).map (row :: ·)
def spP : L2.Sp := fun vs H Q _ => ∃ r bs rows name new more rows', vs = [.ref r, .int name, .int new, .int more] ∧ NL H r bs rows ∧ putRows rows name new more = some rows' ∧ ∀ H', NL H' r bs rows' → (∀ a, a ∉ bs → H' a = H a) → Q .non H'
structure CalP (P : Program) (w : World) (K : PySem.W.Frag) (mg : Str → Option Value) (base : Heap) (k : Nat) (x : Str) : Prop where
  ex : ∃ (fd : FuncData) (ps : List Str), ps.length = 4 ∧ FnOk P w K mg base (L2N.CX P w) k (He.ga K x) fd ps spP ∧ Binds K fd ps []
  mg_ : mg x = some (.ref (He.ga K x))
  kp : PySem.W.keepIn K (.ref (He.ga K x)) = true
end DL
namespace DL
open PySem L2 PySem.Spec PyProof.Rows
section
variable {P : Program} {w : World} {K : PySem.W.Frag} {mg : Str → Option Value} {base : Heap}
theorem CalP.mono {j k : Nat} {x : Str} (C : CalP P w K mg base j x) (h : j ≤ k) : CalP P w K mg base k x :=
  let ⟨fd, ps, e, f, b⟩ := C.ex
  ⟨⟨fd, ps, e, f.mono h, b⟩, C.mg_, C.kp⟩
end
/-- a def that makes lists within a list -/
abbrev DfN := DEnv → Option (Rows × DEnv)
section
variable (K : PySem.W.Frag)
def spN (np : Nat) (F : DfN) : L2.Sp := fun vs H Q _ => vs.length = np ∧ ∃ args G, Rel K args (vs.map some) G H ∧ match F args with
  | some (rows, outs) => ∀ a bs G' H', Rel K outs (vs.map some) G' H' → NL H' a bs rows → (∀ z, z ∈ a :: bs → H z = none ∧ G' z = none ∧ ¬ Own outs (vs.map some) H' z) → Fr args (vs.map some) G H outs (vs.map some) G' H' → Q (.ref a) H'
  | none => False
end
structure CalN (P : Program) (w : World) (K : PySem.W.Frag) (mg : Str → Option Value) (base : Heap) (k : Nat) (x : Str) (np : Nat) (F : DfN) : Prop where
  ex : ∃ (fd : FuncData) (ps : List Str), ps.length = np ∧ FnOk P w K mg base (L2N.CX P w) k (He.ga K x) fd ps (spN K ps.length F) ∧ Binds K fd ps []
  mg_ : mg x = some (.ref (He.ga K x))
  kp : PySem.W.keepIn K (.ref (He.ga K x)) = true
section
variable {P : Program} {w : World} {K : PySem.W.Frag} {mg : Str → Option Value} {base : Heap}
theorem CalN.mono {j k : Nat} {x : Str} {np : Nat} {F : DfN} (C : CalN P w K mg base j x np F) (h : j ≤ k) : CalN P w K mg base k x np F :=
  let ⟨fd, ps, e, f, b⟩ := C.ex
  ⟨⟨fd, ps, e, f.mono h, b⟩, C.mg_, C.kp⟩
end
end DL
set_option Elab.async false
set_option linter.all false
set_option maxRecDepth 100000
set_option autoImplicit false
set_option maxHeartbeats 4000000
namespace DL
open PySem L2
/-- the lists are the def's own, and new -/
def NS (H0 G H : Hp) (env : DEnv) (σ : L2.St) (r : Addr) (rows : Rows) : Prop := ∃ bs, NL H r bs rows ∧ ∀ z, z ∈ r :: bs → H0 z = none ∧ G z = none ∧ ¬ Own env σ H z
theorem NS.fr {H0 G H G' H' : Hp} {env env' : DEnv} {σ σ' : L2.St} {r : Addr} {rows : Rows} (h : NS H0 G H env σ r rows) (F : Fr env σ G H env' σ' G' H') : NS H0 G' H' env' σ' r rows := by
  obtain ⟨bs, nl, k⟩ := h
  have kp : ∀ z, z ∈ r :: bs → H' z = H z := fun z hz => by
    cases q : H z with
    | none => exact absurd q (nl.all hz)
    | some o => exact F.keep z o q (k z hz).2.2
  refine ⟨bs, nl.keep kp, fun z hz => ⟨(k z hz).1, ?_, fun o => ?_⟩⟩
  · cases q : G' z with
    | none => rfl
    | some o =>
      rcases F.fresh z (by rw [q]; exact fun w => by cases w) with w | w | w
      · exact absurd (k z hz).2.1 w
      · exact absurd w (nl.all hz)
      · exact absurd w (k z hz).2.2
  · rcases F.own z o with w | w
    · exact (k z hz).2.2 w
    · exact nl.all hz w
end DL
set_option Elab.async false
set_option linter.all false
set_option maxRecDepth 100000
set_option autoImplicit false
set_option maxHeartbeats 4000000
namespace PySem
open PySem.W PySem.Calls PyProof.Rows PySem.Spec SrtO L2
end PySem
namespace DL
open PySem L2 PySem.Spec PyProof.Rows
end DL
set_option Elab.async false
set_option linter.all false
set_option maxRecDepth 100000
set_option autoImplicit false
set_option maxHeartbeats 4000000
namespace DL
open PySem L2 PySem.Spec PyProof.Rows
/-- rows that stand still, and one new row of the def's own behind them -/
structure PL (K : PySem.W.Frag) (H0 G H : Hp) (env : DEnv) (σ : L2.St) (r b : Addr) (vs : List V) (rs : List D) (acc : List Int) : Prop where
  out : H r = some (.lst (vs ++ [.ref b]))
  inn : H b = some (.lst (acc.map V.int))
  dv : DvAll K G vs rs
  ne : r ≠ b
  new : ∀ z, z ∈ [r, b] → H0 z = none ∧ G z = none ∧ ¬ Own env σ H z
theorem PL.fr {K : PySem.W.Frag} {H0 G H G' H' : Hp} {env env' : DEnv} {σ σ' : L2.St} {r b : Addr} {vs : List V} {rs : List D} {acc : List Int} (h : PL K H0 G H env σ r b vs rs acc) (F : Fr env σ G H env' σ' G' H') : PL K H0 G' H' env' σ' r b vs rs acc := by
  have hr := h.new r (by simp)
  have hb := h.new b (by simp)
  have kr := F.keep r _ h.out hr.2.2
  have kb := F.keep b _ h.inn hb.2.2
  have all : ∀ z, z ∈ [r, b] → H z ≠ none := fun z hz => by
    simp only [List.mem_cons, List.not_mem_nil, or_false] at hz
    rcases hz with rfl | rfl
    · rw [h.out]; exact fun w => nomatch w
    · rw [h.inn]; exact fun w => nomatch w
  refine ⟨kr, kb, h.dv.up F.gg, h.ne, fun z hz => ⟨(h.new z hz).1, ?_, fun o => ?_⟩⟩
  · cases q : G' z with
    | none => rfl
    | some o =>
      rcases F.fresh z (by rw [q]; exact fun w => by cases w) with w | w | w
      · exact absurd (h.new z hz).2.1 w
      · exact absurd w (all z hz)
      · exact absurd w (h.new z hz).2.2
  · rcases F.own z o with w | w
    · exact (h.new z hz).2.2 w
    · exact all z hz w
end DL
set_option Elab.async false
set_option linter.all false
set_option maxRecDepth 100000
set_option autoImplicit false
set_option maxHeartbeats 4000000
namespace DL
open PySem L2 PySem.Spec PyProof.Rows
end DL
set_option Elab.async false
set_option linter.all false
set_option maxRecDepth 100000
set_option autoImplicit false
set_option maxHeartbeats 4000000
namespace DL
open PySem L2 PySem.Spec PyProof.Rows
end DL
set_option Elab.async false
set_option linter.all false
set_option maxRecDepth 100000
set_option autoImplicit false
set_option maxHeartbeats 4000000
namespace DL
open PySem L2 PySem.Spec PyProof.Rows
end DL
set_option Elab.async false
set_option linter.all false
set_option maxRecDepth 100000
set_option autoImplicit false
set_option maxHeartbeats 8000000
namespace PySem
open PySem.W PySem.Calls PyProof.Rows PySem.Spec SrtO L2 HT
end PySem
set_option Elab.async false
set_option linter.all false
set_option maxRecDepth 100000
set_option autoImplicit false
set_option maxHeartbeats 4000000
namespace DL
open PySem L2 PySem.Spec PyProof.Rows
end DL
namespace DL
open PySem L2 PySem.Spec PyProof.Rows
end DL
set_option Elab.async false
set_option linter.all false
set_option maxRecDepth 100000
set_option autoImplicit false
set_option maxHeartbeats 8000000
namespace PySem
open PySem.W PySem.Calls PyProof.Rows PySem.Spec SrtO L2
end PySem
namespace DL
open PySem L2 PySem.Spec PyProof.Rows
end DL
set_option Elab.async false
set_option linter.all false
set_option maxRecDepth 100000
set_option autoImplicit false
namespace DL
open PySem L2
end DL
set_option Elab.async false
set_option linter.all false
set_option maxRecDepth 100000
set_option autoImplicit false
namespace DL
open PySem L2 PySem.Spec PyProof.Rows
/-- either of two readings -/
theorem pe_or {X : Cx} {e : Expr} {t u : TE} (h : PE X e t) (g : PE X e u) : PE X e fun σ H Q => t σ H Q ∨ u σ H Q := ⟨fun pins s σ H Q I w => w.elim (h.run pins s σ H Q I) (g.run pins s σ H Q I)⟩
end DL
set_option Elab.async false
set_option linter.all false
set_option maxRecDepth 100000
set_option autoImplicit false
set_option maxHeartbeats 4000000
namespace DL
open PySem L2 PySem.Spec PyProof.Rows
/-- comparable, not too deep -/
structure CmpOk (ds : List D) : Prop where
  al : ∀ d, d ∈ ds → ∀ e, e ∈ ds → W.alike d e = true
  nn : ∀ d, d ∈ ds → d ≠ PyData.none
  cl : PyData.canLayAll0 ds = true
  dp : PyData.depthAll ds ≤ 60
  sz : ds.length ≤ 100000
noncomputable instance (ds : List D) : Decidable (CmpOk ds) := Classical.propDecidable _
/-- all are tuples with something in them, or none is a tuple -/
structure SrtOk (ds : List D) : Prop where
  c : CmpOk ds
  s : W.Sortable ds
noncomputable instance (ds : List D) : Decidable (SrtOk ds) := Classical.propDecidable _
end DL
set_option Elab.async false
set_option linter.all false
set_option maxRecDepth 100000
set_option autoImplicit false
set_option maxHeartbeats 4000000
namespace PySem.W
open PySem PySem.Calls PyProof.Rows
end PySem.W
namespace DL
open PySem L2 PySem.Spec PyProof.Rows
end DL
set_option Elab.async false
set_option linter.all false
set_option maxRecDepth 100000
set_option autoImplicit false
set_option maxHeartbeats 4000000
namespace DL
open PySem L2 PySem.Spec PyProof.Rows
end DL
set_option Elab.async false
set_option linter.all false
set_option maxRecDepth 100000
set_option autoImplicit false
set_option maxHeartbeats 4000000
namespace DL
open PySem L2 PySem.Spec PyProof.Rows
def dL (xs : List D) : Tr := .l (xs.map Tr.d)
end DL
set_option Elab.async false
set_option linter.all false
set_option maxRecDepth 100000
set_option autoImplicit false
set_option maxHeartbeats 4000000
namespace DL
open PySem L2 PySem.Spec PyProof.Rows
end DL
set_option Elab.async false
set_option linter.all false
set_option maxRecDepth 100000
set_option autoImplicit false
set_option maxHeartbeats 4000000
namespace DL
open PySem L2 PySem.Spec PyProof.Rows
end DL
set_option Elab.async false
set_option linter.all false
set_option maxRecDepth 100000
set_option autoImplicit false
set_option maxHeartbeats 4000000
namespace DL
open PySem L2 PySem.Spec PyProof.Rows
end DL
set_option Elab.async false
set_option linter.all false
set_option maxRecDepth 100000
set_option autoImplicit false
set_option maxHeartbeats 4000000
namespace DL
open PySem L2 PySem.Spec PyProof.Rows
end DL
set_option Elab.async false
set_option linter.all false
set_option maxRecDepth 100000
set_option autoImplicit false
set_option maxHeartbeats 4000000
namespace DL
open PySem L2 PySem.Spec PyProof.Rows
end DL
set_option Elab.async false
set_option linter.all false
set_option maxRecDepth 100000
set_option autoImplicit false
set_option maxHeartbeats 4000000
namespace DL
open PySem L2 PySem.Spec PyProof.Rows
end DL
set_option Elab.async false
set_option linter.all false
set_option maxRecDepth 100000
set_option autoImplicit false
set_option maxHeartbeats 4000000
namespace DL
open PySem L2 PySem.Spec PyProof.Rows
end DL
set_option Elab.async false
set_option linter.all false
set_option maxRecDepth 100000
set_option autoImplicit false
set_option maxHeartbeats 4000000
namespace DL
open PySem L2 PySem.Spec PyProof.Rows
end DL
set_option Elab.async false
set_option linter.all false
set_option maxRecDepth 100000
set_option autoImplicit false
set_option maxHeartbeats 8000000
namespace DL
open PySem L2 PySem.Spec PyProof.Rows
end DL
set_option Elab.async false
set_option linter.all false
set_option maxRecDepth 100000
set_option autoImplicit false
set_option maxHeartbeats 4000000
namespace DL
open PySem L2 PySem.Spec PyProof.Rows
end DL
set_option Elab.async false
set_option linter.all false
set_option maxRecDepth 100000
set_option autoImplicit false
set_option maxHeartbeats 4000000
namespace DL
open PySem L2 PySem.Spec PyProof.Rows
end DL
set_option Elab.async false
set_option linter.all false
set_option maxRecDepth 100000
set_option autoImplicit false
set_option maxHeartbeats 4000000
namespace DL
open PySem L2 PySem.Spec PyProof.Rows
def ks (ws : List (Str × V)) : List (Key × V) := ws.map fun p => (.inr p.1, p.2)
end DL
set_option Elab.async false
set_option linter.all false
set_option maxRecDepth 100000
set_option autoImplicit false
set_option maxHeartbeats 8000000
namespace DL
open PySem L2 PySem.Spec PyProof.Rows
end DL
set_option Elab.async false
set_option linter.all false
set_option maxRecDepth 100000
set_option autoImplicit false
set_option maxHeartbeats 8000000
namespace DL
open PySem L2 PySem.Spec PyProof.Rows
def RunTr (K : PySem.W.Frag) (mg : Str → Option Value) (W : WX) (env : DEnv) (σ : L2.St) (G H : Hp) (r : Rs Tr) (Q : VK) : Prop := match r with
  | .ok T env' => ∀ v G' H', Rel K env' σ G' H' → TreeAt K G' H' v T → (reach H' v T).Nodup → (∀ b, b ∈ reach H' v T → G' b = none ∧ H b = none ∧ ¬ Own env' σ H' b) → Fr env σ G H env' σ G' H' → Q v H'
  | .ex x env' => RunX K mg W env σ G H x env'
  | .stuck => False
end DL
set_option Elab.async false
set_option linter.all false
set_option maxRecDepth 100000
set_option autoImplicit false
set_option maxHeartbeats 8000000
namespace DL
open PySem L2 PySem.Spec PyProof.Rows
abbrev DfT := DEnv → Option (Tr × DEnv)
section
variable (K : PySem.W.Frag)
def RunFT (args : DEnv) (σ : L2.St) (G H : Hp) (r : Option (Tr × DEnv)) (Q : VK) : Prop := match r with
  | some (T, outs) => ∀ v G' H', Rel K outs σ G' H' → TreeAt K G' H' v T → (reach H' v T).Nodup → (∀ b, b ∈ reach H' v T → G' b = none ∧ H b = none ∧ ¬ Own outs σ H' b) → Fr args σ G H outs σ G' H' → Q v H'
  | none => False
def spT (np : Nat) (F : DfT) : L2.Sp := fun vs H Q E => vs.length = np ∧ ∃ args G, Rel K args (vs.map some) G H ∧ RunFT K args (vs.map some) G H (F args) Q
end
structure CalTr (P : Program) (w : World) (K : PySem.W.Frag) (mg : Str → Option Value) (base : Heap) (k : Nat) (x : Str) (np : Nat) (F : DfT) : Prop where
  ex : ∃ (fd : FuncData) (ps : List Str), ps.length = np ∧ FnOk P w K mg base (L2N.CX P w) k (He.ga K x) fd ps (spT K ps.length F) ∧ Binds K fd ps []
  mg_ : mg x = some (.ref (He.ga K x))
  kp : PySem.W.keepIn K (.ref (He.ga K x)) = true
section
variable {P : Program} {w : World} {K : PySem.W.Frag} {mg : Str → Option Value} {base : Heap}
theorem CalTr.mono {j k : Nat} {x : Str} {np : Nat} {F : DfT} (C : CalTr P w K mg base j x np F) (h : j ≤ k) : CalTr P w K mg base k x np F :=
  let ⟨fd, ps, e, f, b⟩ := C.ex
  ⟨⟨fd, ps, e, f.mono h, b⟩, C.mg_, C.kp⟩
end
theorem RunTr.shift {K : PySem.W.Frag} {mg : Str → Option Value} {W : WX} {env env1 : DEnv} {σ : L2.St} {G H G1 H1 : Hp} {r : Rs Tr} {Q : VK} (h : RunTr K mg W env σ G H r Q) (f : Fr env σ G H env1 σ G1 H1) : RunTr K mg W env1 σ G1 H1 r Q := by
  cases r with
  | stuck => exact h
  | ex x e => exact RunX.shift h f
  | ok T e2 => exact fun v G' H' R' h1 h2 h3 F => h v G' H' R' h1 h2 (fun b hb => ⟨(h3 b hb).1, f.dom b (h3 b hb).2.1, (h3 b hb).2.2⟩) (f.trans F)
end DL
namespace DL
open PySem L2 PySem.Spec PyProof.Rows
end DL
set_option Elab.async false
set_option linter.all false
set_option maxRecDepth 100000
set_option autoImplicit false
set_option maxHeartbeats 4000000
namespace DL
open PySem L2 PySem.Spec PyProof.Rows
end DL
set_option Elab.async false
set_option linter.all false
set_option maxRecDepth 100000
set_option autoImplicit false
set_option maxHeartbeats 8000000
namespace DL
open PySem L2 PySem.Spec PyProof.Rows
theorem Fr.un {env env' : DEnv} {σ σ' : L2.St} {G H G' H' : Hp} (F : Fr env σ G H env' σ' G' H') {b : Addr} {u : HO} (h : H b = some u) (g : G b = none) (n : ¬ Own env σ H b) : H' b = some u ∧ G' b = none ∧ ¬ Own env' σ' H' b := by
  refine ⟨F.keep b u h n, ?_, fun z => ?_⟩
  · cases z : G' b with
    | none => rfl
    | some w =>
      rcases F.fresh b (by rw [z]; exact fun w => by cases w) with q | q | q
      · exact absurd g q
      · rw [q] at h; cases h
      · exact absurd q n
  · rcases F.own b z with q | q
    · exact n q
    · rw [q] at h; cases h
end DL
set_option Elab.async false
set_option linter.all false
set_option maxRecDepth 100000
set_option autoImplicit false
set_option maxHeartbeats 4000000
namespace DL
open PySem L2 PySem.Spec PyProof.Rows
def withT (s : Sl) (T : Tr) : Sl := match s with
  | .u _ => .u T
  | _ => .t T
end DL
set_option Elab.async false
set_option linter.all false
set_option maxRecDepth 100000
set_option autoImplicit false
set_option maxHeartbeats 4000000
namespace DL
open PySem L2 PySem.Spec PyProof.Rows
def slT : Bool → Sl → Option Tr
  | false, .u t => some t
  | true, .p xs => some (dL xs)
  | _, _ => none
inductive PAr where
  | e (de : DE)
  | s (i : Nat)
  | p (i : Nat) (de : DE) (pl : Bool) (chk : Tr → Bool)
/-- a part that was taken out: slot, place, what the slot held -/
structure Rc where
  i : Nat
  j : Nat
  s : Sl
  ts : List Tr
  pl : Bool
def unc1 (r : Rc) (s : Sl) (e : DEnv) : Option DEnv := (slT r.pl s).map fun t => e.set r.i (withT r.s (.l (r.ts.set r.j t)))
def uncs : List Rc → List Sl → DEnv → Option DEnv
  | [], [], e => some e
  | r :: rs, s :: ss, e => (uncs rs ss e).bind (unc1 r s)
  | _, _, _ => none
abbrev PRes := List Ar × List Rc × List Sl
section
variable (K : PySem.W.Frag) (mg : Str → Option Value) (W : WX)
def RunPs (env ss : DEnv) (σ ex : L2.St) (G H : Hp) (r : Rs PRes) (Q : List V → Hp → Prop) : Prop := match r with
  | .ok (as, rcs, ns) env' => ∀ (vs : List V) (exn : L2.St) (G' H' : Hp), Rel K (env' ++ (ss ++ ns)) (σ ++ (ex ++ exn)) G' H' → Ex G G' → env'.length = σ.length → ArRel K G' (σ ++ (ex ++ exn)) vs as →
      (∀ (e1 ss1 ns1 e2 : DEnv) (G1 H1 : Hp), e1.length = σ.length → ss1.length = ss.length → uncs rcs ns1 e1 = some e2 → Rel K (e1 ++ (ss1 ++ ns1)) (σ ++ (ex ++ exn)) G1 H1 → Fr (env' ++ (ss ++ ns)) (σ ++ (ex ++ exn)) G' H' (e1 ++ (ss1 ++ ns1)) (σ ++ (ex ++ exn)) G1 H1 →
        Rel K (e2 ++ ss1) (σ ++ ex) G1 H1 ∧ Fr (env ++ ss) (σ ++ ex) G H (e2 ++ ss1) (σ ++ ex) G1 H1 ∧ e2.length = σ.length) → Q vs H'
  | .ex x env' => ∀ cls dd (G' H' : Hp), XRel K mg x cls dd G' H' → env'.length = σ.length → Rel K (env' ++ ss) (σ ++ ex) G' H' → Fr (env ++ ss) (σ ++ ex) G H (env' ++ ss) (σ ++ ex) G' H' → W cls dd σ H'
  | .stuck => False
end
section
variable {K : PySem.W.Frag} {mg : Str → Option Value} {W : WX} {env ss : DEnv} {σ ex : L2.St} {G H : Hp} {Q : List V → Hp → Prop} {i : Nat} {de : DE} {pl : Bool} {chk : Tr → Bool} {r : List PAr}
theorem RunPs.shift {r : Rs PRes} {e1 : DEnv} {G1 H1 : Hp} (h : RunPs K mg W env ss σ ex G H r Q) (F : Fr (env ++ ss) (σ ++ ex) G H (e1 ++ ss) (σ ++ ex) G1 H1) : RunPs K mg W e1 ss σ ex G1 H1 r Q := by
  cases r with
  | stuck => exact h
  | ex x e => exact fun cls dd G' H' a b c d => h cls dd G' H' a b c (F.trans d)
  | ok p e =>
    obtain ⟨as, rcs, ns⟩ := p
    exact fun vs exn G' H' a g b c d => h vs exn G' H' a (F.gg.trans g) b c fun e1 ss1 ns1 e2 G1 H1 x1 x2 x3 x4 x5 => let ⟨y1, y2, y3⟩ := d e1 ss1 ns1 e2 G1 H1 x1 x2 x3 x4 x5; ⟨y1, F.trans y2, y3⟩
end
end DL
set_option Elab.async false
set_option linter.all false
set_option maxRecDepth 100000
set_option autoImplicit false
set_option maxHeartbeats 4000000
namespace DL
open PySem L2 PySem.Spec PyProof.Rows
end DL
set_option Elab.async false
set_option linter.all false
set_option maxRecDepth 100000
set_option autoImplicit false
set_option maxHeartbeats 4000000
namespace DL
open PySem L2 PySem.Spec PyProof.Rows
end DL
set_option Elab.async false
set_option linter.all false
set_option maxRecDepth 100000
set_option autoImplicit false
set_option maxHeartbeats 4000000
namespace DL
open PySem L2 PySem.Spec PyProof.Rows
end DL
set_option Elab.async false
set_option linter.all false
set_option maxRecDepth 100000
set_option maxHeartbeats 1000000
namespace DL
open PySem L2 PySem.Spec PyProof.Rows RZ
end DL
set_option Elab.async false
set_option linter.all false
set_option maxRecDepth 100000
set_option autoImplicit false
set_option maxHeartbeats 4000000
namespace PySem
open PySem.W PySem.Calls PyProof.Rows PySem.Spec SrtO L2 HT
end PySem
namespace DL
open PySem L2 PySem.Spec PyProof.Rows
end DL
set_option Elab.async false
set_option linter.all false
set_option maxRecDepth 100000
set_option autoImplicit false
set_option maxHeartbeats 4000000
namespace DL
open PySem L2 PySem.Spec PyProof.Rows
end DL
set_option Elab.async false
set_option linter.all false
set_option maxRecDepth 100000
set_option autoImplicit false
set_option maxHeartbeats 4000000
namespace DL
open PySem L2 PySem.Spec PyProof.Rows
end DL
set_option Elab.async false
set_option linter.all false
set_option maxRecDepth 100000
set_option autoImplicit false
set_option maxHeartbeats 4000000
namespace DL
open PySem PySem.W PySem.Calls PyProof.Rows PySem.Spec HT
end DL
namespace DL
open PySem L2 PySem.Spec PyProof.Rows
end DL
set_option Elab.async false
set_option linter.all false
set_option maxRecDepth 100000
set_option autoImplicit false
set_option maxHeartbeats 4000000
namespace DL
open PySem L2 PySem.Spec PyProof.Rows
def lSplit (da db : DE) : DA := fun env => (da env).bind fun x e1 => match x with
  | .str a => (db e1).bind fun y e2 => match y with
    | .str b => if (b.length == 0) = false ∧ a.length ≤ 100000 then .ok ((Txt.split a b).map PyData.str) e2 else .stuck
    | _ => .stuck
  | _ => .stuck
theorem dv_of_strs {K : PySem.W.Frag} {G : Hp} : ∀ ys : List Str, DvAll K G (ys.map V.str) (ys.map PyData.str)
  | [] => .nil
  | y :: ys => .cons (.str y) (dv_of_strs ys)
section
variable {X : Cx} {W : WX} {pos apos : Pos} {o e : Expr} {da db : DE}
theorem cl_split (ho : CE X W o da) (he : CE X W e db) (hs : starEach [e] X.env = [(false, eval e X.env)] := by rfl) (hbase : attributeBase o "split" X.env (eval o X.env) = eval o X.env := by rfl) (hline : (apos.endLine == pos.line) = true := by rfl) :
    CL X W (.Call (.Attribute o "split" apos) [e] [] pos) (lSplit da db) := pe_imp (pe_split ho he hs hbase hline) fun σ H Q h => by
  obtain ⟨env, G, R, h⟩ := h
  refine E_then R (P := fun e s G H r => RunL X.K X.mg W e s G H r Q) h (fun _ _ z => z) (fun z => z) (fun _ _ _ _ a b => a.shift b) fun d e1 v G1 H1 _ R1 dv F1 h1 => ?_
  cases dv with
  | str a =>
    refine ⟨⟨a, rfl⟩, E_then R1 (P := fun e s G H r => RunL X.K X.mg W e s G H r Q) h1 (fun _ _ z => z) (fun z => z) (fun _ _ _ _ a b => a.shift b) fun y e2 w G2 H2 _ R2 dw F2 h2 => ?_⟩
    cases dw with
    | str b =>
      by_cases c : (b.length == 0) = false ∧ a.length ≤ 100000
      · have h2 : RunL X.K X.mg W e2 σ G2 H2 (if (b.length == 0) = false ∧ a.length ≤ 100000 then .ok ((Txt.split a b).map PyData.str) e2 else .stuck) Q := h2
        rw [if_pos c] at h2
        have big : (100002 : Nat) ≤ sizeLine := by decide
        exact ⟨a, b, rfl, rfl, c.1, by omega, fun p hp => RunL.new R2 h2 hp (dv_of_strs _)⟩
      · have h2 : RunL X.K X.mg W e2 σ G2 H2 (if (b.length == 0) = false ∧ a.length ≤ 100000 then .ok ((Txt.split a b).map PyData.str) e2 else .stuck) Q := h2
        rw [if_neg c] at h2
        exact h2.elim
    | non => exact h2.elim
    | bl _ => exact h2.elim
    | int _ => exact h2.elim
    | lst _ _ => exact h2.elim
    | tup _ _ => exact h2.elim
    | dct _ _ => exact h2.elim
  | non => exact h1.elim
  | bl _ => exact h1.elim
  | int _ => exact h1.elim
  | lst _ _ => exact h1.elim
  | tup _ _ => exact h1.elim
  | dct _ _ => exact h1.elim
end
/-- str(a number) -/
def fStrI : List D → Option D
  | [.int i] => if i.natAbs.log2 < 1920 then some (.str (toString i)) else none
  | _ => none
theorem cd_strI {K : PySem.W.Frag} : CbD K (fun xs H Q => ∃ i : Int, xs = [.int i] ∧ i.natAbs.log2 < 1920 ∧ Q (.str (toString i)) H) fStrI := fun xs ds z G H Q hx ex h k => by
  unfold fStrI at h
  split at h
  · rename_i i
    cases hx with
    | cons a b =>
      cases b
      cases a
      by_cases c : i.natAbs.log2 < 1920
      · rw [if_pos c] at h
        cases h
        exact ⟨i, rfl, c, k _ G H (.str _) (Grow.refl ex)⟩
      · rw [if_neg c] at h
        cases h
  · cases h
/-- int(a text) -/
def fIntS : List D → Option D
  | [.str a] => if a.length ≤ 640 then (PySem.intText? a).map PyData.int else none
  | _ => none
theorem cd_intS {K : PySem.W.Frag} : CbD K (fun xs H Q => ∃ (a : Str) (n : Int), xs = [.str a] ∧ PySem.intText? a = some n ∧ a.length ≤ 640 ∧ Q (.int n) H) fIntS := fun xs ds z G H Q hx ex h k => by
  unfold fIntS at h
  split at h
  · rename_i a
    cases hx with
    | cons x b =>
      cases b
      cases x
      by_cases c : a.length ≤ 640
      · rw [if_pos c] at h
        cases q : PySem.intText? a with
        | none => rw [q] at h; cases h
        | some n =>
          rw [q] at h
          cases h
          exact ⟨a, n, rfl, q, c, k _ G H (.int _) (Grow.refl ex)⟩
      · rw [if_neg c] at h
        cases h
  · cases h
end DL
set_option Elab.async false
set_option linter.all false
set_option maxRecDepth 100000
set_option autoImplicit false
set_option maxHeartbeats 4000000
namespace DL
open PySem L2 PySem.Spec PyProof.Rows
def revS (z : Str) : Str := ⟨((Builtin.Str.strSliceIndices none none (-1) z.length).filterMap (z.cps[·]?)).toArray⟩
def tRevS (te : TE) : TE := fun σ H Q => te σ H fun x H1 => ∃ z, x = .str z ∧ z.length ≤ sizeLine ∧ (revS z).length ≤ sizeLine ∧ Q (.str (revS z)) H1
theorem pe_revS {X : Cx} {e : Expr} {te : TE} {k : Nat} {p1 p2 p3 pos : Pos} (he : PE X e te) : PE X (.Subscript e (.Slice none none (some (.UnaryOp .USub (.Constant (.int 1) k p1) p2)) p3) pos) (tRevS te) := by
  refine ⟨fun pins s σ H Q I h => Subscript_ (thn (he.run pins s σ H _ I h) fun v s1 ⟨x, H1, I1, r1, z, ex, hz, hr, q⟩ => ?_)⟩
  subst ex
  obtain ⟨t, rfl⟩ := r1
  have st : PO X (some (.UnaryOp .USub (.Constant (.int 1) k p1) p2)) (tPart (tUn (rU fun i => .int (-i)) (tC (.int 1)))) := po_some (pe_un un_neg pe_int)
  refine wpAny_Slice (thn (po_none.run pins s1 σ H1 (fun o H2 => o = none ∧ H2 = H1) I1 ⟨rfl, rfl⟩) fun vl s2 ⟨l, H2, I2, pl, el, e2⟩ => ?_)
  subst el e2
  refine thn (po_none.run pins s2 σ H2 (fun o H3 => o = none ∧ H3 = H2) I2 ⟨rfl, rfl⟩) fun vu s3 ⟨u, H3, I3, pu, eu, e3⟩ => ?_
  subst eu e3
  refine thn (st.run pins s3 σ H3 (fun o H4 => o = some (-1) ∧ H4 = H3) I3 ⟨1, rfl, -1, rfl, rfl, rfl⟩) fun vs s4 ⟨o, H4, I4, ps, eo, e4⟩ => ?_
  subst eo e4
  have I5 : L2.Inv X pins σ H4 { s4 with heap := s4.heap.push { cls := .type "slice", data := .fields #[vl, vu, vs] } } := I4.kept (t' := s4.toks) fun b ob q => Heap.get?_push_of_some _ q
  cases pl
  cases pu
  cases ps with
  | int _ w =>
    show wpAny (model X.prog X.w) X.A (subscriptTail e (.Slice none none (some (.UnaryOp .USub (.Constant (.int 1) k p1) p2)) p3) (.str z t) (.ref s4.heap.objs.size)) (EP X pins σ Q) X.xe { s4 with heap := s4.heap.push { cls := .type "slice", data := .fields #[.none, .none, .int (-1) w] } }
    refine tail_any (ops := [.str z t, .ref s4.heap.objs.size]) (typeIs_str _ _ _) F.slot_str_getitem.lookup ?_ (by with_unfolding_all rfl)
    refine wpAny_getItem_str_slice (l := none) (u := none) (st := some (-1, w)) ⟨_, Heap.get?_push_size _ rfl, rfl, rfl⟩ rfl ?_
    show Made.post (if ((-1 : Int) == 1 && (Builtin.Str.strSliceIndices none none (-1) z.length).length == z.length) = true then Made.val (.str z t) else Made.str (revS z)) (EP X pins σ Q) _
    rw [if_neg (by simp)]
    exact ⟨hr, .str (revS z), H4, I5.tok _, ⟨_, rfl⟩, q⟩
def eRevS (de : DE) : DE := fun env => (de env).bind fun d e1 => match d with
  | .str z => if z.length ≤ 100000 ∧ (revS z).length ≤ 100000 then .ok (.str (revS z)) e1 else .stuck
  | _ => .stuck
theorem ce_revS {X : Cx} {W : WX} {e : Expr} {de : DE} {k : Nat} {p1 p2 p3 pos : Pos} (he : CE X W e de) : CE X W (.Subscript e (.Slice none none (some (.UnaryOp .USub (.Constant (.int 1) k p1) p2)) p3) pos) (eRevS de) := pe_imp (pe_revS he) fun σ H Q h => by
  obtain ⟨env, G, R, h⟩ := h
  refine E_thenE R h fun d e1 v G1 H1 _ R1 dv F1 h1 => ?_
  cases dv with
  | str z =>
    have big : (100000 : Nat) ≤ sizeLine := by decide
    by_cases c : z.length ≤ 100000 ∧ (revS z).length ≤ 100000
    · have h1 : RunE X.K X.mg W e1 σ G1 H1 (if z.length ≤ 100000 ∧ (revS z).length ≤ 100000 then .ok (.str (revS z)) e1 else .stuck) Q := h1
      rw [if_pos c] at h1
      exact ⟨z, rfl, Nat.le_trans c.1 big, Nat.le_trans c.2 big, h1 _ G1 H1 R1 (.str _) (Fr.refl _ _ _ _)⟩
    · have h1 : RunE X.K X.mg W e1 σ G1 H1 (if z.length ≤ 100000 ∧ (revS z).length ≤ 100000 then .ok (.str (revS z)) e1 else .stuck) Q := h1
      rw [if_neg c] at h1
      exact h1.elim
  | non => exact h1.elim
  | bl _ => exact h1.elim
  | int _ => exact h1.elim
  | lst _ _ => exact h1.elim
  | tup _ _ => exact h1.elim
  | dct _ _ => exact h1.elim
end DL
set_option Elab.async false
set_option linter.all false
set_option maxRecDepth 100000
set_option maxHeartbeats 4000000
namespace LW
open PySem L2 DL
noncomputable section
def c_TWOS : List Str := ["cut", "part", "sew"]
def c_ONES : List Str := ["split", "merge", "join", "turn", "unturn", "fold", "puff", "draw", "grow", "cap", "open", "rip"]
def b_is_whole : DS :=
    (sRet ((eAnd ((eIsi "int" (eVar 0))) ((eNot ((eIsi "bool" (eVar 0))))))))
def f_is_whole : Df := bodyF 1 b_is_whole
def b__law_take : DS :=
    (sSeq (sIf ((tTst (eBin dGt ((eIxN 0 (eC (.int 0)))) (eC (.int 0))))) (sSeq (sAsg ((eBin dMod ((eIxN 0 (eC (.int 0)))) (eVar 1))) (gN 2))
    (sSeq (sSetO 0 (eC (.int 0)) ((eBin dFdiv ((eIxN 0 (eC (.int 0)))) (eVar 1))))
    (sRet (eVar 2)))) sNx)
    (sSeq (sSetO 0 (eC (.int 1)) ((eBin dMod ((eBin dMulT ((eIxN 0 (eC (.int 1)))) (eC (.int 48271)))) (eC (.int 2147483647)))))
    (sRet ((eBin dMod ((eBin dFdiv ((eBin dMod ((eBin dMulT ((eIxN 0 (eC (.int 1)))) ((eIxN 0 (eC (.int 1)))))) (eC (.int 2147483629)))) (eC (.int 64)))) (eVar 1))))))
def f__law_take : Df := bodyF 3 b__law_take
def b__law_bag : DS :=
    (sSeq (sAsg (eC (.int 0)) (gN 2))
    (sSeq (sIf ((tTst (eBin dLt (eVar 1) ((eCB fLen (aCons (eVar 0) aNil)))))) (sAsg ((eBin dMod ((eIxN 0 (eVar 1))) ((eBin dMulT ((eBin dPow (eC (.int 10)) (eC (.int 60)))) ((eBin dPow (eC (.int 10)) (eC (.int 60)))))))) (gN 2)) sNx)
    (sSeq (sIf ((tTst (eBin dLt (eVar 2) ((eBin dPow (eC (.int 10)) (eC (.int 18))))))) (sRetL (lLst (aCons (eC (.int 0)) (aCons ((eBin dAdd (eC (.int 1)) ((eBin dMod ((eBin dAdd ((eBin dMulT (eVar 2) (eC (.int 7919)))) ((eBin dMulT (eC (.int 104729)) (eVar 1))))) (eC (.int 2147483646)))))) aNil)))) sNx)
    (sRetL (lLst (aCons (eVar 2) (aCons ((eBin dAdd (eC (.int 1)) ((eBin dMod ((eBin dAdd (eVar 2) (eVar 1))) (eC (.int 2147483646)))))) aNil)))))))
def f__law_bag : Df := bodyF 3 b__law_bag
def b__law_kinds (a : Addr) (d : Option Addr) (c : Str) : DS :=
    (sSeq (sAsgL 1 (lLst (aCons ((eIsE a d 0 (c == "Harm"))) (aCons ((eIsE a d 0 (c == "NoHalf"))) (aCons ((eIsE a d 0 (c == "NoMarks"))) (aCons ((eIsE a d 0 (c == "NoPlain"))) aNil))))))
    (sSeq (sAsgL 1 (eBinL dCat (eVar 1) ((eLst ((lLst (aCons ((eIsE a d 0 (c == "NoRim"))) (aCons ((eIsE a d 0 (c == "NoRow"))) (aCons ((eIsE a d 0 (c == "NoSkin"))) (aCons ((eIsE a d 0 (c == "NoText"))) aNil))))))))))
    (sSeq (sAsgL 1 (eBinL dCat (eVar 1) ((eLst ((lLst (aCons ((eIsE a d 0 (c == "NothingLeft"))) (aCons ((eIsE a d 0 (c == "TooMany"))) (aCons ((eIsE a d 0 (c == "Unfit"))) (aCons ((eIsE a d 0 (c == "Unlike"))) aNil))))))))))
    (sSeq (sAsg ((eLst ((lLst (aCons (eC (.str "Harm")) (aCons (eC (.str "NoHalf")) (aCons (eC (.str "NoMarks")) (aCons (eC (.str "NoPlain")) (aCons (eC (.str "NoRim")) (aCons (eC (.str "NoRow")) (aCons (eC (.str "NoSkin")) (aCons (eC (.str "NoText")) (aCons (eC (.str "NothingLeft")) (aCons (eC (.str "TooMany")) aNil)))))))))))))) (gN 2))
    (sSeq (sAsg ((eLst ((eBinL dCat (eVar 2) ((eLst ((lLst (aCons (eC (.str "Unfit")) (aCons (eC (.str "Unlike")) (aCons (eC (.str "+")) aNil))))))))))) (gN 2))
    (sSeq (sDrop ((eMO 1 mAppend (aCons ((eIsE a d 0 true)) aNil))))
    (sRet ((eJoin (eC (.str "")) ((eLst ((lComp (iRng1 (aCons (eC (.int 13)) aNil)) (gN 3) (tTru ((eIxN 1 (eVar 3)))) ((eIxN 2 (eVar 3))) [3])))))))))))))
def f__law_kinds : DfX := fun a d c => bodyF 4 (b__law_kinds a d c)
theorem rng13 : iRng1 (aCons (eC (.int 13)) aNil) = fun env => .ok (rngD 0 13) env := by
  funext env
  show (if I62 13 then Rs.ok (rngD 0 13) env else .stuck) = _
  rw [if_pos (i62_of (by decide) (by decide))]
theorem isE_at {a : Addr} {d : Option Addr} {b : Bool} {f : Option (Str × D)} {r : DEnv} : eIsE a d 0 b (.a a d f :: r) = .ok (.bool b) (.a a d f :: r) := by
  show (if a = a ∧ d = d then _ else _) = _
  rw [if_pos ⟨rfl, rfl⟩]
theorem acons_at {de : DE} {da : DA} {x : D} {xs : List D} {e e1 e2 : DEnv} (h : de e = .ok x e1) (h2 : da e1 = .ok xs e2) : aCons de da e = .ok (x :: xs) e2 := by
  show (de e).bind _ = _
  rw [h]
  show (da e1).bind _ = _
  rw [h2]
  rfl
theorem isE4 {a : Addr} {d : Option Addr} {f : Option (Str × D)} (b1 b2 b3 b4 : Bool) (r : DEnv) : lLst (aCons (eIsE a d 0 b1) (aCons (eIsE a d 0 b2) (aCons (eIsE a d 0 b3) (aCons (eIsE a d 0 b4) aNil)))) (.a a d f :: r) = .ok [.bool b1, .bool b2, .bool b3, .bool b4] (.a a d f :: r) := by
  unfold lLst
  rw [acons_at isE_at (acons_at isE_at (acons_at isE_at (acons_at isE_at (da := aNil) (xs := []) (e2 := .a a d f :: r) rfl)))]
  rfl
theorem kin13 {a : Addr} {d : Option Addr} {f : Option (Str × D)} {b1 b2 b3 b4 b5 b6 b7 b8 b9 b10 b11 b12 : Bool} :
    (sSeq (sAsgL 1 (lLst (aCons (eIsE a d 0 b1) (aCons (eIsE a d 0 b2) (aCons (eIsE a d 0 b3) (aCons (eIsE a d 0 b4) aNil))))))
    (sSeq (sAsgL 1 (eBinL dCat (eVar 1) (eLst (lLst (aCons (eIsE a d 0 b5) (aCons (eIsE a d 0 b6) (aCons (eIsE a d 0 b7) (aCons (eIsE a d 0 b8) aNil))))))))
    (sSeq (sAsgL 1 (eBinL dCat (eVar 1) (eLst (lLst (aCons (eIsE a d 0 b9) (aCons (eIsE a d 0 b10) (aCons (eIsE a d 0 b11) (aCons (eIsE a d 0 b12) aNil))))))))
    (sSeq (sAsg (eLst (lLst (aCons (eC (.str "Harm")) (aCons (eC (.str "NoHalf")) (aCons (eC (.str "NoMarks")) (aCons (eC (.str "NoPlain")) (aCons (eC (.str "NoRim")) (aCons (eC (.str "NoRow")) (aCons (eC (.str "NoSkin")) (aCons (eC (.str "NoText")) (aCons (eC (.str "NothingLeft")) (aCons (eC (.str "TooMany")) aNil)))))))))))) (gN 2))
    (sSeq (sAsg (eLst (eBinL dCat (eVar 2) (eLst (lLst (aCons (eC (.str "Unfit")) (aCons (eC (.str "Unlike")) (aCons (eC (.str "+")) aNil))))))) (gN 2))
    (sSeq (sDrop (eMO 1 mAppend (aCons (eIsE a d 0 true) aNil)))
    (sRet (eJoin (eC (.str "")) (eLst (lComp (fun env => .ok (rngD 0 13) env) (gN 3) (tTru (eIxN 1 (eVar 3))) (eIxN 2 (eVar 3)) [3])))))))))) [.a a d f, .no, .no, .no] = (sRet (eJoin (eC (.str "")) (eLst (lComp (fun env => .ok (rngD 0 13) env) (gN 3) (tTru (eIxN 1 (eVar 3))) (eIxN 2 (eVar 3)) [3])))) [.a a d f, .l ([.bool b1, .bool b2, .bool b3, .bool b4, .bool b5, .bool b6, .bool b7, .bool b8, .bool b9, .bool b10, .bool b11, .bool b12] ++ [.bool true]), .v (.list [.str "Harm", .str "NoHalf", .str "NoMarks", .str "NoPlain", .str "NoRim", .str "NoRow", .str "NoSkin", .str "NoText", .str "NothingLeft", .str "TooMany", .str "Unfit", .str "Unlike", .str "+"]), .no] := by
  generalize (sRet (eJoin (eC (.str "")) (eLst (lComp (fun env => .ok (rngD 0 13) env) (gN 3) (tTru (eIxN 1 (eVar 3))) (eIxN 2 (eVar 3)) [3])))) = k
  have s1 : ∀ k : DS, sSeq (sAsgL 1 (lLst (aCons (eIsE a d 0 b1) (aCons (eIsE a d 0 b2) (aCons (eIsE a d 0 b3) (aCons (eIsE a d 0 b4) aNil)))))) k [.a a d f, .no, .no, .no] = k [.a a d f, .l [.bool b1, .bool b2, .bool b3, .bool b4], .no, .no] := fun k => by
    unfold sSeq sAsgL
    rw [isE4]
    rfl
  have s2 : ∀ k : DS, sSeq (sAsgL 1 (eBinL dCat (eVar 1) (eLst (lLst (aCons (eIsE a d 0 b5) (aCons (eIsE a d 0 b6) (aCons (eIsE a d 0 b7) (aCons (eIsE a d 0 b8) aNil)))))))) k [.a a d f, .l [.bool b1, .bool b2, .bool b3, .bool b4], .no, .no] = k [.a a d f, .l [.bool b1, .bool b2, .bool b3, .bool b4, .bool b5, .bool b6, .bool b7, .bool b8], .no, .no] := fun k => by
    show (((((lLst (aCons (eIsE a d 0 b5) (aCons (eIsE a d 0 b6) (aCons (eIsE a d 0 b7) (aCons (eIsE a d 0 b8) aNil))))) (.a a d f :: [.v (.list [.bool b1, .bool b2, .bool b3, .bool b4]), .no, .no])).bind _).bind _).fl _).seq k = _
    rw [isE4]
    rfl
  have s3 : ∀ k : DS, sSeq (sAsgL 1 (eBinL dCat (eVar 1) (eLst (lLst (aCons (eIsE a d 0 b9) (aCons (eIsE a d 0 b10) (aCons (eIsE a d 0 b11) (aCons (eIsE a d 0 b12) aNil)))))))) k [.a a d f, .l [.bool b1, .bool b2, .bool b3, .bool b4, .bool b5, .bool b6, .bool b7, .bool b8], .no, .no] = k [.a a d f, .l [.bool b1, .bool b2, .bool b3, .bool b4, .bool b5, .bool b6, .bool b7, .bool b8, .bool b9, .bool b10, .bool b11, .bool b12], .no, .no] := fun k => by
    show (((((lLst (aCons (eIsE a d 0 b9) (aCons (eIsE a d 0 b10) (aCons (eIsE a d 0 b11) (aCons (eIsE a d 0 b12) aNil))))) (.a a d f :: [.v (.list [.bool b1, .bool b2, .bool b3, .bool b4, .bool b5, .bool b6, .bool b7, .bool b8]), .no, .no])).bind _).bind _).fl _).seq k = _
    rw [isE4]
    rfl
  rw [s1, s2, s3]
  show (sSeq (sDrop (eMO 1 mAppend (aCons (eIsE a d 0 true) aNil))) k) [.a a d f, .l [.bool b1, .bool b2, .bool b3, .bool b4, .bool b5, .bool b6, .bool b7, .bool b8, .bool b9, .bool b10, .bool b11, .bool b12], .v (.list [.str "Harm", .str "NoHalf", .str "NoMarks", .str "NoPlain", .str "NoRim", .str "NoRow", .str "NoSkin", .str "NoText", .str "NothingLeft", .str "TooMany", .str "Unfit", .str "Unlike", .str "+"]), .no] = _
  have q : aCons (eIsE a d 0 true) aNil [.a a d f, .l [.bool b1, .bool b2, .bool b3, .bool b4, .bool b5, .bool b6, .bool b7, .bool b8, .bool b9, .bool b10, .bool b11, .bool b12], .v (.list [.str "Harm", .str "NoHalf", .str "NoMarks", .str "NoPlain", .str "NoRim", .str "NoRow", .str "NoSkin", .str "NoText", .str "NothingLeft", .str "TooMany", .str "Unfit", .str "Unlike", .str "+"]), .no] = .ok [.bool true] [.a a d f, .l [.bool b1, .bool b2, .bool b3, .bool b4, .bool b5, .bool b6, .bool b7, .bool b8, .bool b9, .bool b10, .bool b11, .bool b12], .v (.list [.str "Harm", .str "NoHalf", .str "NoMarks", .str "NoPlain", .str "NoRim", .str "NoRow", .str "NoSkin", .str "NoText", .str "NothingLeft", .str "TooMany", .str "Unfit", .str "Unlike", .str "+"]), .no] := acons_at isE_at (da := aNil) (xs := []) rfl
  show ((((aCons (eIsE a d 0 true) aNil [.a a d f, .l [.bool b1, .bool b2, .bool b3, .bool b4, .bool b5, .bool b6, .bool b7, .bool b8, .bool b9, .bool b10, .bool b11, .bool b12], .v (.list [.str "Harm", .str "NoHalf", .str "NoMarks", .str "NoPlain", .str "NoRim", .str "NoRow", .str "NoSkin", .str "NoText", .str "NothingLeft", .str "TooMany", .str "Unfit", .str "Unlike", .str "+"]), .no])).bind _).fl _).seq k = _
  rw [q]
  rfl
theorem kinds_ok : KindsF f__law_kinds := fun a d f c hc => by
  unfold f__law_kinds bodyF b__law_kinds
  rw [rng13]
  show (match (sSeq _ _) [.a a d f, .no, .no, .no] with
    | .nx e => Fo.ok .none (outsOf [.a a d f] e)
    | .rt d1 e => Fo.ok d1 (outsOf [.a a d f] e)
    | .rl xs e => Fo.okl xs (outsOf [.a a d f] e)
    | .ex x e => Fo.ex x (outsOf [.a a d f] e)
    | _ => Fo.stuck) = _
  rw [kin13]
  simp only [kNames, List.mem_cons, List.not_mem_nil, or_false] at hc
  rcases hc with rfl | rfl | rfl | rfl | rfl | rfl | rfl | rfl | rfl | rfl | rfl | rfl
  all_goals kernel_rfl
def b__law_words : DS :=
    (sSeq (sAsg ((eLst ((lLst (aCons (eC (.str "split")) (aCons (eC (.str "merge")) (aCons (eC (.str "cut")) (aCons (eC (.str "join")) (aCons (eC (.str "turn")) (aCons (eC (.str "unturn")) (aCons (eC (.str "fold")) (aCons (eC (.str "puff")) (aCons (eC (.str "draw")) (aCons (eC (.str "part")) (aCons (eC (.str "grow")) (aCons (eC (.str "cap")) (aCons (eC (.str "open")) aNil))))))))))))))))) (gN 0))
    (sRet ((eLst ((eBinL dCat (eVar 0) ((eLst ((lLst (aCons (eC (.str "sew")) (aCons (eC (.str "rip")) aNil))))))))))))
def f__law_words : Df := bodyF 1 b__law_words
def b_is_deed : DS :=
    (sSeq (sIf ((tOrD ((tNotD ((tTst (eIsi "tuple" (eVar 0)))))) ((tOrD ((tTst (eBin dLt ((eCB fLen (aCons (eVar 0) aNil))) (eC (.int 2))))) ((tNotD ((tTst (eIsi "str" ((eIxN 0 (eC (.int 0))))))))))))) (sRet (eC (.bool false))) sNx)
    (sSeq (sIf ((tNotD ((tTst (eCB fAll (aCons ((eLst ((lComp (iSeqS ((eSl (eVar 0) (.of (eC (.int 1))) .no))) (gN 1) tYesD ((eCallN 1 f_is_whole (rCons (eVar 1) rNil))) [1])))) aNil)))))) (sRet (eC (.bool false))) sNx)
    (sRet ((eOr ((eAnd ((eBin dInS ((eIxN 0 (eC (.int 0)))) (eC (.tuple (c_ONES.map PyData.str))))) ((eBin dEq ((eCB fLen (aCons (eVar 0) aNil))) (eC (.int 2)))))) ((eAnd ((eBin dInS ((eIxN 0 (eC (.int 0)))) (eC (.tuple (c_TWOS.map PyData.str))))) ((eBin dEq ((eCB fLen (aCons (eVar 0) aNil))) (eC (.int 3)))))))))))
def f_is_deed : Df := bodyF 2 b_is_deed
def b_number_of : DS :=
    (sSeq (sIf ((tOrD ((tTst (eBin dLt ((eCB fLen (aCons (eVar 0) aNil))) (eC (.int 1))))) ((tOrD ((tTst (eBin dGt ((eCB fLen (aCons (eVar 0) aNil))) (eC (.int 9))))) ((tAndD ((tTst (eBin dEq ((eIxN 0 (eC (.int 0)))) (eC (.str "0"))))) ((tTst (eBin dNe (eVar 0) (eC (.str "0"))))))))))) (sRet (eC .none)) sNx)
    (sSeq (sIf ((tNotD ((tTst (eCB fAll (aCons ((eLst ((lComp (iSeqS (eVar 0)) (gN 1) tYesD ((eBin dInS (eVar 1) (eC (.str "0123456789")))) [1])))) aNil)))))) (sRet (eC .none)) sNx)
    (sRet ((eCB fInt (aCons (eVar 0) aNil))))))
def f_number_of : Df := bodyF 2 b_number_of
end
end LW
set_option Elab.async false
set_option linter.all false
set_option maxRecDepth 100000
set_option maxHeartbeats 4000000
namespace K44
open PySem L2 DL LW
noncomputable section
def b_number_of : DS :=
    (sSeq (sIf ((tOrD ((tTst (eBin dLt ((eCB fLen (aCons (eVar 0) aNil))) (eC (.int 1))))) ((tOrD ((tTst (eBin dGt ((eCB fLen (aCons (eVar 0) aNil))) (eC (.int 9))))) ((tAndD ((tTst (eBin dEq ((eIxN 0 (eC (.int 0)))) (eC (.str "0"))))) ((tTst (eBin dNe (eVar 0) (eC (.str "0"))))))))))) (sRet (eC .none)) sNx)
    (sSeq (sIf ((tNotD ((tTst (eCB fAll (aCons ((eLst ((lComp (iSeqS (eVar 0)) (gN 1) tYesD ((eBin dInS (eVar 1) (eC (.str "0123456789")))) [1])))) aNil)))))) (sRet (eC .none)) sNx)
    (sRet ((eCB fIntS (aCons (eVar 0) aNil))))))
def f_number_of : Df := bodyF 2 b_number_of
def b_numbers_text : DS :=
    (sRet ((eJoin (eC (.str " ")) ((eLst ((lComp (iSeqS (eVar 0)) (gN 1) tYesD ((eCB fStrI (aCons (eVar 1) aNil))) [1])))))))
def f_numbers_text : Df := bodyF 2 b_numbers_text
def b_deed_text : DS :=
    (sRet ((eBin dAdd ((eBin dAdd ((eIxN 0 (eC (.int 0)))) (eC (.str " ")))) ((eCallN 1 f_numbers_text (rCons ((eSl (eVar 0) (.of (eC (.int 1))) .no)) rNil))))))
def f_deed_text : Df := bodyF 1 b_deed_text
def b_read_deed : DS :=
    (sSeq (sIf ((tNotD ((tTst (eIsi "str" (eVar 0)))))) (sRaise "NoText") sNx)
    (sSeq (sAsg ((eLst (lSplit (eVar 0) (eC (.str " "))))) (gN 1))
    (sSeq (sAsg ((eBin dAdd ((eTup ((aCons ((eIxN 1 (eC (.int 0)))) aNil)))) ((eCB fTup (aCons ((eLst ((lComp (iSeqS ((eSl (eVar 1) (.of (eC (.int 1))) .no))) (gN 3) tYesD ((eCallN 1 f_number_of (rCons (eVar 3) rNil))) [3])))) aNil))))) (gN 2))
    (sSeq (sIf ((tNotD ((tTru ((eCallN 1 f_is_deed (rCons (eVar 2) rNil))))))) (sRaise "NoText") sNx)
    (sRet (eVar 2))))))
def f_read_deed : Df := bodyF 4 b_read_deed
def b__law_told_text : DS :=
    (sSeq (sAsg (eC .none) (gN 1))
    (sSeq (sAsg (eC (.str "")) (gN 2))
    (sSeq (sTryK (sAsg ((eCallN 1 f_read_deed (rCons (eVar 0) rNil))) (gN 1)) 3 2 [("SkinError", none)])
    (sRet ((eIf ((tTst (eBin dEq (eVar 2) (eC (.str ""))))) (eVar 1) (eVar 2)))))))
def f__law_told_text : Df := bodyF 4 b__law_told_text
def b__law_number : DS :=
    (sSeq (sIf ((tOrD ((tTst (eBin dLt ((eCB fLen (aCons (eVar 0) aNil))) (eC (.int 1))))) ((tOrD ((tTst (eBin dGt ((eCB fLen (aCons (eVar 0) aNil))) (eC (.int 9))))) ((tTst (eBin dNe ((eLst ((lComp (iSeqS (eVar 0)) (gN 1) (tTst (eBin dNotInS (eVar 1) (eC (.str "0123456789")))) (eVar 1) [1])))) ((eLst ((lLst aNil))))))))))) (sRet (eC .none)) sNx)
    (sRet ((eIf ((tAndD ((tTst (eBin dEq ((eIxN 0 (eC (.int 0)))) (eC (.str "0"))))) ((tTst (eBin dNe (eVar 0) (eC (.str "0"))))))) (eC .none) ((eCB fIntS (aCons (eVar 0) aNil)))))))
def f__law_number : Df := bodyF 2 b__law_number
def b__law_read_deed : DS :=
    (sSeq (sAsg ((eLst (lSplit (eVar 0) (eC (.str " "))))) (gN 1))
    (sSeq (sAsg (eLst (lComp (iSeqS ((eSl (eVar 1) (.of (eC (.int 1))) .no))) (gN 4) tYesD ((eCallN 1 f__law_number (rCons (eVar 4) rNil))) [4])) (gN 2))
    (sSeq (sAsg ((eGet2 ((eDct ((lDisp [(eC (.str "cut"), eC (.int 2)), (eC (.str "part"), eC (.int 2)), (eC (.str "sew"), eC (.int 2))])))) ((eIxN 1 (eC (.int 0)))) (eC (.int 1)))) (gN 3))
    (sSeq (sIf ((tOrD ((tTst (eBin dNotInS ((eIxN 1 (eC (.int 0)))) ((eCall0 f__law_words))))) ((tOrD ((tTst (eBin dNe ((eCB fLen (aCons (eVar 2) aNil))) (eVar 3)))) ((tTst (eBin dInS (eC .none) (eVar 2)))))))) (sRet (eC (.str "NoText+"))) sNx)
    (sRet ((eBin dAdd ((eTup ((aCons ((eIxN 1 (eC (.int 0)))) aNil)))) ((eCB fTup (aCons (eVar 2) aNil))))))))))
def f__law_read_deed : Df := bodyF 5 b__law_read_deed
def b__law_bent : DS :=
    (sSeq (sAsg (eC (.str " !\"#$&'()*+,-./0123456789:;<=>?@ABCDEFGHIJKLMNOPQRSTUVWXYZ[\\]^_`abcdefghijklmnopqrstuvwxyz{|}~\n")) (gN 3))
    (sSeq (sAsg ((eBin dIx ((eLst ((lLst (aCons ((eIxN 3 ((eCallN 2 f__law_take (rLendC 0 (rCons ((eCB fLen (aCons (eVar 3) aNil))) rNil)))))) (aCons ((eIxN 2 ((eCallN 2 f__law_take (rLendC 0 (rCons ((eCB fLen (aCons (eVar 2) aNil))) rNil)))))) aNil)))))) ((eCallN 2 f__law_take (rLendC 0 (rCons (eC (.int 2)) rNil)))))) (gN 4))
    (sSeq (sAsg ((eCallN 2 f__law_take (rLendC 0 (rCons ((eBin dAdd ((eCB fLen (aCons (eVar 1) aNil))) (eC (.int 1)))) rNil)))) (gN 5))
    (sSeq (sAsg ((eCallN 2 f__law_take (rLendC 0 (rCons (eC (.int 8)) rNil)))) (gN 6))
    (sSeq (sIf ((tTst (eBin dLt (eVar 6) (eC (.int 2))))) (sRet ((eBin dAdd ((eBin dAdd ((eSl (eVar 1) .no (.of (eVar 5)))) (eVar 4))) ((eSl (eVar 1) (.of ((eBin dAdd (eVar 5) (eVar 6)))) .no))))) sNx)
    (sSeq (sIf ((tTst (eBin dEq (eVar 6) (eC (.int 2))))) (sRet ((eBin dAdd ((eSl (eVar 1) .no (.of (eVar 5)))) ((eSl (eVar 1) (.of ((eBin dAdd (eVar 5) (eC (.int 1))))) .no))))) sNx)
    (sSeq (sIf ((tTst (eBin dEq (eVar 6) (eC (.int 3))))) (sRet ((eBin dAdd ((eSl (eVar 1) .no (.of ((eBin dAdd (eVar 5) (eC (.int 1))))))) ((eSl (eVar 1) (.of (eVar 5)) .no))))) sNx)
    (sSeq (sIf ((tTst (eBin dEq (eVar 6) (eC (.int 4))))) (sRet ((eBin dAdd ((eBin dAdd ((eSl (eVar 1) .no (.of (eVar 5)))) ((eRevS ((eSl (eVar 1) (.of (eVar 5)) (.of ((eBin dAdd (eVar 5) (eC (.int 2))))))))))) ((eSl (eVar 1) (.of ((eBin dAdd (eVar 5) (eC (.int 2))))) .no))))) sNx)
    (sSeq (sAsg ((eLst (lSplit (eVar 1) (eC (.str " "))))) (gN 7))
    (sSeq (sAsg ((eCallN 2 f__law_take (rLendC 0 (rCons ((eCB fLen (aCons (eVar 7) aNil))) rNil)))) (gN 5))
    (sSeq (sAsg ((eBin dIx ((eLst ((lLst (aCons ((eLst ((lLst aNil)))) (aCons ((eLst ((lRep (lLst (aCons ((eIxN 7 (eVar 5))) aNil)) (eC (.int 2)))))) (aCons ((eLst ((lLst (aCons ((eIxN 7 ((eCallN 2 f__law_take (rLendC 0 (rCons ((eCB fLen (aCons (eVar 7) aNil))) rNil)))))) aNil))))) aNil))))))) ((eBin dSub (eVar 6) (eC (.int 5)))))) (gN 8))
    (sRet ((eJoin (eC (.str " ")) ((eLst ((eBinL dCat ((eLst ((eBinL dCat ((eSl (eVar 7) .no (.of (eVar 5)))) (eVar 8))))) ((eSl (eVar 7) (.of ((eBin dAdd (eVar 5) (eC (.int 1))))) .no))))))))))))))))))))
def f__law_bent : Df := bodyF 9 b__law_bent
def b_law : DS :=
    (sSeq (sFor (iRng1 (aCons ((eBin dAdd (eC (.int 1)) ((eCB fMin (aCons ((eCB fLen (aCons (eVar 0) aNil))) (aCons (eC (.int 30)) aNil)))))) aNil)) (gN 1) (sSeq (sAsgL 2 (lCallN 2 f__law_bag (rCons (eVar 0) (rCons (eVar 1) rNil))))
    (sFor (iSeqS ((eCall0 f__law_words))) (gN 3) (sSeq (sAsgL 4 (lLst aNil))
    (sSeq (sFor (iRng1 (aCons ((eBin dAdd (eC (.int 1)) ((eCB fInt (aCons ((eBin dInS (eVar 3) ((eLst ((lLst (aCons (eC (.str "cut")) (aCons (eC (.str "part")) (aCons (eC (.str "sew")) aNil))))))))) aNil))))) aNil)) (gN 5) (sDrop ((eMO 4 mAppend (aCons ((eBin dIx ((eLst ((lLst (aCons ((eCallN 2 f__law_take (rLendC 2 (rCons (eC (.int 400)) rNil)))) (aCons ((eCallN 2 f__law_take (rLendC 2 (rCons ((eBin dPow (eC (.int 10)) (eC (.int 9)))) rNil)))) (aCons (eC (.int 0)) (aCons ((eBin dSub ((eBin dPow (eC (.int 10)) (eC (.int 9)))) (eC (.int 1)))) aNil)))))))) ((eCallN 2 f__law_take (rLendC 2 (rCons (eC (.int 4)) rNil)))))) aNil)))))
    (sSeq (sAsg ((eJoin (eC (.str " ")) ((eLst ((eBinL dCat ((eLst ((lLst (aCons (eVar 3) aNil))))) ((eLst ((lComp (iSeqS (eVar 4)) (gN 9) tYesD ((eCB fStrI (aCons (eVar 9) aNil))) [9])))))))))) (gN 6))
    (sSeq (sIf ((tOrD ((tTst (eBin dNe ((eCallN 1 f_deed_text (rCons ((eBin dAdd ((eTup ((aCons (eVar 3) aNil)))) ((eTupO 4)))) rNil))) (eVar 6)))) ((tTst (eBin dNe ((eCallN 1 f__law_told_text (rCons (eVar 6) rNil))) ((eBin dAdd ((eTup ((aCons (eVar 3) aNil)))) ((eTupO 4))))))))) (sRet (eC (.bool false))) sNx)
    (sSeq (sFor (iRng1 (aCons ((eBin dAdd (eC (.int 1)) ((eCallN 2 f__law_take (rLendC 2 (rCons (eC (.int 3)) rNil)))))) aNil)) (gN 7) (sAsg ((eCallN 3 f__law_bent (rLendC 2 (rCons (eVar 6) (rCons ((eLst ((lLst (aCons (eC (.str " ")) (aCons (eC (.str "0")) (aCons (eC (.str "1")) (aCons (eC (.str "-")) (aCons (eC (.str "cut")) (aCons (eC (.str "split")) (aCons (eC (.str "mark")) aNil))))))))))) rNil))))) (gN 6)))
    (sIf ((tTst (eBin dNe ((eCallN 1 f__law_told_text (rCons (eVar 6) rNil))) ((eCallN 1 f__law_read_deed (rCons (eVar 6) rNil)))))) (sRet (eC (.bool false))) sNx)))))))))
    (sSeq (sFor (iSeqS ((eLst ((lLst (aCons (eC .none) (aCons (eC (.int 7)) (aCons (eC (.bool true)) (aCons ((eLst ((lLst aNil)))) (aCons ((eTup ((aCons (eC (.str "cut 1 2")) aNil)))) (aCons ((eLst ((lLst (aCons (eC (.str "cut")) aNil))))) (aCons (eC (.str "")) (aCons (eC (.str "cut")) (aCons (eC (.str "mark 1 a")) (aCons (eC (.str "undo")) (aCons (eC (.str "split 1 ")) (aCons (eC (.str " split 1")) aNil))))))))))))))))) (gN 8) (sIf ((tTst (eBin dNe ((eCallN 1 f__law_told_text (rCons (eVar 8) rNil))) (eC (.str "NoText+"))))) (sRet (eC (.bool false))) sNx))
    (sRet (eC (.bool true)))))
def f_law : Df := bodyF 10 b_law
end
end K44
set_option Elab.async false
set_option linter.all false
set_option maxRecDepth 100000
set_option maxHeartbeats 4000000
namespace K44
open PySem L2 DL LW
structure Txt (K : PySem.W.Frag) (mg : Str → Option Value) : Prop where
  d_is_whole : ∃ fd, FnT K "is_whole" s_is_whole fd
  g_is_whole : mg "is_whole" = some (.ref (He.ga K "is_whole"))
  d_is_deed : ∃ fd, FnT K "is_deed" s_is_deed fd
  g_is_deed : mg "is_deed" = some (.ref (He.ga K "is_deed"))
  d_number_of : ∃ fd, FnT K "number_of" s_number_of fd
  g_number_of : mg "number_of" = some (.ref (He.ga K "number_of"))
  d_numbers_text : ∃ fd, FnT K "numbers_text" s_numbers_text fd
  g_numbers_text : mg "numbers_text" = some (.ref (He.ga K "numbers_text"))
  d_deed_text : ∃ fd, FnT K "deed_text" s_deed_text fd
  g_deed_text : mg "deed_text" = some (.ref (He.ga K "deed_text"))
  d_read_deed : ∃ fd, FnT K "read_deed" s_read_deed fd
  g_read_deed : mg "read_deed" = some (.ref (He.ga K "read_deed"))
  d__law_kinds : ∃ fd, FnT K "_law_kinds" s__law_kinds fd
  g__law_kinds : mg "_law_kinds" = some (.ref (He.ga K "_law_kinds"))
  d__law_told_text : ∃ fd, FnT K "_law_told_text" s__law_told_text fd
  g__law_told_text : mg "_law_told_text" = some (.ref (He.ga K "_law_told_text"))
  d__law_number : ∃ fd, FnT K "_law_number" s__law_number fd
  g__law_number : mg "_law_number" = some (.ref (He.ga K "_law_number"))
  d__law_words : ∃ fd, FnT K "_law_words" s__law_words fd
  g__law_words : mg "_law_words" = some (.ref (He.ga K "_law_words"))
  d__law_read_deed : ∃ fd, FnT K "_law_read_deed" s__law_read_deed fd
  g__law_read_deed : mg "_law_read_deed" = some (.ref (He.ga K "_law_read_deed"))
  d__law_bag : ∃ fd, FnT K "_law_bag" s__law_bag fd
  g__law_bag : mg "_law_bag" = some (.ref (He.ga K "_law_bag"))
  d__law_take : ∃ fd, FnT K "_law_take" s__law_take fd
  g__law_take : mg "_law_take" = some (.ref (He.ga K "_law_take"))
  d__law_bent : ∃ fd, FnT K "_law_bent" s__law_bent fd
  g__law_bent : mg "_law_bent" = some (.ref (He.ga K "_law_bent"))
  d_law : ∃ fd, FnT K "law" s_law fd
  g_law : mg "law" = some (.ref (He.ga K "law"))
  n_ValueError : mg "ValueError" = none
  n_all : mg "all" = none
  n_bool : mg "bool" = none
  n_int : mg "int" = none
  n_isinstance : mg "isinstance" = none
  n_len : mg "len" = none
  n_min : mg "min" = none
  n_range : mg "range" = none
  n_str : mg "str" = none
  n_tuple : mg "tuple" = none
  x_NoText : ExC K mg "NoText"
  kx : Kx K mg
  c_ONES : GloT K mg "ONES" c_ONES
  c_TWOS : GloT K mg "TWOS" c_TWOS
  c_MOST_FIGURES : ∃ t, mg "MOST_FIGURES" = some (.int 9 t)
section
variable {P : Program} {w : World} {K : PySem.W.Frag} {mg : Str → Option Value} {base : Heap}
section
variable {N : List Str} {x : Str} {sc : Scope} {f : Addr} {cdv : Value} {A : Around} {outer : List Env} {s : Shared} {H : Hp} {E : XK}
theorem tkx : L2N.Takes (cxOf (L2N.CX P w) P w K mg base N x sc f cdv A outer s H E) fun cls d x H => E cls d H := L2N.takes_of (X := cxOf (L2N.CX P w) P w K mg base N x sc f cdv A outer s H E) (E := E) rfl rfl rfl rfl
theorem tk : ∀ σ, PassesAt (L2N.CX P w) (cxOf (L2N.CX P w) P w K mg base N x sc f cdv A outer s H E) σ (WE (fun cls d x H => E cls d H) σ) := fun σ => L2N.passAt tkx σ
theorem hp : PassesOwn (model P w) (cxOf (L2N.CX P w) P w K mg base N x sc f cdv A outer s H E).A (cxOf (L2N.CX P w) P w K mg base N x sc f cdv A outer s H E).env (cxOf (L2N.CX P w) P w K mg base N x sc f cdv A outer s H E).xe := passes_of (X := cxOf (L2N.CX P w) P w K mg base N x sc f cdv A outer s H E) rfl
end
theorem sc_is_whole : FnScope N_is_whole P_is_whole (defScope s_is_whole) := ⟨rfl, rfl, rfl, by decide +kernel, rfl, by decide +kernel, by decide +kernel⟩
theorem ok_is_whole (T : Txt K mg)  : Cal P w K mg base 1 "is_whole" 1 f_is_whole := by
  refine cal_of (k := 0) T.d_is_whole T.g_is_whole sc_is_whole (by decide) (fun _ _ _ _ _ _ us hl => match us, hl with | [_], _ => rfl) fun cdv A outer s H E hr => ?_
  have nd := sc_is_whole.nd
  exact (css_one (cs_ret (ce_and (ce_isi "int" (by decide +kernel) T.n_int T.n_isinstance (ce_var 0)) (ce_one (ce_not (ce_isi "bool" (by decide +kernel) T.n_bool T.n_isinstance (ce_var 0)))))))
theorem sc_is_deed : FnScope N_is_deed P_is_deed (defScope s_is_deed) := ⟨rfl, rfl, rfl, by decide +kernel, rfl, by decide +kernel, by decide +kernel⟩
theorem ok_is_deed (T : Txt K mg) (c_is_whole : Cal P w K mg base 1 "is_whole" 1 f_is_whole) : Cal P w K mg base 2 "is_deed" 1 f_is_deed := by
  refine cal_of (k := 1) T.d_is_deed T.g_is_deed sc_is_deed (by decide) (fun _ _ _ _ _ _ us hl => match us, hl with | [_], _ => rfl) fun cdv A outer s H E hr => ?_
  have nd := sc_is_deed.nd
  exact (css_cons (cs_if (ct_w (cw_or (ct_not (ct_val (ce_isi "tuple" (by decide +kernel) T.n_tuple T.n_isinstance (ce_var 0)))) (cw_or (ct_cmp op_lt od_lt (ce_cb cd_len cr_lenA (by rfl) T.n_len PySem.boot_len (ca_cons (ce_var 0) ca_nil)) ce_int (nomark _)) (cw_or1 (ct_not (ct_val (ce_isi "str" (by decide +kernel) T.n_str T.n_isinstance (ce_ixN 0 ce_int (fun _ _ => rfl))))))))) (css_one (cs_ret ce_bool)) css_nil)
    (css_cons (cs_if (ct_not (ct_val (ce_cb cd_all (cr_all rfl) (by rfl) T.n_all (by decide +kernel) (ca_cons (ce_lst (cl_comp rfl nd (own := [("number", 1)]) (ci_seqS (ce_sl (ce_var 0) (co_some ce_int) co_none)) (blkOk_by (own := [("number", 1)]) (N := N_is_deed) (sc := defScope s_is_deed) (by decide +kernel)) (fun _ _ _ _ _ => (cg_name (i := 1) nd)) (fun _ _ _ _ _ => cts_nil) (fun _ _ _ _ _ => (ce_callC c_is_whole hr (by decide) passF (cr_cons (ce_var 1) cr_nil))))) ca_nil)))) (css_one (cs_ret ce_bool)) css_nil)
    (css_one (cs_ret (ce_or (ce_and (ce_cmp op_inA od_inS (ce_ixN 0 ce_int (fun _ _ => rfl)) (ce_globT2 T.c_ONES) (by rfl)) (ce_one (ce_cmp (op_eqD hr.units) od_eq (ce_cb cd_len cr_lenA (by rfl) T.n_len PySem.boot_len (ca_cons (ce_var 0) ca_nil)) ce_int (nomark _)))) (ce_one (ce_and (ce_cmp op_inA od_inS (ce_ixN 0 ce_int (fun _ _ => rfl)) (ce_globT2 T.c_TWOS) (by rfl)) (ce_one (ce_cmp (op_eqD hr.units) od_eq (ce_cb cd_len cr_lenA (by rfl) T.n_len PySem.boot_len (ca_cons (ce_var 0) ca_nil)) ce_int (nomark _))))))))))
theorem sc_number_of : FnScope N_number_of P_number_of (defScope s_number_of) := ⟨rfl, rfl, rfl, by decide +kernel, rfl, by decide +kernel, by decide +kernel⟩
theorem ok_number_of (T : Txt K mg)  : Cal P w K mg base 1 "number_of" 1 f_number_of := by
  refine cal_of (k := 0) T.d_number_of T.g_number_of sc_number_of (by decide) (fun _ _ _ _ _ _ us hl => match us, hl with | [_], _ => rfl) fun cdv A outer s H E hr => ?_
  have nd := sc_number_of.nd
  exact (css_cons (cs_if (ct_w (cw_or (ct_cmp op_lt od_lt (ce_cb cd_len cr_lenA (by rfl) T.n_len PySem.boot_len (ca_cons (ce_var 0) ca_nil)) ce_int (nomark _)) (cw_or (ct_cmp op_gt od_gt (ce_cb cd_len cr_lenA (by rfl) T.n_len PySem.boot_len (ca_cons (ce_var 0) ca_nil)) (ce_globI T.c_MOST_FIGURES.choose_spec) (nomark _)) (cw_or1 (ct_w (cw_and (ct_cmp (op_eqD hr.units) od_eq (ce_ixN 0 ce_int (fun _ _ => rfl)) ce_str (nomark _)) (cw_and1 (ct_cmp (op_neD hr.units) od_ne (ce_var 0) ce_str (nomark _))))))))) (css_one (cs_ret ce_none)) css_nil)
    (css_cons (cs_if (ct_not (ct_val (ce_cb cd_all (cr_all rfl) (by rfl) T.n_all (by decide +kernel) (ca_cons (ce_lst (cl_comp rfl nd (own := [("sign", 1)]) (ci_seqS (ce_var 0)) (blkOk_by (own := [("sign", 1)]) (N := N_number_of) (sc := defScope s_number_of) (by decide +kernel)) (fun _ _ _ _ _ => (cg_name (i := 1) nd)) (fun _ _ _ _ _ => cts_nil) (fun _ _ _ _ _ => (ce_cmp op_inA od_inS (ce_var 1) ce_str (by rfl))))) ca_nil)))) (css_one (cs_ret ce_none)) css_nil)
    (css_one (cs_ret (ce_ct cd_intS call_int_str (by rfl) T.n_int (by decide +kernel) (ca_cons (ce_var 0) ca_nil))))))
theorem sc_numbers_text : FnScope N_numbers_text P_numbers_text (defScope s_numbers_text) := ⟨rfl, rfl, rfl, by decide +kernel, rfl, by decide +kernel, by decide +kernel⟩
theorem ok_numbers_text (T : Txt K mg)  : Cal P w K mg base 1 "numbers_text" 1 f_numbers_text := by
  refine cal_of (k := 0) T.d_numbers_text T.g_numbers_text sc_numbers_text (by decide) (fun _ _ _ _ _ _ us hl => match us, hl with | [_], _ => rfl) fun cdv A outer s H E hr => ?_
  have nd := sc_numbers_text.nd
  exact (css_one (cs_ret (ce_join ce_str (ce_lst (cl_comp rfl nd (own := [("number", 1)]) (ci_seqS (ce_var 0)) (blkOk_by (own := [("number", 1)]) (N := N_numbers_text) (sc := defScope s_numbers_text) (by decide +kernel)) (fun _ _ _ _ _ => (cg_name (i := 1) nd)) (fun _ _ _ _ _ => cts_nil) (fun _ _ _ _ _ => (ce_ct cd_strI call_str_int (by rfl) T.n_str (by decide +kernel) (ca_cons (ce_var 1) ca_nil))))))))
theorem sc_deed_text : FnScope N_deed_text P_deed_text (defScope s_deed_text) := ⟨rfl, rfl, rfl, by decide +kernel, rfl, by decide +kernel, by decide +kernel⟩
theorem ok_deed_text (T : Txt K mg) (c_numbers_text : Cal P w K mg base 1 "numbers_text" 1 f_numbers_text) : Cal P w K mg base 2 "deed_text" 1 f_deed_text := by
  refine cal_of (k := 1) T.d_deed_text T.g_deed_text sc_deed_text (by decide) (fun _ _ _ _ _ _ us hl => match us, hl with | [_], _ => rfl) fun cdv A outer s H E hr => ?_
  have nd := sc_deed_text.nd
  exact (css_one (cs_ret (ce_bin op_addA od_add (ce_bin op_addA od_add (ce_ixN 0 ce_int (fun _ _ => rfl)) ce_str) (ce_callC c_numbers_text hr (by decide) tk (cr_cons (ce_sl (ce_var 0) (co_some ce_int) co_none) cr_nil)))))
theorem sc_read_deed : FnScope N_read_deed P_read_deed (defScope s_read_deed) := ⟨rfl, rfl, rfl, by decide +kernel, rfl, by decide +kernel, by decide +kernel⟩
theorem ok_read_deed (T : Txt K mg) (c_is_deed : Cal P w K mg base 2 "is_deed" 1 f_is_deed) (c_number_of : Cal P w K mg base 1 "number_of" 1 f_number_of) : Cal P w K mg base 3 "read_deed" 1 f_read_deed := by
  refine cal_of (k := 2) T.d_read_deed T.g_read_deed sc_read_deed (by decide) (fun _ _ _ _ _ _ us hl => match us, hl with | [_], _ => rfl) fun cdv A outer s H E hr => ?_
  have nd := sc_read_deed.nd
  exact (css_cons (cs_if (ct_not (ct_val (ce_isi "str" (by decide +kernel) T.n_str T.n_isinstance (ce_var 0)))) (css_one (cs_raise T.x_NoText tkx)) css_nil)
    (css_cons (cs_set (i := 1) nd (ce_lst (cl_split (ce_var 0) ce_str)))
    (css_cons (cs_set (i := 2) nd (ce_bin op_addA od_add (ce_tup (ca_cons (ce_ixN 1 ce_int (fun _ _ => rfl)) ca_nil)) (ce_ct cd_tup call_tuple_ofF (by rfl) T.n_tuple (by decide +kernel) (ca_cons (ce_lst (cl_comp rfl nd (own := [("word", 3)]) (ci_seqS (ce_sl (ce_var 1) (co_some ce_int) co_none)) (blkOk_by (own := [("word", 3)]) (N := N_read_deed) (sc := defScope s_read_deed) (by decide +kernel)) (fun _ _ _ _ _ => (cg_name (i := 3) nd)) (fun _ _ _ _ _ => cts_nil) (fun _ _ _ _ _ => (ce_callC c_number_of hr (by decide) passF (cr_cons (ce_var 3) cr_nil))))) ca_nil))))
    (css_cons (cs_if (ct_not (ct_tru (ce_callC c_is_deed hr (by decide) tk (cr_cons (ce_var 2) cr_nil)))) (css_one (cs_raise T.x_NoText tkx)) css_nil)
    (css_one (cs_ret (ce_var 2)))))))
theorem sc__law_kinds : FnScope N__law_kinds P__law_kinds (defScope s__law_kinds) := ⟨rfl, rfl, rfl, by decide +kernel, rfl, by decide +kernel, by decide +kernel⟩
theorem ok__law_kinds (T : Txt K mg) : CalK P w K mg base 1 "_law_kinds" f__law_kinds := by
  refine calK_of (k := 0) T.d__law_kinds T.g__law_kinds sc__law_kinds rfl (by decide) (fun _ _ _ _ _ _ us hl => match us, hl with | [_], _ => rfl) fun cdv A outer s H a oe d c hc hz hf hot hr => ?_
  have nd := sc__law_kinds.nd
  have hp : (a, oe) ∈ (cxX P w K mg base N__law_kinds "_law_kinds" (defScope s__law_kinds) (He.ga K "_law_kinds") cdv A outer s H (a, oe)).pn := List.mem_singleton.mpr rfl
  exact (css_cons (cs_setL (i := 1) nd (cl_lst (ca_cons (ce_isK (i := 0) "Harm" T.kx hc (by decide) hp hz hf T.n_isinstance) (ca_cons (ce_isK (i := 0) "NoHalf" T.kx hc (by decide) hp hz hf T.n_isinstance) (ca_cons (ce_isK (i := 0) "NoMarks" T.kx hc (by decide) hp hz hf T.n_isinstance) (ca_cons (ce_isK (i := 0) "NoPlain" T.kx hc (by decide) hp hz hf T.n_isinstance) ca_nil))))))
    (css_cons (cs_setL (i := 1) nd (cl_bin op_catR ol_cat (ce_var 1) (ce_lst (cl_lst (ca_cons (ce_isK (i := 0) "NoRim" T.kx hc (by decide) hp hz hf T.n_isinstance) (ca_cons (ce_isK (i := 0) "NoRow" T.kx hc (by decide) hp hz hf T.n_isinstance) (ca_cons (ce_isK (i := 0) "NoSkin" T.kx hc (by decide) hp hz hf T.n_isinstance) (ca_cons (ce_isK (i := 0) "NoText" T.kx hc (by decide) hp hz hf T.n_isinstance) ca_nil))))))))
    (css_cons (cs_setL (i := 1) nd (cl_bin op_catR ol_cat (ce_var 1) (ce_lst (cl_lst (ca_cons (ce_isK (i := 0) "NothingLeft" T.kx hc (by decide) hp hz hf T.n_isinstance) (ca_cons (ce_isK (i := 0) "TooMany" T.kx hc (by decide) hp hz hf T.n_isinstance) (ca_cons (ce_isK (i := 0) "Unfit" T.kx hc (by decide) hp hz hf T.n_isinstance) (ca_cons (ce_isK (i := 0) "Unlike" T.kx hc (by decide) hp hz hf T.n_isinstance) ca_nil))))))))
    (css_cons (cs_set (i := 2) nd (ce_lst (cl_lst (ca_cons ce_str (ca_cons ce_str (ca_cons ce_str (ca_cons ce_str (ca_cons ce_str (ca_cons ce_str (ca_cons ce_str (ca_cons ce_str (ca_cons ce_str (ca_cons ce_str ca_nil)))))))))))))
    (css_cons (cs_set (i := 2) nd (ce_lst (cl_bin op_catR ol_cat (ce_var 2) (ce_lst (cl_lst (ca_cons ce_str (ca_cons ce_str (ca_cons ce_str ca_nil))))))))
    (css_cons (cs_drop (ce_mo 1 om_append PySem.F.slot_list_append PySem.F.type_list_append mt_append (ca_cons (ce_isV (i := 0) T.kx hc hp hz hf T.n_isinstance T.n_ValueError) ca_nil)))
    (css_one (cs_ret (ce_join ce_str (ce_lst (cl_compH hot hp nd (own := [("k", 3)]) (ci_range1H T.n_range (ca_cons ce_int ca_nil)) (blkOk_by (own := [("k", 3)]) (N := N__law_kinds) (sc := defScope s__law_kinds) (by decide +kernel)) (fun _ _ _ _ _ => (cg_name (i := 3) nd)) (fun _ _ _ _ _ => (cts_one (ct_tru (ce_ixN 1 (ce_var 3) (fun _ _ => rfl))))) (fun _ _ _ _ _ => (ce_ixN 2 (ce_var 3) (fun _ _ => rfl))))))))))))))
theorem sc__law_told_text : FnScope N__law_told_text P__law_told_text (defScope s__law_told_text) := ⟨rfl, rfl, rfl, by decide +kernel, rfl, by decide +kernel, by decide +kernel⟩
theorem ok__law_told_text (T : Txt K mg) (c_read_deed : Cal P w K mg base 3 "read_deed" 1 f_read_deed) (c__law_kinds : CalK P w K mg base 1 "_law_kinds" f__law_kinds) : Cal P w K mg base 4 "_law_told_text" 1 f__law_told_text := by
  refine cal_of (k := 3) T.d__law_told_text T.g__law_told_text sc__law_told_text (by decide) (fun _ _ _ _ _ _ us hl => match us, hl with | [_], _ => rfl) fun cdv A outer s H E hr => ?_
  have nd := sc__law_told_text.nd
  exact (css_cons (cs_set (i := 1) nd ce_none)
    (css_cons (cs_set (i := 2) nd ce_str)
    (css_cons (cs_tryK (iE := 3) (iK := 2) T.kx tkx nd (fun _ _ _ tkx hp => have tk := fun σ => L2N.passAt tkx σ; (css_one (cs_set (i := 1) nd (ce_callC c_read_deed hr (by decide) tk (cr_cons (ce_var 0) cr_nil))))) (.cons (by decide) rfl (by decide) (fun c hc hm a oe d pn hz hf => css_one (cs_set (i := 2) nd (ce_kinds (i := 3) c__law_kinds kinds_ok hc hz hf hr (by decide)))) .nil))
    (css_one (cs_ret (ce_if (ct_cmp (op_eqD hr.units) od_eq (ce_var 2) ce_str (nomark _)) (ce_var 1) (ce_var 2)))))))
theorem sc__law_number : FnScope N__law_number P__law_number (defScope s__law_number) := ⟨rfl, rfl, rfl, by decide +kernel, rfl, by decide +kernel, by decide +kernel⟩
theorem ok__law_number (T : Txt K mg)  : Cal P w K mg base 1 "_law_number" 1 f__law_number := by
  refine cal_of (k := 0) T.d__law_number T.g__law_number sc__law_number (by decide) (fun _ _ _ _ _ _ us hl => match us, hl with | [_], _ => rfl) fun cdv A outer s H E hr => ?_
  have nd := sc__law_number.nd
  exact (css_cons (cs_if (ct_w (cw_or (ct_cmp op_lt od_lt (ce_cb cd_len cr_lenA (by rfl) T.n_len PySem.boot_len (ca_cons (ce_var 0) ca_nil)) ce_int (nomark _)) (cw_or (ct_cmp op_gt od_gt (ce_cb cd_len cr_lenA (by rfl) T.n_len PySem.boot_len (ca_cons (ce_var 0) ca_nil)) ce_int (nomark _)) (cw_or1 (ct_cmp (op_neD hr.units) od_ne (ce_lst (cl_comp rfl nd (own := [("sign", 1)]) (ci_seqS (ce_var 0)) (blkOk_by (own := [("sign", 1)]) (N := N__law_number) (sc := defScope s__law_number) (by decide +kernel)) (fun _ _ _ _ _ => (cg_name (i := 1) nd)) (fun _ _ _ _ _ => (cts_one (ct_cmp op_notInA od_notInS (ce_var 1) ce_str (by rfl)))) (fun _ _ _ _ _ => (ce_var 1)))) (ce_lst (cl_lst ca_nil)) (nomark _)))))) (css_one (cs_ret ce_none)) css_nil)
    (css_one (cs_ret (ce_if (ct_w (cw_and (ct_cmp (op_eqD hr.units) od_eq (ce_ixN 0 ce_int (fun _ _ => rfl)) ce_str (nomark _)) (cw_and1 (ct_cmp (op_neD hr.units) od_ne (ce_var 0) ce_str (nomark _))))) ce_none (ce_ct cd_intS call_int_str (by rfl) T.n_int (by decide +kernel) (ca_cons (ce_var 0) ca_nil))))))
theorem sc__law_words : FnScope N__law_words P__law_words (defScope s__law_words) := ⟨rfl, rfl, rfl, by decide +kernel, rfl, by decide +kernel, by decide +kernel⟩
theorem ok__law_words (T : Txt K mg)  : Cal P w K mg base 1 "_law_words" 0 f__law_words := by
  refine cal_of (k := 0) T.d__law_words T.g__law_words sc__law_words (by decide) (fun _ _ _ _ _ _ us hl => match us, hl with | [], _ => rfl) fun cdv A outer s H E hr => ?_
  have nd := sc__law_words.nd
  exact (css_cons (cs_set (i := 0) nd (ce_lst (cl_lst (ca_cons ce_str (ca_cons ce_str (ca_cons ce_str (ca_cons ce_str (ca_cons ce_str (ca_cons ce_str (ca_cons ce_str (ca_cons ce_str (ca_cons ce_str (ca_cons ce_str (ca_cons ce_str (ca_cons ce_str (ca_cons ce_str ca_nil))))))))))))))))
    (css_one (cs_ret (ce_lst (cl_bin op_catR ol_cat (ce_var 0) (ce_lst (cl_lst (ca_cons ce_str (ca_cons ce_str ca_nil)))))))))
theorem sc__law_read_deed : FnScope N__law_read_deed P__law_read_deed (defScope s__law_read_deed) := ⟨rfl, rfl, rfl, by decide +kernel, rfl, by decide +kernel, by decide +kernel⟩
theorem ok__law_read_deed (T : Txt K mg) (c__law_number : Cal P w K mg base 1 "_law_number" 1 f__law_number) (c__law_words : Cal P w K mg base 1 "_law_words" 0 f__law_words) : Cal P w K mg base 2 "_law_read_deed" 1 f__law_read_deed := by
  refine cal_of (k := 1) T.d__law_read_deed T.g__law_read_deed sc__law_read_deed (by decide) (fun _ _ _ _ _ _ us hl => match us, hl with | [_], _ => rfl) fun cdv A outer s H E hr => ?_
  have nd := sc__law_read_deed.nd
  exact (css_cons (cs_set (i := 1) nd (ce_lst (cl_split (ce_var 0) ce_str)))
    (css_cons (cs_setComp (i := 2) rfl nd rfl rfl (sw_true rfl rfl rfl (by decide +kernel)) (own := [("word", 4)]) (ci_seqS (ce_sl (ce_var 1) (co_some ce_int) co_none)) (blkOk_by (own := [("word", 4)]) (N := N__law_read_deed) (sc := defScope s__law_read_deed) (by decide +kernel)) (fun _ _ _ _ _ => (cg_name (i := 4) nd)) (fun _ _ _ _ _ => cts_nil) (fun _ _ _ _ _ => (ce_callC c__law_number hr (by decide) passF (cr_cons (ce_var 4) cr_nil))))
    (css_cons (cs_set (i := 3) nd (ce_get2 (hu_of hr) (ce_dct (cm_disp (cps_cons ce_str ce_int (cps_cons ce_str ce_int (cps_cons ce_str ce_int cps_nil))))) (ce_ixN 1 ce_int (fun _ _ => rfl)) ce_int))
    (css_cons (cs_if (ct_w (cw_or (ct_cmp op_notInA od_notInS (ce_ixN 1 ce_int (fun _ _ => rfl)) (ce_call0C c__law_words hr (by decide)) (by rfl)) (cw_or (ct_cmp (op_neD hr.units) od_ne (ce_cb cd_len cr_lenA (by rfl) T.n_len PySem.boot_len (ca_cons (ce_var 2) ca_nil)) (ce_var 3) (nomark _)) (cw_or1 (ct_cmp op_inA od_inS ce_none (ce_var 2) (by rfl)))))) (css_one (cs_ret ce_str)) css_nil)
    (css_one (cs_ret (ce_bin op_addA od_add (ce_tup (ca_cons (ce_ixN 1 ce_int (fun _ _ => rfl)) ca_nil)) (ce_ct cd_tup call_tuple_ofF (by rfl) T.n_tuple (by decide +kernel) (ca_cons (ce_var 2) ca_nil)))))))))
theorem sc__law_bag : FnScope N__law_bag P__law_bag (defScope s__law_bag) := ⟨rfl, rfl, rfl, by decide +kernel, rfl, by decide +kernel, by decide +kernel⟩
theorem ok__law_bag (T : Txt K mg)  : Cal P w K mg base 1 "_law_bag" 2 f__law_bag := by
  refine cal_of (k := 0) T.d__law_bag T.g__law_bag sc__law_bag (by decide) (fun _ _ _ _ _ _ us hl => match us, hl with | [_, _], _ => rfl) fun cdv A outer s H E hr => ?_
  have nd := sc__law_bag.nd
  exact (css_cons (cs_set (i := 2) nd ce_int)
    (css_cons (cs_if (ct_cmp op_lt od_lt (ce_var 1) (ce_cb cd_len cr_lenA (by rfl) T.n_len PySem.boot_len (ca_cons (ce_var 0) ca_nil)) (nomark _)) (css_one (cs_set (i := 2) nd (ce_bin op_mod od_mod (ce_ixN 0 (ce_var 1) (fun _ _ => rfl)) (ce_bin op_mulAT od_mulT (ce_bin op_pow od_pow ce_int ce_int) (ce_bin op_pow od_pow ce_int ce_int))))) css_nil)
    (css_cons (cs_if (ct_cmp op_lt od_lt (ce_var 2) (ce_bin op_pow od_pow ce_int ce_int) (nomark _)) (css_one (cs_retL (cl_lst (ca_cons ce_int (ca_cons (ce_bin op_addA od_add ce_int (ce_bin op_mod od_mod (ce_bin op_addA od_add (ce_bin op_mulAT od_mulT (ce_var 2) ce_int) (ce_bin op_mulAT od_mulT ce_int (ce_var 1))) ce_int)) ca_nil))))) css_nil)
    (css_one (cs_retL (cl_lst (ca_cons (ce_var 2) (ca_cons (ce_bin op_addA od_add ce_int (ce_bin op_mod od_mod (ce_bin op_addA od_add (ce_var 2) (ce_var 1)) ce_int)) ca_nil))))))))
theorem sc__law_take : FnScope N__law_take P__law_take (defScope s__law_take) := ⟨rfl, rfl, rfl, by decide +kernel, rfl, by decide +kernel, by decide +kernel⟩
theorem ok__law_take (T : Txt K mg)  : Cal P w K mg base 1 "_law_take" 2 f__law_take := by
  refine cal_of (k := 0) T.d__law_take T.g__law_take sc__law_take (by decide) (fun _ _ _ _ _ _ us hl => match us, hl with | [_, _], _ => rfl) fun cdv A outer s H E hr => ?_
  have nd := sc__law_take.nd
  exact (css_cons (cs_if (ct_cmp op_gt od_gt (ce_ixN 0 ce_int (fun _ _ => rfl)) ce_int (nomark _)) (css_cons (cs_set (i := 2) nd (ce_bin op_mod od_mod (ce_ixN 0 ce_int (fun _ _ => rfl)) (ce_var 1)))
    (css_cons (cs_setO 0 ce_int (ce_bin op_fdivW od_fdiv (ce_ixN 0 ce_int (fun _ _ => rfl)) (ce_var 1)))
    (css_one (cs_ret (ce_var 2))))) css_nil)
    (css_cons (cs_setO 0 ce_int (ce_bin op_mod od_mod (ce_bin op_mulAT od_mulT (ce_ixN 0 ce_int (fun _ _ => rfl)) ce_int) ce_int))
    (css_one (cs_ret (ce_bin op_mod od_mod (ce_bin op_fdivW od_fdiv (ce_bin op_mod od_mod (ce_bin op_mulAT od_mulT (ce_ixN 0 ce_int (fun _ _ => rfl)) (ce_ixN 0 ce_int (fun _ _ => rfl))) ce_int) ce_int) (ce_var 1))))))
theorem sc__law_bent : FnScope N__law_bent P__law_bent (defScope s__law_bent) := ⟨rfl, rfl, rfl, by decide +kernel, rfl, by decide +kernel, by decide +kernel⟩
theorem ok__law_bent (T : Txt K mg) (c__law_take : Cal P w K mg base 1 "_law_take" 2 f__law_take) : Cal P w K mg base 2 "_law_bent" 3 f__law_bent := by
  refine cal_of (k := 1) T.d__law_bent T.g__law_bent sc__law_bent (by decide) (fun _ _ _ _ _ _ us hl => match us, hl with | [_, _, _], _ => rfl) fun cdv A outer s H E hr => ?_
  have nd := sc__law_bent.nd
  exact (css_cons (cs_set (i := 3) nd ce_str)
    (css_cons (cs_set (i := 4) nd (ce_ix ix_seq od_ix (ce_lst (cl_lst (ca_cons (ce_ixN 3 (ce_callC c__law_take hr (by decide) tk (cr_lend 0 (cr_cons (ce_cb cd_len cr_lenA (by rfl) T.n_len PySem.boot_len (ca_cons (ce_var 3) ca_nil)) cr_nil))) (fun _ _ => rfl)) (ca_cons (ce_ixN 2 (ce_callC c__law_take hr (by decide) tk (cr_lend 0 (cr_cons (ce_cb cd_len cr_lenA (by rfl) T.n_len PySem.boot_len (ca_cons (ce_var 2) ca_nil)) cr_nil))) (fun _ _ => rfl)) ca_nil)))) (ce_callC c__law_take hr (by decide) tk (cr_lend 0 (cr_cons ce_int cr_nil))) (fun _ _ => rfl)))
    (css_cons (cs_set (i := 5) nd (ce_callC c__law_take hr (by decide) tk (cr_lend 0 (cr_cons (ce_bin op_addA od_add (ce_cb cd_len cr_lenA (by rfl) T.n_len PySem.boot_len (ca_cons (ce_var 1) ca_nil)) ce_int) cr_nil))))
    (css_cons (cs_set (i := 6) nd (ce_callC c__law_take hr (by decide) tk (cr_lend 0 (cr_cons ce_int cr_nil))))
    (css_cons (cs_if (ct_cmp op_lt od_lt (ce_var 6) ce_int (nomark _)) (css_one (cs_ret (ce_bin op_addA od_add (ce_bin op_addA od_add (ce_sl (ce_var 1) co_none (co_some (ce_var 5))) (ce_var 4)) (ce_sl (ce_var 1) (co_some (ce_bin op_addA od_add (ce_var 5) (ce_var 6))) co_none)))) css_nil)
    (css_cons (cs_if (ct_cmp (op_eqD hr.units) od_eq (ce_var 6) ce_int (nomark _)) (css_one (cs_ret (ce_bin op_addA od_add (ce_sl (ce_var 1) co_none (co_some (ce_var 5))) (ce_sl (ce_var 1) (co_some (ce_bin op_addA od_add (ce_var 5) ce_int)) co_none)))) css_nil)
    (css_cons (cs_if (ct_cmp (op_eqD hr.units) od_eq (ce_var 6) ce_int (nomark _)) (css_one (cs_ret (ce_bin op_addA od_add (ce_sl (ce_var 1) co_none (co_some (ce_bin op_addA od_add (ce_var 5) ce_int))) (ce_sl (ce_var 1) (co_some (ce_var 5)) co_none)))) css_nil)
    (css_cons (cs_if (ct_cmp (op_eqD hr.units) od_eq (ce_var 6) ce_int (nomark _)) (css_one (cs_ret (ce_bin op_addA od_add (ce_bin op_addA od_add (ce_sl (ce_var 1) co_none (co_some (ce_var 5))) (ce_revS (ce_sl (ce_var 1) (co_some (ce_var 5)) (co_some (ce_bin op_addA od_add (ce_var 5) ce_int))))) (ce_sl (ce_var 1) (co_some (ce_bin op_addA od_add (ce_var 5) ce_int)) co_none)))) css_nil)
    (css_cons (cs_set (i := 7) nd (ce_lst (cl_split (ce_var 1) ce_str)))
    (css_cons (cs_set (i := 5) nd (ce_callC c__law_take hr (by decide) tk (cr_lend 0 (cr_cons (ce_cb cd_len cr_lenA (by rfl) T.n_len PySem.boot_len (ca_cons (ce_var 7) ca_nil)) cr_nil))))
    (css_cons (cs_set (i := 8) nd (ce_ix ix_seq od_ix (ce_lst (cl_lst (ca_cons (ce_lst (cl_lst ca_nil)) (ca_cons (ce_lst (cl_rep (cl_lst (ca_cons (ce_ixN 7 (ce_var 5) (fun _ _ => rfl)) ca_nil)) ce_int)) (ca_cons (ce_lst (cl_lst (ca_cons (ce_ixN 7 (ce_callC c__law_take hr (by decide) tk (cr_lend 0 (cr_cons (ce_cb cd_len cr_lenA (by rfl) T.n_len PySem.boot_len (ca_cons (ce_var 7) ca_nil)) cr_nil))) (fun _ _ => rfl)) ca_nil))) ca_nil))))) (ce_bin op_sub od_sub (ce_var 6) ce_int) (fun _ _ => rfl)))
    (css_one (cs_ret (ce_join ce_str (ce_lst (cl_bin op_catR ol_cat (ce_lst (cl_bin op_catR ol_cat (ce_sl (ce_var 7) co_none (co_some (ce_var 5))) (ce_var 8))) (ce_sl (ce_var 7) (co_some (ce_bin op_addA od_add (ce_var 5) ce_int)) co_none)))))))))))))))))
theorem sc_law : FnScope N_law P_law (defScope s_law) := ⟨rfl, rfl, rfl, by decide +kernel, rfl, by decide +kernel, by decide +kernel⟩
theorem ok_law (T : Txt K mg) (c__law_bag : Cal P w K mg base 1 "_law_bag" 2 f__law_bag) (c__law_words : Cal P w K mg base 1 "_law_words" 0 f__law_words) (c__law_told_text : Cal P w K mg base 4 "_law_told_text" 1 f__law_told_text) (c__law_bent : Cal P w K mg base 2 "_law_bent" 3 f__law_bent) (c__law_read_deed : Cal P w K mg base 2 "_law_read_deed" 1 f__law_read_deed) (c_deed_text : Cal P w K mg base 2 "deed_text" 1 f_deed_text) (c__law_take : Cal P w K mg base 1 "_law_take" 2 f__law_take) {fd : FuncData} (F : FnT K "law" s_law fd) : FnOk P w K mg base (L2N.CX P w) 5 (He.ga K "law") fd P_law (spD K mg 1 f_law) := by
  refine fn_bodyD (k := 4) F sc_law (by decide) fun cdv A outer s H E hr => ?_
  have nd := sc_law.nd
  exact (css_cons (cs_for hp rfl (ci_range1 T.n_range (ca_cons (ce_bin op_addA od_add ce_int (ce_cb cd_min (call_min2 rfl) (by rfl) T.n_min (by decide +kernel) (ca_cons (ce_cb cd_len cr_lenA (by rfl) T.n_len PySem.boot_len (ca_cons (ce_var 0) ca_nil)) (ca_cons ce_int ca_nil)))) ca_nil)) (cg_name (i := 1) nd) (css_cons (cs_setL (i := 2) nd (cl_callC c__law_bag hr (by decide) tk (cr_cons (ce_var 0) (cr_cons (ce_var 1) cr_nil))))
    (css_one (cs_for hp rfl (ci_seqS (ce_call0C c__law_words hr (by decide))) (cg_name (i := 3) nd) (css_cons (cs_setL (i := 4) nd (cl_lst ca_nil))
    (css_cons (cs_for hp rfl (ci_range1 T.n_range (ca_cons (ce_bin op_addA od_add ce_int (ce_ct cd_int call_int1 (by rfl) T.n_int (by decide +kernel) (ca_cons (ce_cmp op_inA od_inS (ce_var 3) (ce_lst (cl_lst (ca_cons ce_str (ca_cons ce_str (ca_cons ce_str ca_nil))))) (by rfl)) ca_nil))) ca_nil)) (cg_name (i := 5) nd) (css_one (cs_drop (ce_mo 4 om_append PySem.F.slot_list_append PySem.F.type_list_append mt_append (ca_cons (ce_ix ix_seq od_ix (ce_lst (cl_lst (ca_cons (ce_callC c__law_take hr (by decide) tk (cr_lend 2 (cr_cons ce_int cr_nil))) (ca_cons (ce_callC c__law_take hr (by decide) tk (cr_lend 2 (cr_cons (ce_bin op_pow od_pow ce_int ce_int) cr_nil))) (ca_cons ce_int (ca_cons (ce_bin op_sub od_sub (ce_bin op_pow od_pow ce_int ce_int) ce_int) ca_nil)))))) (ce_callC c__law_take hr (by decide) tk (cr_lend 2 (cr_cons ce_int cr_nil))) (fun _ _ => rfl)) ca_nil)))))
    (css_cons (cs_set (i := 6) nd (ce_join ce_str (ce_lst (cl_bin op_catR ol_cat (ce_lst (cl_lst (ca_cons (ce_var 3) ca_nil))) (ce_lst (cl_comp rfl nd (own := [("number", 9)]) (ci_seqS (ce_var 4)) (blkOk_by (own := [("number", 9)]) (N := N_law) (sc := defScope s_law) (by decide +kernel)) (fun _ _ _ _ _ => (cg_name (i := 9) nd)) (fun _ _ _ _ _ => cts_nil) (fun _ _ _ _ _ => (ce_ct cd_strI call_str_int (by rfl) T.n_str (by decide +kernel) (ca_cons (ce_var 9) ca_nil)))))))))
    (css_cons (cs_if (ct_w (cw_or (ct_cmp (op_neD hr.units) od_ne (ce_callC c_deed_text hr (by decide) tk (cr_cons (ce_bin op_addA od_add (ce_tup (ca_cons (ce_var 3) ca_nil)) (ce_tupO 4 T.n_tuple)) cr_nil)) (ce_var 6) (nomark _)) (cw_or1 (ct_cmp (op_neD hr.units) od_ne (ce_callC c__law_told_text hr (by decide) tk (cr_cons (ce_var 6) cr_nil)) (ce_bin op_addA od_add (ce_tup (ca_cons (ce_var 3) ca_nil)) (ce_tupO 4 T.n_tuple)) (nomark _))))) (css_one (cs_ret ce_bool)) css_nil)
    (css_cons (cs_for hp rfl (ci_range1 T.n_range (ca_cons (ce_bin op_addA od_add ce_int (ce_callC c__law_take hr (by decide) tk (cr_lend 2 (cr_cons ce_int cr_nil)))) ca_nil)) (cg_name (i := 7) nd) (css_one (cs_set (i := 6) nd (ce_callC c__law_bent hr (by decide) tk (cr_lend 2 (cr_cons (ce_var 6) (cr_cons (ce_lst (cl_lst (ca_cons ce_str (ca_cons ce_str (ca_cons ce_str (ca_cons ce_str (ca_cons ce_str (ca_cons ce_str (ca_cons ce_str ca_nil))))))))) cr_nil)))))))
    (css_one (cs_if (ct_cmp (op_neD hr.units) od_ne (ce_callC c__law_told_text hr (by decide) tk (cr_cons (ce_var 6) cr_nil)) (ce_callC c__law_read_deed hr (by decide) tk (cr_cons (ce_var 6) cr_nil)) (nomark _)) (css_one (cs_ret ce_bool)) css_nil)))))))))))
    (css_cons (cs_for hp rfl (ci_seqS (ce_lst (cl_lst (ca_cons ce_none (ca_cons ce_int (ca_cons ce_bool (ca_cons (ce_lst (cl_lst ca_nil)) (ca_cons (ce_tup (ca_cons ce_str ca_nil)) (ca_cons (ce_lst (cl_lst (ca_cons ce_str ca_nil))) (ca_cons ce_str (ca_cons ce_str (ca_cons ce_str (ca_cons ce_str (ca_cons ce_str (ca_cons ce_str ca_nil))))))))))))))) (cg_name (i := 8) nd) (css_one (cs_if (ct_cmp (op_neD hr.units) od_ne (ce_callC c__law_told_text hr (by decide) tk (cr_cons (ce_var 8) cr_nil)) ce_str (nomark _)) (css_one (cs_ret ce_bool)) css_nil)))
    (css_one (cs_ret ce_bool))))
end
end K44
set_option Elab.async false
set_option linter.all false
set_option maxRecDepth 100000
set_option maxHeartbeats 4000000
namespace K44
open PySem L2 DL LW
theorem tup_strs (K : PySem.W.Frag) : ∀ ss : List Str, (ss.map He.Dv.str).map (He.Dv.v K) = ss.map V.str
  | [] => rfl
  | s :: ss => by rw [List.map_cons, List.map_cons, tup_strs K ss]; rfl
theorem txt {K : PySem.W.Frag} {h : Heap} {mg : Str → Option Value} (X : K.In h) (G : h.Ns mainGlobals mg) (c : He.SaysD fa fn K) (e : exB K = true) : Txt K mg where
  d_is_whole := c.def_ 0 (d := defD "is_whole" s_is_whole) rfl
  g_is_whole := He.glo_ok X G (c.fact 0 (f := .glo "is_whole") rfl)
  d_is_deed := c.def_ 1 (d := defD "is_deed" s_is_deed) rfl
  g_is_deed := He.glo_ok X G (c.fact 1 (f := .glo "is_deed") rfl)
  d_number_of := c.def_ 2 (d := defD "number_of" s_number_of) rfl
  g_number_of := He.glo_ok X G (c.fact 2 (f := .glo "number_of") rfl)
  d_numbers_text := c.def_ 3 (d := defD "numbers_text" s_numbers_text) rfl
  g_numbers_text := He.glo_ok X G (c.fact 3 (f := .glo "numbers_text") rfl)
  d_deed_text := c.def_ 4 (d := defD "deed_text" s_deed_text) rfl
  g_deed_text := He.glo_ok X G (c.fact 4 (f := .glo "deed_text") rfl)
  d_read_deed := c.def_ 5 (d := defD "read_deed" s_read_deed) rfl
  g_read_deed := He.glo_ok X G (c.fact 5 (f := .glo "read_deed") rfl)
  d__law_kinds := c.def_ 6 (d := defD "_law_kinds" s__law_kinds) rfl
  g__law_kinds := He.glo_ok X G (c.fact 6 (f := .glo "_law_kinds") rfl)
  d__law_told_text := c.def_ 7 (d := defD "_law_told_text" s__law_told_text) rfl
  g__law_told_text := He.glo_ok X G (c.fact 7 (f := .glo "_law_told_text") rfl)
  d__law_number := c.def_ 8 (d := defD "_law_number" s__law_number) rfl
  g__law_number := He.glo_ok X G (c.fact 8 (f := .glo "_law_number") rfl)
  d__law_words := c.def_ 9 (d := defD "_law_words" s__law_words) rfl
  g__law_words := He.glo_ok X G (c.fact 9 (f := .glo "_law_words") rfl)
  d__law_read_deed := c.def_ 10 (d := defD "_law_read_deed" s__law_read_deed) rfl
  g__law_read_deed := He.glo_ok X G (c.fact 10 (f := .glo "_law_read_deed") rfl)
  d__law_bag := c.def_ 11 (d := defD "_law_bag" s__law_bag) rfl
  g__law_bag := He.glo_ok X G (c.fact 11 (f := .glo "_law_bag") rfl)
  d__law_take := c.def_ 12 (d := defD "_law_take" s__law_take) rfl
  g__law_take := He.glo_ok X G (c.fact 12 (f := .glo "_law_take") rfl)
  d__law_bent := c.def_ 13 (d := defD "_law_bent" s__law_bent) rfl
  g__law_bent := He.glo_ok X G (c.fact 13 (f := .glo "_law_bent") rfl)
  d_law := c.def_ 14 (d := defD "law" s_law) rfl
  g_law := He.glo_ok X G (c.fact 14 (f := .glo "law") rfl)
  c_ONES := ⟨He.glo_ok X G (c.fact 15 (f := .glo "ONES") rfl), fun H => by
    have q := tupBN_ok (He.ba (He.ba e).2).1 H
    rw [tup_strs] at q
    exact q⟩
  c_TWOS := ⟨He.glo_ok X G (c.fact 16 (f := .glo "TWOS") rfl), fun H => by
    have q := tupBN_ok (He.ba (He.ba e).2).2 H
    rw [tup_strs] at q
    exact q⟩
  n_ValueError := He.free_ok X G (c.fact 17 (f := .free "ValueError") rfl)
  n_all := He.free_ok X G (c.fact 18 (f := .free "all") rfl)
  n_bool := He.free_ok X G (c.fact 19 (f := .free "bool") rfl)
  n_int := He.free_ok X G (c.fact 20 (f := .free "int") rfl)
  n_isinstance := He.free_ok X G (c.fact 21 (f := .free "isinstance") rfl)
  n_len := He.free_ok X G (c.fact 22 (f := .free "len") rfl)
  n_min := He.free_ok X G (c.fact 23 (f := .free "min") rfl)
  n_range := He.free_ok X G (c.fact 24 (f := .free "range") rfl)
  n_str := He.free_ok X G (c.fact 25 (f := .free "str") rfl)
  n_tuple := He.free_ok X G (c.fact 26 (f := .free "tuple") rfl)
  c_MOST_FIGURES := He.int_ok X G (c.fact 27 (f := .int "MOST_FIGURES" 9) rfl)
  x_NoText := let q := He.exc_ok (c.fact 29 (f := .exc "NoText") rfl); ⟨He.glo_ok X G (c.fact 28 (f := .glo "NoText") rfl), q.1, q.2.1, q.2.2.1, q.2.2.2⟩
  kx := kxB_ok (He.ba e).1 (fun c1 hc => by
    simp only [kNames, List.mem_cons, List.not_mem_nil, or_false] at hc
    rcases hc with rfl | rfl | rfl | rfl | rfl | rfl | rfl | rfl | rfl | rfl | rfl | rfl
    · exact He.glo_ok X G (c.fact 30 (f := .glo "Harm") rfl)
    · exact He.glo_ok X G (c.fact 31 (f := .glo "NoHalf") rfl)
    · exact He.glo_ok X G (c.fact 32 (f := .glo "NoMarks") rfl)
    · exact He.glo_ok X G (c.fact 33 (f := .glo "NoPlain") rfl)
    · exact He.glo_ok X G (c.fact 34 (f := .glo "NoRim") rfl)
    · exact He.glo_ok X G (c.fact 35 (f := .glo "NoRow") rfl)
    · exact He.glo_ok X G (c.fact 36 (f := .glo "NoSkin") rfl)
    · exact He.glo_ok X G (c.fact 37 (f := .glo "NoText") rfl)
    · exact He.glo_ok X G (c.fact 38 (f := .glo "NothingLeft") rfl)
    · exact He.glo_ok X G (c.fact 39 (f := .glo "TooMany") rfl)
    · exact He.glo_ok X G (c.fact 40 (f := .glo "Unfit") rfl)
    · exact He.glo_ok X G (c.fact 41 (f := .glo "Unlike") rfl)
    ) (He.glo_ok X G (c.fact 42 (f := .glo "SkinError") rfl))
theorem law_fn {P : Program} {w : World} {K : PySem.W.Frag} {mg : Str → Option Value} {base : Heap} (T : Txt K mg) {fd : FuncData} (F : FnT K "law" s_law fd) : FnOk P w K mg base (L2N.CX P w) 5 (He.ga K "law") fd P_law (spD K mg 1 f_law) := by
  have c_is_whole := ok_is_whole (P := P) (w := w) (base := base) T 
  have c_is_deed := ok_is_deed (P := P) (w := w) (base := base) T c_is_whole
  have c_number_of := ok_number_of (P := P) (w := w) (base := base) T 
  have c_numbers_text := ok_numbers_text (P := P) (w := w) (base := base) T 
  have c_deed_text := ok_deed_text (P := P) (w := w) (base := base) T c_numbers_text
  have c_read_deed := ok_read_deed (P := P) (w := w) (base := base) T c_is_deed c_number_of
  have c__law_kinds := ok__law_kinds (P := P) (w := w) (base := base) T 
  have c__law_told_text := ok__law_told_text (P := P) (w := w) (base := base) T c_read_deed c__law_kinds
  have c__law_number := ok__law_number (P := P) (w := w) (base := base) T 
  have c__law_words := ok__law_words (P := P) (w := w) (base := base) T 
  have c__law_read_deed := ok__law_read_deed (P := P) (w := w) (base := base) T c__law_number c__law_words
  have c__law_bag := ok__law_bag (P := P) (w := w) (base := base) T 
  have c__law_take := ok__law_take (P := P) (w := w) (base := base) T 
  have c__law_bent := ok__law_bent (P := P) (w := w) (base := base) T c__law_take
  exact ok_law (P := P) (w := w) (base := base) T c__law_bag c__law_words c__law_told_text c__law_bent c__law_read_deed c_deed_text c__law_take F
end K44
set_option Elab.async false
set_option linter.all false
set_option maxRecDepth 100000
set_option maxHeartbeats 4000000
namespace LW
open PySem L2 DL
def isIntD : D → Bool
  | .int _ => true
  | .bool _ => true
  | _ => false
def isBoolD : D → Bool
  | .bool _ => true
  | _ => false
def isStrD : D → Bool
  | .str _ => true
  | _ => false
def isTupD : D → Bool
  | .tuple _ => true
  | _ => false
theorem isi_of {T : String} {d : D} {b : Bool} (h : kitB (tyD d) T = some b) : isiD T d = some (.bool b) := by
  unfold isiD
  rw [h]
  rfl
theorem isi_int (d : D) : isiD "int" d = some (.bool (isIntD d)) := by
  cases d with
  | none => exact isi_of (show kitB "NoneType" "int" = some false by decide +kernel)
  | bool _ => exact isi_of (show kitB "bool" "int" = some true by decide +kernel)
  | int _ => exact isi_of (show kitB "int" "int" = some true by decide +kernel)
  | str _ => exact isi_of (show kitB "str" "int" = some false by decide +kernel)
  | list _ => exact isi_of (show kitB "list" "int" = some false by decide +kernel)
  | tuple _ => exact isi_of (show kitB "tuple" "int" = some false by decide +kernel)
  | dict _ => exact isi_of (show kitB "dict" "int" = some false by decide +kernel)
theorem isi_bool (d : D) : isiD "bool" d = some (.bool (isBoolD d)) := by
  cases d with
  | none => exact isi_of (show kitB "NoneType" "bool" = some false by decide +kernel)
  | bool _ => exact isi_of (show kitB "bool" "bool" = some true by decide +kernel)
  | int _ => exact isi_of (show kitB "int" "bool" = some false by decide +kernel)
  | str _ => exact isi_of (show kitB "str" "bool" = some false by decide +kernel)
  | list _ => exact isi_of (show kitB "list" "bool" = some false by decide +kernel)
  | tuple _ => exact isi_of (show kitB "tuple" "bool" = some false by decide +kernel)
  | dict _ => exact isi_of (show kitB "dict" "bool" = some false by decide +kernel)
theorem isi_str (d : D) : isiD "str" d = some (.bool (isStrD d)) := by
  cases d with
  | none => exact isi_of (show kitB "NoneType" "str" = some false by decide +kernel)
  | bool _ => exact isi_of (show kitB "bool" "str" = some false by decide +kernel)
  | int _ => exact isi_of (show kitB "int" "str" = some false by decide +kernel)
  | str _ => exact isi_of (show kitB "str" "str" = some true by decide +kernel)
  | list _ => exact isi_of (show kitB "list" "str" = some false by decide +kernel)
  | tuple _ => exact isi_of (show kitB "tuple" "str" = some false by decide +kernel)
  | dict _ => exact isi_of (show kitB "dict" "str" = some false by decide +kernel)
theorem isi_tup (d : D) : isiD "tuple" d = some (.bool (isTupD d)) := by
  cases d with
  | none => exact isi_of (show kitB "NoneType" "tuple" = some false by decide +kernel)
  | bool _ => exact isi_of (show kitB "bool" "tuple" = some false by decide +kernel)
  | int _ => exact isi_of (show kitB "int" "tuple" = some false by decide +kernel)
  | str _ => exact isi_of (show kitB "str" "tuple" = some false by decide +kernel)
  | list _ => exact isi_of (show kitB "list" "tuple" = some false by decide +kernel)
  | tuple _ => exact isi_of (show kitB "tuple" "tuple" = some true by decide +kernel)
  | dict _ => exact isi_of (show kitB "dict" "tuple" = some false by decide +kernel)
theorem divOk_of {m : Int} (h : 0 < m) (h2 : m < 2 ^ 64) : divOk m = true := by
  unfold divOk
  have h3 : m.natAbs < 2 ^ 64 := by omega
  have h4 : m.natAbs < 2 ^ 4000 := Nat.lt_of_lt_of_le h3 (Nat.pow_le_pow_right (by decide) (by decide))
  rw [decide_eq_true h, decide_eq_true h4]
  rfl
theorem mulOk_r {i j : Int} (h1 : -(2 ^ 64) < j) (h2 : j < 2 ^ 64) : mulOk i j = true := by
  unfold mulOk
  rw [decide_eq_true h1, decide_eq_true h2]
  simp
theorem mulOk_l {i j : Int} (h1 : -(2 ^ 64) < i) (h2 : i < 2 ^ 64) : mulOk i j = true := by
  unfold mulOk
  rw [decide_eq_true h1, decide_eq_true h2]
  simp
def T18 : Int := 10 ^ 18
def T120 : Int := 10 ^ 60 * 10 ^ 60
theorem T120_pos : 0 < T120 := by decide +kernel
theorem powOk60 : powOk 10 60 = true := by decide +kernel
theorem powOk18 : powOk 10 18 = true := by decide +kernel
theorem mulOk60 : mulOk ((10 : Int) ^ (60 : Int).toNat) ((10 : Int) ^ (60 : Int).toNat) = true := by decide +kernel
end LW
set_option Elab.async false
set_option linter.all false
set_option maxRecDepth 100000
set_option maxHeartbeats 4000000
namespace DL
open PySem L2
def np : Sl → Bool
  | .p _ => false
  | _ => true
def Fl.out (args : DEnv) : Fl → Fo
  | .nx e => .ok .none (outsOf args e)
  | .rt d e => .ok d (outsOf args e)
  | .rl xs e => .okl xs (outsOf args e)
  | .ex x e => .ex x (outsOf args e)
  | _ => .stuck
theorem bodyF_ap (n : Nat) (ds : DS) (args : DEnv) : bodyF n ds args = (ds (args ++ List.replicate (n - args.length) Sl.no)).out args := by
  unfold bodyF
  cases ds (args ++ List.replicate (n - args.length) Sl.no) <;> rfl
end DL
namespace LW
open PySem L2 DL
def shD (k : Nat) (d : D) : Prop := d.canLay0 = true ∧ d.depth ≤ k
def shA (k : Nat) (xs : List D) : Prop := ∀ x, x ∈ xs → shD k x
theorem shA_lay {k : Nat} : ∀ {xs : List D}, shA k xs → PyData.canLayAll0 xs = true ∧ PyData.depthAll xs ≤ k
  | [], _ => ⟨rfl, Nat.zero_le _⟩
  | x :: xs, h => by
    have a := h x (List.mem_cons_self ..)
    have b := shA_lay (xs := xs) fun y hy => h y (List.mem_cons_of_mem _ hy)
    simp only [PyData.canLayAll0, PyData.depthAll, Bool.and_eq_true]
    exact ⟨⟨a.1, b.1⟩, Nat.max_le.2 ⟨a.2, b.2⟩⟩
theorem shD_tup {k : Nat} {xs : List D} (h : shA k xs) : shD (k + 1) (.tuple xs) := by
  obtain ⟨a, b⟩ := shA_lay h
  exact ⟨by simpa [PyData.canLay0] using a, by simp [PyData.depth]; exact b⟩
theorem shD_lst {k : Nat} {xs : List D} (h : shA k xs) : shD (k + 1) (.list xs) := by
  obtain ⟨a, b⟩ := shA_lay h
  exact ⟨by simpa [PyData.canLay0] using a, by simp [PyData.depth]; exact b⟩
theorem shD_int (k : Nat) (i : Int) : shD k (.int i) := ⟨rfl, by simp [PyData.depth]⟩
theorem shD_bool (k : Nat) (i : Bool) : shD k (.bool i) := ⟨rfl, by simp [PyData.depth]⟩
theorem shD_none (k : Nat) : shD k .none := ⟨rfl, by simp [PyData.depth]⟩
theorem shD_up {k m : Nat} (hk : k ≤ m) {d : D} (h : shD k d) : shD m d := ⟨h.1, Nat.le_trans h.2 hk⟩
theorem shaped_of {k : Nat} (hk : k ≤ 64) {d : D} (h : shD k d) : SeqAt.shaped d = true := by
  unfold SeqAt.shaped
  simp [h.1]
  exact Nat.le_trans h.2 hk
theorem dEq_of {k : Nat} (hk : k ≤ 64) {a b : D} (ha : shD k a) (hb : shD k b) : dEq a b = some (.bool (PyData.eqv a b)) := by
  unfold dEq
  rw [if_pos ⟨shaped_of hk ha, shaped_of hk hb⟩]
theorem dNe_of {k : Nat} (hk : k ≤ 64) {a b : D} (ha : shD k a) (hb : shD k b) : dNe a b = some (.bool (!PyData.eqv a b)) := by
  unfold dNe
  rw [if_pos ⟨shaped_of hk ha, shaped_of hk hb⟩]
@[simp] theorem dEq_int (i j : Int) : dEq (.int i) (.int j) = some (.bool (decide (i = j))) := by
  rw [dEq_of (k := 0) (by decide) (shD_int ..) (shD_int ..)]
  simp [PyData.eqv]
  rfl
@[simp] theorem dNe_int (i j : Int) : dNe (.int i) (.int j) = some (.bool (!decide (i = j))) := by
  rw [dNe_of (k := 0) (by decide) (shD_int ..) (shD_int ..)]
  simp [PyData.eqv]
  rfl
@[simp] theorem dNe_bool (i j : Bool) : dNe (.bool i) (.bool j) = some (.bool (i != j)) := by
  rw [dNe_of (k := 0) (by decide) (shD_bool ..) (shD_bool ..)]
  simp only [PyData.eqv, bne]
def nD (k : Nat) : D := .int (k : Int)
def nsD (L : List Nat) : List D := L.map nD
def oD : Option Nat → D
  | none => .none
  | some k => nD k
def osD (L : List (Option Nat)) : List D := L.map oD
@[simp] theorem nsD_len (L : List Nat) : (nsD L).length = L.length := by simp [nsD]
@[simp] theorem osD_len (L : List (Option Nat)) : (osD L).length = L.length := by simp [osD]
@[simp] theorem nsD_empty (L : List Nat) : (nsD L).isEmpty = L.isEmpty := by cases L <;> rfl
theorem ixN_of {n k : Nat} (h : k < n) : ixN n (k : Int) = some k := by
  unfold ixN
  rw [if_pos (by omega), if_pos (by omega)]
  simp
structure SkM (n : Nat) (ms : List (Option Nat)) (wt : List Nat) : Prop where
  len : ms.length = n
  nod : wt.Nodup
  lew : wt.length ≤ n
  lone : ∀ x, x ∈ wt → x < n ∧ ms[x]? = some none
  mate : ∀ i j : Nat, ms[i]? = some (some j) → j < n ∧ j ≠ i ∧ ms[j]? = some (some i)
theorem SkM.put {n : Nat} {ms : List (Option Nat)} {wt : List Nat} (h : SkM n ms wt) {a b : Nat} (ha : a ∉ wt) (hb : b ∉ wt) (hab : a ≠ b) (la : a < n) (lb : b < n) (na : ms[a]? = some none) (nb : ms[b]? = some none) : SkM n ((ms.set a (some b)).set b (some a)) wt where
  len := by simp [h.len]
  nod := h.nod
  lew := h.lew
  lone := fun x hx => by
    have := h.lone x hx
    refine ⟨this.1, ?_⟩
    have xb : b ≠ x := fun e => hb (by rw [e]; exact hx)
    have xa : a ≠ x := fun e => ha (by rw [e]; exact hx)
    rw [List.getElem?_set_ne xb, List.getElem?_set_ne xa]
    exact this.2
  mate := fun i j hij => by
    have l1 : a < ms.length := by rw [h.len]; exact la
    have l2 : b < (ms.set a (some b)).length := by simp [h.len, lb]
    by_cases c : i = b
    · subst c
      rw [List.getElem?_set_self l2] at hij
      cases hij
      refine ⟨la, hab, ?_⟩
      rw [List.getElem?_set_ne (Ne.symm hab), List.getElem?_set_self l1]
    · rw [List.getElem?_set_ne (Ne.symm c)] at hij
      by_cases d : i = a
      · subst d
        rw [List.getElem?_set_self l1] at hij
        cases hij
        exact ⟨lb, Ne.symm c, by rw [List.getElem?_set_self l2]⟩
      · rw [List.getElem?_set_ne (Ne.symm d)] at hij
        obtain ⟨x, y, z⟩ := h.mate i j hij
        have ja : j ≠ a := fun e => by rw [e, na] at z; cases z
        have jb : j ≠ b := fun e => by rw [e, nb] at z; cases z
        refine ⟨x, y, ?_⟩
        rw [List.getElem?_set_ne (Ne.symm jb), List.getElem?_set_ne (Ne.symm ja)]
        exact z
theorem SkM.drop {n : Nat} {ms : List (Option Nat)} {wt : List Nat} (h : SkM n ms wt) (k : Nat) : SkM n ms (wt.eraseIdx k) :=
  ⟨h.len, h.nod.sublist (List.eraseIdx_sublist _ _), Nat.le_trans (List.eraseIdx_sublist _ _).length_le h.lew, fun x hx => h.lone x ((List.eraseIdx_sublist _ _).subset hx), h.mate⟩
end LW
set_option Elab.async false
set_option linter.all false
set_option autoImplicit false
namespace NT
open PySem L2 DL LW
inductive N (α : Type) where
  | ok (a : α)
  | ex (x : Xc)
  | stuck
inductive Ct (σ l ρ : Type) where
  | nx (s : σ)
  | rt (r : ρ)
  | bk (s : l)
  | ct (s : l)
  | ex (x : Xc)
  | stuck
section
variable {α β σ τ l ρ : Type}
def N.bd (m : N α) (k : α → N β) : N β := match m with
  | .ok a => k a
  | .ex x => .ex x
  | .stuck => .stuck
def N.ct (m : N α) (k : α → Ct σ l ρ) : Ct σ l ρ := match m with
  | .ok a => k a
  | .ex x => .ex x
  | .stuck => .stuck
def Ct.sq (m : Ct σ l ρ) (k : σ → Ct τ l ρ) : Ct τ l ρ := match m with
  | .nx s => k s
  | .rt r => .rt r
  | .bk s => .bk s
  | .ct s => .ct s
  | .ex x => .ex x
  | .stuck => .stuck
/-- a def's answer: what it returns -/
def Ct.fn (m : Ct σ l ρ) : N ρ := match m with
  | .rt r => .ok r
  | .ex x => .ex x
  | _ => .stuck
/-- the answer of a def that returns nothing: what it leaves -/
def Ct.fp (m : Ct ρ l ρ) : N ρ := match m with
  | .nx r => .ok r
  | .rt r => .ok r
  | .ex x => .ex x
  | _ => .stuck
def ofO (o : Option α) : N α := match o with
  | some a => .ok a
  | none => .stuck
def gd (b : Bool) : N Unit := match b with
  | true => .ok ()
  | false => .stuck
def optC {γ : Type} (x : Option α) (a : γ) (b : α → γ) : γ := match x with
  | none => a
  | some y => b y
@[simp] theorem bd_ok (a : α) (k : α → N β) : (N.ok a).bd k = k a := rfl
@[simp] theorem bd_ex (x : Xc) (k : α → N β) : (N.ex x : N α).bd k = .ex x := rfl
@[simp] theorem bd_stuck (k : α → N β) : (N.stuck : N α).bd k = .stuck := rfl
@[simp] theorem ct_ok (a : α) (k : α → Ct σ l ρ) : (N.ok a).ct k = k a := rfl
@[simp] theorem ct_ex (x : Xc) (k : α → Ct σ l ρ) : (N.ex x : N α).ct k = .ex x := rfl
@[simp] theorem ct_stuck (k : α → Ct σ l ρ) : (N.stuck : N α).ct k = .stuck := rfl
@[simp] theorem sq_nx (s : σ) (k : σ → Ct τ l ρ) : (Ct.nx s : Ct σ l ρ).sq k = k s := rfl
@[simp] theorem sq_rt (s : ρ) (k : σ → Ct τ l ρ) : (Ct.rt s : Ct σ l ρ).sq k = .rt s := rfl
@[simp] theorem sq_bk (s : l) (k : σ → Ct τ l ρ) : (Ct.bk s : Ct σ l ρ).sq k = .bk s := rfl
@[simp] theorem sq_ct (s : l) (k : σ → Ct τ l ρ) : (Ct.ct s : Ct σ l ρ).sq k = .ct s := rfl
@[simp] theorem sq_ex (s : Xc) (k : σ → Ct τ l ρ) : (Ct.ex s : Ct σ l ρ).sq k = .ex s := rfl
@[simp] theorem sq_stuck (k : σ → Ct τ l ρ) : (Ct.stuck : Ct σ l ρ).sq k = .stuck := rfl
@[simp] theorem sq_Nct (m : N α) (k : α → Ct σ l ρ) (j : σ → Ct τ l ρ) : (m.ct k).sq j = m.ct fun a => (k a).sq j := by cases m <;> rfl
@[simp] theorem fn_rt (r : ρ) : (Ct.rt r : Ct σ l ρ).fn = .ok r := rfl
@[simp] theorem fn_ex (r : Xc) : (Ct.ex r : Ct σ l ρ).fn = .ex r := rfl
@[simp] theorem fn_stuck : (Ct.stuck : Ct σ l ρ).fn = .stuck := rfl
@[simp] theorem fn_Nct (m : N α) (k : α → Ct σ l ρ) : (m.ct k).fn = m.bd fun a => (k a).fn := by cases m <;> rfl
@[simp] theorem fp_rt (r : ρ) : (Ct.rt r : Ct ρ l ρ).fp = .ok r := rfl
@[simp] theorem fp_nx (r : ρ) : (Ct.nx r : Ct ρ l ρ).fp = .ok r := rfl
@[simp] theorem fp_ex (r : Xc) : (Ct.ex r : Ct ρ l ρ).fp = .ex r := rfl
@[simp] theorem fp_stuck : (Ct.stuck : Ct ρ l ρ).fp = .stuck := rfl
@[simp] theorem fp_Nct (m : N α) (k : α → Ct ρ l ρ) : (m.ct k).fp = m.bd fun a => (k a).fp := by cases m <;> rfl
@[simp] theorem ofO_some (a : α) : ofO (some a) = .ok a := rfl
@[simp] theorem ofO_none : ofO (none : Option α) = .stuck := rfl
@[simp] theorem gd_true : gd true = .ok () := rfl
@[simp] theorem gd_false : gd false = .stuck := rfl
@[simp] theorem optC_none {γ : Type} (a : γ) (b : α → γ) : optC none a b = a := rfl
@[simp] theorem optC_some {γ : Type} (x : α) (a : γ) (b : α → γ) : optC (some x) a b = b x := rfl
@[simp] theorem fn_ite (c : Prop) [Decidable c] (a b : Ct σ l ρ) : (if c then a else b).fn = if c then a.fn else b.fn := by split <;> rfl
@[simp] theorem fp_ite (c : Prop) [Decidable c] (a b : Ct ρ l ρ) : (if c then a else b).fp = if c then a.fp else b.fp := by split <;> rfl
@[simp] theorem sq_ite (c : Prop) [Decidable c] (a b : Ct σ l ρ) (k : σ → Ct τ l ρ) : (if c then a else b).sq k = if c then a.sq k else b.sq k := by split <;> rfl
@[simp] theorem fn_opt (x : Option α) (a : Ct σ l ρ) (b : α → Ct σ l ρ) : (optC x a b).fn = optC x a.fn fun y => (b y).fn := by cases x <;> rfl
@[simp] theorem sq_opt (x : Option α) (a : Ct σ l ρ) (b : α → Ct σ l ρ) (k : σ → Ct τ l ρ) : (optC x a b).sq k = optC x (a.sq k) fun y => (b y).sq k := by cases x <;> rfl
def Ct.again (r : Ct σ σ ρ) (k : σ → Ct σ l ρ) : Ct σ l ρ := match r with
  | .nx s => k s
  | .ct s => k s
  | .bk s => .nx s
  | .rt r => .rt r
  | .ex x => .ex x
  | .stuck => .stuck
def forC (body : α → σ → Ct σ σ ρ) : List α → σ → Ct σ l ρ
  | [], s => .nx s
  | a :: as, s => (body a s).again (forC body as)
@[simp] theorem again_nx (s : σ) (k : σ → Ct σ l ρ) : (Ct.nx s : Ct σ σ ρ).again k = k s := rfl
@[simp] theorem again_ct (s : σ) (k : σ → Ct σ l ρ) : (Ct.ct s : Ct σ σ ρ).again k = k s := rfl
@[simp] theorem again_bk (s : σ) (k : σ → Ct σ l ρ) : (Ct.bk s : Ct σ σ ρ).again k = .nx s := rfl
@[simp] theorem again_rt (s : ρ) (k : σ → Ct σ l ρ) : (Ct.rt s : Ct σ σ ρ).again k = .rt s := rfl
@[simp] theorem again_ex (s : Xc) (k : σ → Ct σ l ρ) : (Ct.ex s : Ct σ σ ρ).again k = .ex s := rfl
@[simp] theorem again_stuck (k : σ → Ct σ l ρ) : (Ct.stuck : Ct σ σ ρ).again k = .stuck := rfl
@[simp] theorem forC_nil (body : α → σ → Ct σ σ ρ) (s : σ) : (forC body [] s : Ct σ l ρ) = .nx s := rfl
@[simp] theorem forC_cons (body : α → σ → Ct σ σ ρ) (a : α) (as : List α) (s : σ) : (forC body (a :: as) s : Ct σ l ρ) = (body a s).again (forC body as) := rfl
def compN (f : α → N (Option β)) : List α → N (List β)
  | [] => .ok []
  | a :: as => match f a with
    | .ok none => compN f as
    | .ok (some b) => match compN f as with
      | .ok bs => .ok (b :: bs)
      | _ => .stuck
    | _ => .stuck
@[simp] theorem compN_nil (f : α → N (Option β)) : compN f [] = .ok [] := rfl
end
abbrev eI : Int → D := PyData.int
abbrev eB : Bool → D := PyData.bool
abbrev eS : Str → D := PyData.str
abbrev eD (d : D) : D := d
abbrev eU (_ : Unit) : D := PyData.none
section
variable {α β γ δ : Type}
def eO (f : α → D) : Option α → D
  | none => .none
  | some a => f a
abbrev eLs (f : α → D) (xs : List α) : D := .list (xs.map f)
abbrev eTs (f : α → D) (xs : List α) : D := .tuple (xs.map f)
abbrev eP2 (f : α → D) (g : β → D) (p : α × β) : D := .tuple [f p.1, g p.2]
abbrev eP3 (f : α → D) (g : β → D) (h : γ → D) (p : α × β × γ) : D := .tuple [f p.1, g p.2.1, h p.2.2]
abbrev eKv (f : α → D) (g : β → D) (kvs : List (α × β)) : List (D × D) := kvs.map fun p => (f p.1, g p.2)
end
/-- equality of what is written is equality -/
class EqE {α : Type} (f : α → D) : Prop where
  eq : ∀ a b, PyData.eqv (f a) (f b) = true ↔ a = b
/-- what is written can be compared -/
class ShE {α : Type} (f : α → D) (k : outParam Nat) : Prop where
  sh : ∀ a, shD k (f a)
class NnE {α : Type} (f : α → D) : Prop where
  nn : ∀ a, f a ≠ .none
class FlE {α : Type} (f : α → D) : Prop where
  fl : ∀ a, flatD (f a) = true
instance : NnE eI := ⟨fun _ h => by cases h⟩
instance : NnE eB := ⟨fun _ h => by cases h⟩
instance : NnE eS := ⟨fun _ h => by cases h⟩
instance {α : Type} {f : α → D} : NnE (eLs f) := ⟨fun _ h => by cases h⟩
instance {α : Type} {f : α → D} : NnE (eTs f) := ⟨fun _ h => by cases h⟩
instance {α β : Type} {f : α → D} {g : β → D} : NnE (eP2 f g) := ⟨fun _ h => by cases h⟩
instance : FlE eI := ⟨fun _ => rfl⟩
instance : FlE eB := ⟨fun _ => rfl⟩
instance : FlE eS := ⟨fun _ => rfl⟩
instance {α : Type} {f : α → D} [h : FlE f] : FlE (eO f) := ⟨fun a => by cases a; rfl; exact h.fl _⟩
instance : EqE eI := ⟨fun a b => by simp [PyData.eqv, eI]⟩
instance : EqE eB := ⟨fun a b => by simp [PyData.eqv, eB]⟩
instance : EqE eU := ⟨fun a b => by simp [PyData.eqv, eU]⟩
instance : EqE eS := ⟨fun a b => by simp [PyData.eqv, eS]⟩
instance : ShE eI 0 := ⟨fun a => shD_int 0 a⟩
instance : ShE eB 0 := ⟨fun a => shD_bool 0 a⟩
instance : ShE eU 0 := ⟨fun a => shD_none 0⟩
theorem eqv_none {d : D} (h : d ≠ .none) : PyData.eqv .none d = false ∧ PyData.eqv d .none = false := by cases d <;> first | (exact absurd rfl h) | (simp [PyData.eqv])
instance {α : Type} {f : α → D} [h : EqE f] [n : NnE f] : EqE (eO f) := ⟨fun a b => by
  cases a <;> cases b
  · simp [eO, PyData.eqv]
  · simp [eO, (eqv_none (n.nn _)).1]
  · simp [eO, (eqv_none (n.nn _)).2]
  · simp [eO, h.eq]⟩
instance {α : Type} {f : α → D} {k : Nat} [h : ShE f k] : ShE (eO f) k := ⟨fun a => by
  cases a
  · exact shD_none k
  · exact h.sh _⟩
theorem eqvAll_map {α : Type} {f : α → D} [h : EqE f] : ∀ (xs ys : List α), PyData.eqvAll (xs.map f) (ys.map f) = true ↔ xs = ys
  | [], [] => by simp [PyData.eqvAll]
  | [], _ :: _ => by simp [PyData.eqvAll]
  | _ :: _, [] => by simp [PyData.eqvAll]
  | x :: xs, y :: ys => by simp [PyData.eqvAll, h.eq, eqvAll_map xs ys]
theorem shA_map {α : Type} {f : α → D} {k : Nat} [h : ShE f k] (xs : List α) : shA k (xs.map f) := fun x hx => by
  obtain ⟨a, _, rfl⟩ := List.mem_map.1 hx
  exact h.sh a
instance {α : Type} {f : α → D} [h : EqE f] : EqE (eLs f) := ⟨fun a b => by simp [PyData.eqv, eqvAll_map]⟩
instance {α : Type} {f : α → D} [h : EqE f] : EqE (eTs f) := ⟨fun a b => by simp [PyData.eqv, eqvAll_map]⟩
instance {α : Type} {f : α → D} {k : Nat} [h : ShE f k] : ShE (eLs f) (k + 1) := ⟨fun a => shD_lst (shA_map a)⟩
instance {α : Type} {f : α → D} {k : Nat} [h : ShE f k] : ShE (eTs f) (k + 1) := ⟨fun a => shD_tup (shA_map a)⟩
theorem shA_cons {k : Nat} {x : D} {xs : List D} (h : shD k x) (g : shA k xs) : shA k (x :: xs) := fun y hy => by
  rcases List.mem_cons.1 hy with rfl | hy
  · exact h
  · exact g y hy
theorem shA_nil {k : Nat} : shA k [] := fun _ h => absurd h List.not_mem_nil
instance {α β : Type} {f : α → D} {g : β → D} [h : EqE f] [i : EqE g] : EqE (eP2 f g) := ⟨fun a b => by
  obtain ⟨a1, a2⟩ := a
  obtain ⟨b1, b2⟩ := b
  simp [PyData.eqv, PyData.eqvAll, h.eq, i.eq]⟩
instance {α β : Type} {f : α → D} {g : β → D} {k m : Nat} [h : ShE f k] [i : ShE g m] : ShE (eP2 f g) (max k m + 1) := ⟨fun a => shD_tup (shA_cons (shD_up (by omega) (h.sh _)) (shA_cons (shD_up (by omega) (i.sh _)) shA_nil))⟩
instance {α β γ : Type} {f : α → D} {g : β → D} {e : γ → D} [h : EqE f] [i : EqE g] [j : EqE e] : EqE (eP3 f g e) := ⟨fun a b => by
  obtain ⟨a1, a2, a3⟩ := a
  obtain ⟨b1, b2, b3⟩ := b
  simp [PyData.eqv, PyData.eqvAll, h.eq, i.eq, j.eq]⟩
instance {α β γ : Type} {f : α → D} {g : β → D} {e : γ → D} {k m n : Nat} [h : ShE f k] [i : ShE g m] [j : ShE e n] : ShE (eP3 f g e) (max k (max m n) + 1) := ⟨fun a => shD_tup (shA_cons (shD_up (by omega) (h.sh _)) (shA_cons (shD_up (by omega) (i.sh _)) (shA_cons (shD_up (by omega) (j.sh _)) shA_nil)))⟩
theorem eq_typed {α : Type} [DecidableEq α] {f : α → D} {k : Nat} [h : EqE f] [s : ShE f k] (a b : α) (hk : k ≤ 64 := by decide) : dEq (f a) (f b) = some (.bool (decide (a = b))) := by
  rw [dEq_of hk (s.sh a) (s.sh b)]
  congr 2
  rw [Bool.eq_iff_iff, h.eq, decide_eq_true_eq]
theorem ne_typed {α : Type} [DecidableEq α] {f : α → D} {k : Nat} [h : EqE f] [s : ShE f k] (a b : α) (hk : k ≤ 64 := by decide) : dNe (f a) (f b) = some (.bool (!decide (a = b))) := by
  rw [dNe_of hk (s.sh a) (s.sh b)]
  congr 3
  rw [Bool.eq_iff_iff, h.eq, decide_eq_true_eq]
theorem any_typed {α : Type} [DecidableEq α] {f : α → D} [h : EqE f] (xs : List α) (a : α) : ((xs.map f).any fun z => PyData.eqv z (f a)) = decide (a ∈ xs) := by
  rw [Bool.eq_iff_iff, List.any_eq_true, decide_eq_true_eq]
  constructor
  · rintro ⟨d, hd, e⟩
    obtain ⟨b, hb, rfl⟩ := List.mem_map.1 hd
    rw [h.eq] at e
    exact e ▸ hb
  · exact fun hm => ⟨f a, List.mem_map.2 ⟨a, hm, rfl⟩, (h.eq a a).2 rfl⟩
theorem all_flat {α : Type} {f : α → D} [h : FlE f] (xs : List α) : (xs.map f).all flatD = true := by
  rw [List.all_map]
  exact List.all_eq_true.2 fun a _ => h.fl a
def memB {α : Type} [DecidableEq α] (a : α) (xs : List α) : Bool := decide (a ∈ xs)
@[simp] theorem memB_eq {α : Type} [DecidableEq α] (a : α) (xs : List α) : memB a xs = decide (a ∈ xs) := rfl
theorem in_tup {α : Type} [DecidableEq α] {f : α → D} [h : EqE f] [g : FlE f] (a : α) (xs : List α) : dIn (f a) (eTs f xs) = some (.bool (memB a xs)) := by
  show (if (flatD (f a) && (xs.map f).all flatD) = true then some (PyData.bool ((xs.map f).any fun z => PyData.eqv z (f a))) else none) = _
  rw [g.fl, all_flat, any_typed]
  rfl
theorem in_lst {α : Type} [DecidableEq α] {f : α → D} [h : EqE f] [g : FlE f] (a : α) (xs : List α) : dIn (f a) (eLs f xs) = some (.bool (memB a xs)) := by
  show (if (flatD (f a) && (xs.map f).all flatD) = true then some (PyData.bool ((xs.map f).any fun z => PyData.eqv z (f a))) else none) = _
  rw [g.fl, all_flat, any_typed]
  rfl
theorem nin_lst {α : Type} [DecidableEq α] {f : α → D} [h : EqE f] [g : FlE f] (a : α) (xs : List α) : dNotIn (f a) (eLs f xs) = some (.bool (!memB a xs)) := by
  show (if (flatD (f a) && (xs.map f).all flatD) = true then some (PyData.bool (!(xs.map f).any fun z => PyData.eqv z (f a))) else none) = _
  rw [g.fl, all_flat, any_typed]
  rfl
theorem atI_map {α : Type} (f : α → D) (xs : List α) (i : Int) : atI (xs.map f) i = (atI xs i).map f := by
  unfold atI
  rw [List.length_map]
  cases ixN xs.length i <;> simp
end NT
set_option Elab.async false
set_option linter.all false
set_option autoImplicit false
namespace NT
open PySem L2 DL LW
/-- what is known of a slot: it is so; it may be stored to; it holds nothing of its own -/
inductive Sp where
  | is (s : Sl)
  | np
  | nw
def Sp.ok : Sp → Sl → Prop
  | .is s, t => t = s
  | .np, t => DL.np t = true
  | .nw, t => t.own = false
abbrev Sps := List Sp
structure Fits (c : Sps) (e : DEnv) : Prop where
  len : c.length = e.length
  at_ : ∀ (i : Nat) x t, c[i]? = some x → e[i]? = some t → x.ok t
theorem Fits.get {c : Sps} {e : DEnv} (h : Fits c e) {i : Nat} {x : Sp} (hc : c[i]? = some x) : ∃ t, e[i]? = some t ∧ x.ok t := by
  have l := (List.getElem?_eq_some_iff.mp hc).1
  have l2 : i < e.length := by rw [← h.len]; exact l
  exact ⟨e[i], List.getElem?_eq_getElem l2, h.at_ i x _ hc (List.getElem?_eq_getElem l2)⟩
theorem Fits.is {c : Sps} {e : DEnv} (h : Fits c e) {i : Nat} {s : Sl} (hc : c[i]? = some (.is s)) : e[i]? = some s := by
  obtain ⟨t, a, b⟩ := h.get hc
  rw [a]
  exact congrArg _ b
theorem Fits.set {c : Sps} {e : DEnv} (h : Fits c e) (i : Nat) {x : Sp} {t : Sl} (hx : x.ok t) : Fits (c.set i x) (e.set i t) := by
  refine ⟨by simp [h.len], fun j y u hy hu => ?_⟩
  by_cases q : i = j
  · subst q
    have l1 : i < c.length := by have := (List.getElem?_eq_some_iff.mp hy).1; simpa using this
    have l2 : i < e.length := by rw [← h.len]; exact l1
    rw [List.getElem?_set_self l1] at hy
    rw [List.getElem?_set_self l2] at hu
    cases hy; cases hu
    exact hx
  · rw [List.getElem?_set_ne q] at hy hu
    exact h.at_ j y u hy hu
/-- less is known -/
def Wk : Sp → Sp → Prop
  | x, .is s => x = .is s
  | .is s, .np => DL.np s = true
  | .is s, .nw => s.own = false
  | .np, .np => True
  | .nw, .np => True
  | .nw, .nw => True
  | .np, .nw => False
def Sub : Sps → Sps → Prop
  | [], [] => True
  | x :: c, y :: d => Wk x y ∧ Sub c d
  | _, _ => False
theorem Wk.ok {x y : Sp} {t : Sl} (h : Wk x y) (a : x.ok t) : y.ok t := by
  cases y with
  | is s => have : x = .is s := by cases x <;> exact h
            rw [this] at a; exact a
  | np =>
    cases x with
    | is s => exact (show t = s from a) ▸ h
    | np => exact a
    | nw =>
      cases t with
      | p xs => exact absurd a (by intro z; cases z)
      | _ => rfl
  | nw =>
    cases x with
    | is s => exact (show t = s from a) ▸ h
    | np => exact h.elim
    | nw => exact a
theorem Sub.len : ∀ {c d : Sps}, Sub c d → c.length = d.length
  | [], [], _ => rfl
  | _ :: _, _ :: _, h => by rw [List.length_cons, List.length_cons, Sub.len h.2]
  | [], _ :: _, h => h.elim
  | _ :: _, [], h => h.elim
theorem Sub.at_ : ∀ {c d : Sps}, Sub c d → ∀ (i : Nat) y, d[i]? = some y → ∃ x, c[i]? = some x ∧ Wk x y
  | [], [], _, i, y, h => by simp at h
  | x :: c, y :: d, h, 0, z, hz => by simp at hz; subst hz; exact ⟨x, rfl, h.1⟩
  | x :: c, y :: d, h, i + 1, z, hz => by simpa using Sub.at_ h.2 i z (by simpa using hz)
  | [], _ :: _, h, _, _, _ => h.elim
  | _ :: _, [], h, _, _, _ => h.elim
theorem Fits.sub {c d : Sps} {e : DEnv} (h : Fits c e) (s : Sub c d) : Fits d e :=
  ⟨by rw [← s.len]; exact h.len, fun i y t hy ht => by
    obtain ⟨x, hx, w⟩ := s.at_ i y hy
    exact w.ok (h.at_ i x t hx ht)⟩
structure Qs (σ l ρ : Type) where
  nx : σ → DEnv → Prop
  lp : l → DEnv → Prop
  rt : ρ → D → DEnv → Prop
  rl : ρ → List D → DEnv → Prop
  ex : DEnv → Prop
section
variable {α β σ τ l ρ : Type}
def R (m : Ct σ l ρ) (f : Fl) (Q : Qs σ l ρ) : Prop := match m with
  | .nx s => ∃ e, f = .nx e ∧ Q.nx s e
  | .rt r => (∃ d e, f = .rt d e ∧ Q.rt r d e) ∨ ∃ d e, f = .rl d e ∧ Q.rl r d e
  | .bk s => ∃ e, f = .bk e ∧ Q.lp s e
  | .ct s => ∃ e, f = .ct e ∧ Q.lp s e
  | .ex x => ∃ e, f = .ex x e ∧ Q.ex e
  | .stuck => True
def RS (c : Sps) (f : DEnv → Fl) (m : Ct σ l ρ) (Q : Qs σ l ρ) : Prop := ∀ e, Fits c e → R m (f e) Q
def FK {A : Type} (de : DEnv → Rs A) (k : A → DEnv → Fl) : DEnv → Fl := fun e => (de e).fl k
/-- a pure form -/
def EP {A : Type} (c : Sps) (de : DEnv → Rs A) (d : A) : Prop := ∀ e, Fits c e → de e = .ok d e
variable {c : Sps} {m : Ct σ l ρ} {Q : Qs σ l ρ}
theorem rk_pure {A : Type} {de : DEnv → Rs A} {k : A → DEnv → Fl} {d : A} (h : EP c de d) (g : RS c (k d) m Q) : RS c (FK de k) m Q := fun e he => by
  show R m ((de e).fl k) Q
  rw [h e he]
  exact g e he
theorem rk_put {A : Type} {o : Option A} {z : A} {k : A → DEnv → Fl} (h : o = some z) (g : RS c (k z) m Q) : RS c (FK (put o) k) m Q := fun e he => by
  show R m ((put o e).fl k) Q
  rw [h]
  exact g e he
/-- a partial operation -/
theorem rk_opt {A : Type} {o : Option A} {n : N α} {f : α → A} {k : A → DEnv → Fl} {M : α → Ct σ l ρ} (h : ∀ a, n = .ok a → o = some (f a)) (hx : ∀ x, n ≠ .ex x) (g : ∀ a, RS c (k (f a)) (M a) Q) : RS c (FK (put o) k) (n.ct M) Q := fun e he => by
  show R (n.ct M) ((put o e).fl k) Q
  cases q : n with
  | ok a => rw [h a q]; exact g a e he
  | ex x => exact absurd q (hx x)
  | stuck => exact trivial
theorem fl_bind {A B : Type} (r : Rs A) (f : A → DEnv → Rs B) (k : B → DEnv → Fl) : (r.bind f).fl k = r.fl fun a e => (f a e).fl k := by cases r <;> rfl
theorem rk_bin {da db : DE} {f : D → D → Option D} {k : D → DEnv → Fl} (g : RS c (FK da fun x => FK db fun y => FK (put (f x y)) k) m Q) : RS c (FK (eBin f da db) k) m Q := fun e he => by
  have := g e he
  unfold FK at this ⊢
  unfold eBin
  simp only [fl_bind] at this ⊢
  exact this
theorem rk_cb {da : DA} {f : List D → Option D} {k : D → DEnv → Fl} (g : RS c (FK da fun x => FK (put (f x)) k) m Q) : RS c (FK (eCB f da) k) m Q := fun e he => by
  have := g e he
  unfold FK at this ⊢
  unfold eCB
  simp only [fl_bind] at this ⊢
  exact this
theorem rk_binL {da db : DE} {f : D → D → Option (List D)} {k : List D → DEnv → Fl} (g : RS c (FK da fun x => FK db fun y => FK (put (f x y)) k) m Q) : RS c (FK (eBinL f da db) k) m Q := fun e he => by
  have := g e he
  unfold FK at this ⊢
  unfold eBinL
  simp only [fl_bind] at this ⊢
  exact this
theorem rk_anil {k : List D → DEnv → Fl} (g : RS c (k []) m Q) : RS c (FK aNil k) m Q := g
theorem rk_acons {de : DE} {da : DA} {k : List D → DEnv → Fl} (g : RS c (FK de fun x => FK da fun xs => k (x :: xs)) m Q) : RS c (FK (aCons de da) k) m Q := fun e he => by
  have := g e he
  unfold FK at this ⊢
  unfold aCons
  simp only [fl_bind] at this ⊢
  exact this
theorem rk_conv {f f' : DEnv → Fl} (h : ∀ e, f e = f' e) (g : RS c f' m Q) : RS c f m Q := fun e he => by rw [h e]; exact g e he
theorem rk_tup {da : DA} {k : D → DEnv → Fl} (g : RS c (FK da fun xs => FK (put (if xs.length ≤ 100000 then some (PyData.tuple xs) else none)) k) m Q) : RS c (FK (eTup da) k) m Q := rk_conv (fun e => by
  unfold FK eTup
  cases da e with
  | ok xs e1 =>
    show (if xs.length ≤ 100000 then Rs.ok (PyData.tuple xs) e1 else .stuck).fl k = (put (if xs.length ≤ 100000 then some (PyData.tuple xs) else none) e1).fl k
    split <;> rfl
  | ex _ _ => rfl
  | stuck => rfl) g
theorem rk_lst {da : DA} {k : List D → DEnv → Fl} (g : RS c (FK da fun xs => FK (put (if xs.length ≤ 100000 then some xs else none)) k) m Q) : RS c (FK (lLst da) k) m Q := rk_conv (fun e => by
  unfold FK lLst
  cases da e with
  | ok xs e1 =>
    show (if xs.length ≤ 100000 then Rs.ok xs e1 else .stuck).fl k = (put (if xs.length ≤ 100000 then some xs else none) e1).fl k
    split <;> rfl
  | ex _ _ => rfl
  | stuck => rfl) g
theorem rk_elst {da : DA} {k : D → DEnv → Fl} (g : RS c (FK da fun xs => k (.list xs)) m Q) : RS c (FK (eLst da) k) m Q := fun e he => by
  have := g e he
  unfold FK at this ⊢
  unfold eLst
  simp only [fl_bind] at this ⊢
  exact this
end
end NT
set_option Elab.async false
set_option linter.all false
set_option autoImplicit false
namespace NT
open PySem L2 DL LW
section
variable {c : Sps} {A B : Type}
theorem ep_var {i : Nat} {d : D} (h : c[i]? = some (.is (.v d)) := by rfl) : EP c (eVar i) d := fun e he => by
  unfold eVar
  rw [he.is h]
theorem ep_C {d : D} : EP c (eC d) d := fun _ _ => rfl
theorem ep_bin {da db : DE} {f : D → D → Option D} {x y z : D} (ha : EP c da x) (hb : EP c db y) (hf : f x y = some z := by rfl) : EP c (eBin f da db) z := fun e he => by
  unfold eBin
  rw [ha e he, bind_ok, hb e he, bind_ok, hf]
  rfl
theorem ep_cb {da : DA} {f : List D → Option D} {x : List D} {z : D} (ha : EP c da x) (hf : f x = some z := by rfl) : EP c (eCB f da) z := fun e he => by
  unfold eCB
  rw [ha e he, bind_ok, hf]
  rfl
theorem ep_anil : EP c aNil [] := fun _ _ => rfl
theorem ep_acons {de : DE} {da : DA} {x : D} {xs : List D} (ha : EP c de x) (hb : EP c da xs) : EP c (aCons de da) (x :: xs) := fun e he => by
  unfold aCons
  rw [ha e he, bind_ok, hb e he]
  rfl
theorem ep_tup {da : DA} {xs : List D} (ha : EP c da xs) (h : Nat.ble xs.length 100000 = true := by rfl) : EP c (eTup da) (.tuple xs) := fun e he => by
  unfold eTup
  rw [ha e he, bind_ok, if_pos (Nat.le_of_ble_eq_true h)]
theorem ep_lst {da : DA} {xs : List D} (ha : EP c da xs) (h : Nat.ble xs.length 100000 = true := by rfl) : EP c (lLst da) xs := fun e he => by
  unfold lLst
  rw [ha e he, bind_ok, if_pos (Nat.le_of_ble_eq_true h)]
theorem ep_elst {da : DA} {xs : List D} (ha : EP c da xs) : EP c (eLst da) (.list xs) := fun e he => by
  unfold eLst
  rw [ha e he, bind_ok]
theorem ep_tst {de : DE} {b : Bool} (ha : EP c de (.bool b)) : EP c (tTst de) b := fun e he => by
  unfold tTst
  rw [ha e he, bind_ok]
theorem ep_notT {t : DT} {b : Bool} (ha : EP c t b) : EP c (tNotD t) (!b) := fun e he => by
  unfold tNotD
  rw [ha e he, bind_ok]
theorem ep_not {da : DE} {b : Bool} (ha : EP c da (.bool b)) : EP c (eNot da) (.bool (!b)) := fun e he => by
  unfold eNot
  rw [ha e he, bind_ok]
theorem ep_and {da db : DE} {a b : Bool} (ha : EP c da (.bool a)) (hb : EP c db (.bool b)) : EP c (eAnd da db) (.bool (a && b)) := fun e he => by
  unfold eAnd
  rw [ha e he, bind_ok]
  cases a
  · rfl
  · exact hb e he
def slotD (c : Sps) (i : Nat) : Option D := match c[i]? with
  | some (.is (.v d)) => some d
  | some (.is (.l xs)) => some (.list xs)
  | some (.is (.p xs)) => some (.list xs)
  | _ => none
def slotL (c : Sps) (i : Nat) : Option (List D) := match c[i]? with
  | some (.is (.l xs)) => some xs
  | some (.is (.p xs)) => some xs
  | some (.is (.v (.list xs))) => some xs
  | _ => none
theorem slotD_at {i : Nat} {d : D} (h : slotD c i = some d) {e : DEnv} (he : Fits c e) : known i e = true ∧ ∀ k, ixAt i k e = put (dIx d k) e := by
  unfold slotD at h
  split at h <;> cases h
  all_goals
    rename_i q
    have := he.is q
    exact ⟨by unfold known; rw [this], fun k => by unfold ixAt; rw [this]⟩
theorem slotL_at {i : Nat} {xs : List D} (h : slotL c i = some xs) {e : DEnv} (he : Fits c e) : seeL i e = some xs := by
  unfold slotL at h
  split at h <;> cases h
  all_goals
    rename_i q
    have := he.is q
    unfold seeL
    rw [this]
theorem ep_ixN {i : Nat} {db : DE} {d k z : D} (hb : EP c db k) (hf : dIx d k = some z := by rfl) (h : slotD c i = some d := by rfl) : EP c (eIxN i db) z := fun e he => by
  obtain ⟨a, b⟩ := slotD_at h he
  unfold eIxN
  rw [a, if_pos rfl, hb e he, bind_ok, b, hf]
  rfl
theorem ep_tupO {xs : List D} {i : Nat} (h : slotL c i = some xs := by rfl) : EP c (eTupO i) (.tuple xs) := fun e he => by
  unfold eTupO
  rw [slotL_at h he]
theorem ep_isi {T : String} {de : DE} {d : D} {b : Bool} (ha : EP c de d) (h : isiD T d = some (.bool b)) : EP c (eIsi T de) (.bool b) := fun e he => by
  unfold eIsi
  rw [ha e he, bind_ok, h]
  rfl
def EPp (c : Sps) (p : Pt) (o : Option Int) : Prop := ∀ e, Fits c e → p.run e = .ok o e
theorem ep_ptN : EPp c .no none := fun _ _ => rfl
theorem ep_ptS {de : DE} {i : Int} (h : EP c de (.int i)) : EPp c (.of de) (some i) := fun e he => by
  unfold Pt.run
  simp only [h e he]
  rfl
theorem ep_sl {de : DE} {p q : Pt} {d z : D} {lo hi : Option Int} (ha : EP c de d) (hp : EPp c p lo) (hq : EPp c q hi) (h : dSl d lo hi = some z := by rfl) : EP c (eSl de p q) z := fun e he => by
  unfold eSl
  rw [ha e he, bind_ok, hp e he, bind_ok, hq e he, bind_ok, h]
  rfl
end
section
variable {κ β : Type} [DecidableEq κ]
def dget (kvs : List (κ × β)) (k : κ) : Option β := (kvs.find? fun p => decide (p.1 = k)).map (·.2)
def dhas (kvs : List (κ × β)) (k : κ) : Bool := kvs.any fun p => decide (p.1 = k)
def dput (kvs : List (κ × β)) (k : κ) (v : β) : List (κ × β) := if dhas kvs k then kvs.map fun p => if p.1 = k then (p.1, v) else p else kvs ++ [(k, v)]
/-- keys of a kind -/
class KeyE (f : κ → D) where
  key : κ → Key
  keyOf : ∀ k, DL.keyOf (f k) = some (key k)
  kEq : ∀ a k, DL.kEq (f a) (key k) = decide (a = k)
  kD : ∀ k, DL.kD (key k) = f k
end
instance : KeyE eI where
  key := .inl
  keyOf := fun _ => rfl
  kEq := fun a k => by simp [DL.kEq, Bool.beq_eq_decide_eq]
  kD := fun _ => rfl
instance : KeyE eS where
  key := .inr
  keyOf := fun _ => rfl
  kEq := fun a k => by simp [DL.kEq, Bool.beq_eq_decide_eq]
  kD := fun _ => rfl
section
variable {κ β : Type} [DecidableEq κ] {f : κ → D} {g : β → D} [ke : KeyE f]
theorem valD_typed (kvs : List (κ × β)) (k : κ) : valD (eKv f g kvs) (ke.key k) = (dget kvs k).map g := by
  unfold valD dget
  induction kvs with
  | nil => rfl
  | cons p r ih =>
    simp only [List.map_cons, List.find?_cons, ke.kEq]
    cases decide (p.1 = k)
    · exact ih
    · rfl
theorem putD_typed (kvs : List (κ × β)) (k : κ) (v : β) : putD (eKv f g kvs) (ke.key k) (g v) = eKv f g (dput kvs k v) := by
  unfold putD dput
  have e : ((eKv f g kvs).any fun kv => kEq kv.1 (ke.key k)) = dhas kvs k := by
    unfold dhas
    rw [List.any_map]
    congr 1
    funext p
    exact ke.kEq _ _
  rw [e]
  cases dhas kvs k with
  | true =>
    rw [if_pos rfl, if_pos rfl]
    show List.map _ (List.map _ kvs) = List.map _ (List.map _ kvs)
    rw [List.map_map, List.map_map]
    apply List.map_congr_left
    intro p _
    simp only [Function.comp, ke.kEq, decide_eq_true_eq]
    split <;> rfl
  | false =>
    rw [if_neg (by decide), if_neg (by decide), ke.kD]
    show List.map _ kvs ++ _ = List.map _ (kvs ++ _)
    rw [List.map_append]
    rfl
end
section
variable {α β σ τ l ρ : Type} {c : Sps} {m : Ct σ l ρ} {Q : Qs σ l ρ}
def boolOf : D → Option Bool
  | .bool b => some b
  | _ => none
theorem rk_tst {de : DE} {k : Bool → DEnv → Fl} (g : RS c (FK de fun d => FK (put (boolOf d)) k) m Q) : RS c (FK (tTst de) k) m Q := rk_conv (fun e => by
  unfold FK tTst
  cases de e with
  | ok d e1 => cases d <;> rfl
  | ex _ _ => rfl
  | stuck => rfl) g
theorem rk_tru {de : DE} {k : Bool → DEnv → Fl} (g : RS c (FK de fun d => FK (put (truth d)) k) m Q) : RS c (FK (tTru de) k) m Q := rk_conv (fun e => by
  unfold FK DL.tTru
  cases de e <;> rfl) g
theorem rk_notT {t : DT} {k : Bool → DEnv → Fl} (g : RS c (FK t fun b => k (!b)) m Q) : RS c (FK (tNotD t) k) m Q := rk_conv (fun e => by
  unfold FK tNotD
  cases t e <;> rfl) g
def ifF (b : Bool) (f g : DEnv → Fl) : DEnv → Fl := match b with
  | true => f
  | false => g
theorem rk_ifF {b : Bool} {f g : DEnv → Fl} {m1 m2 : Ct σ l ρ} (h1 : RS c f m1 Q) (h2 : RS c g m2 Q) : RS c (ifF b f g) (if b = true then m1 else m2) Q := by
  cases b
  · exact h2
  · exact h1
theorem rk_andT {t u : DT} {k : Bool → DEnv → Fl} (g : RS c (FK t fun b => ifF b (FK u k) (k false)) m Q) : RS c (FK (tAndD t u) k) m Q := rk_conv (fun e => by
  unfold FK tAndD
  cases t e with
  | ok b e1 => cases b <;> rfl
  | ex _ _ => rfl
  | stuck => rfl) g
theorem rk_orT {t u : DT} {k : Bool → DEnv → Fl} (g : RS c (FK t fun b => ifF b (k true) (FK u k)) m Q) : RS c (FK (tOrD t u) k) m Q := rk_conv (fun e => by
  unfold FK tOrD
  cases t e with
  | ok b e1 => cases b <;> rfl
  | ex _ _ => rfl
  | stuck => rfl) g
theorem rk_and {da db : DE} {k : D → DEnv → Fl} (g : RS c (FK da fun x => FK (put (boolOf x)) fun b => ifF b (FK db k) (k (.bool false))) m Q) : RS c (FK (eAnd da db) k) m Q := rk_conv (fun e => by
  unfold FK eAnd
  cases da e with
  | ok d e1 => cases d <;> first | rfl | (rename_i b; cases b <;> rfl)
  | ex _ _ => rfl
  | stuck => rfl) g
theorem rk_or {da db : DE} {k : D → DEnv → Fl} (g : RS c (FK da fun x => FK (put (boolOf x)) fun b => ifF b (k (.bool true)) (FK db k)) m Q) : RS c (FK (eOr da db) k) m Q := rk_conv (fun e => by
  unfold FK eOr
  cases da e with
  | ok d e1 => cases d <;> first | rfl | (rename_i b; cases b <;> rfl)
  | ex _ _ => rfl
  | stuck => rfl) g
theorem rk_if {t : DT} {da db : DE} {k : D → DEnv → Fl} (g : RS c (FK t fun b => ifF b (FK da k) (FK db k)) m Q) : RS c (FK (eIf t da db) k) m Q := rk_conv (fun e => by
  unfold FK eIf
  cases t e with
  | ok b e1 => cases b <;> rfl
  | ex _ _ => rfl
  | stuck => rfl) g
theorem rk_isi {T : String} {de : DE} {k : D → DEnv → Fl} (g : RS c (FK de fun d => FK (put (isiD T d)) k) m Q) : RS c (FK (eIsi T de) k) m Q := rk_conv (fun e => by
  unfold FK eIsi
  cases de e <;> rfl) g
theorem rk_ptN {k : Option Int → DEnv → Fl} (g : RS c (k none) m Q) : RS c (FK (Pt.run .no) k) m Q := g
def intOf : D → Option Int
  | .int i => some i
  | _ => none
theorem rk_ptS {de : DE} {k : Option Int → DEnv → Fl} (g : RS c (FK de fun d => FK (put (intOf d)) fun i => k (some i)) m Q) : RS c (FK (Pt.run (.of de)) k) m Q := rk_conv (fun e => by
  unfold FK Pt.run
  simp only
  cases de e with
  | ok d e1 => cases d <;> rfl
  | ex _ _ => rfl
  | stuck => rfl) g
theorem rk_sl {de : DE} {p q : Pt} {k : D → DEnv → Fl} (g : RS c (FK de fun d => FK p.run fun lo => FK q.run fun hi => FK (put (dSl d lo hi)) k) m Q) : RS c (FK (eSl de p q) k) m Q := rk_conv (fun e => by
  unfold FK eSl
  simp only [fl_bind]) g
theorem rk_varL {i : Nat} {xs : List D} {k : D → DEnv → Fl} (g : RS (c.set i (.is (.v (.list xs)))) (k (.list xs)) m Q) (h : c[i]? = some (.is (.l xs)) := by rfl) : RS c (FK (eVar i) k) m Q := fun e he => by
  unfold FK eVar
  rw [he.is h]
  exact g _ (he.set i rfl)
def knownC (c : Sps) (i : Nat) : Bool := match c[i]? with
  | some (.is .no) => false
  | some (.is _) => true
  | _ => false
theorem knownC_at {i : Nat} (h : knownC c i = true) {e : DEnv} (he : Fits c e) : known i e = true := by
  unfold knownC at h
  split at h <;> first | cases h | skip
  rename_i s hn q
  have := he.is q
  unfold known
  rw [this]
  cases s <;> first | rfl | (exact (hn q).elim) | (exact (hn rfl).elim)
theorem rk_ixN {i : Nat} {db : DE} {k : D → DEnv → Fl} (g : RS c (FK db fun kk => FK (ixAt i kk) k) m Q) (h : knownC c i = true := by rfl) : RS c (FK (eIxN i db) k) m Q := fun e he => by
  have := g e he
  unfold FK at this ⊢
  unfold eIxN
  rw [knownC_at h he, if_pos rfl, fl_bind]
  exact this
theorem rk_ixAt {i : Nat} {kk d : D} {k : D → DEnv → Fl} (g : RS c (FK (put (dIx d kk)) k) m Q) (h : slotD c i = some d := by rfl) : RS c (FK (ixAt i kk) k) m Q := fun e he => by
  have := g e he
  unfold FK at this ⊢
  rw [(slotD_at h he).2]
  exact this
def idx (xs : List α) (i : Int) : N α := ofO (atI xs i)
theorem ofO_ex {o : Option α} (x : Xc) : ofO o ≠ .ex x := by cases o <;> exact fun h => by cases h
theorem ofO_ok {o : Option α} {a : α} (h : ofO o = .ok a) : o = some a := by cases o <;> cases h; rfl
theorem rk_ixL {f : α → D} {xs : List α} {i : Int} {k : D → DEnv → Fl} {M : α → Ct σ l ρ} (g : ∀ a, RS c (k (f a)) (M a) Q) : RS c (FK (put (dIx (eLs f xs) (.int i))) k) ((idx xs i).ct M) Q :=
  rk_opt (f := f) (fun a h => by show atI (xs.map f) i = _; rw [atI_map, ofO_ok h]; rfl) (fun x => ofO_ex x) g
theorem rk_gd {A : Type} {p : Prop} [Decidable p] {a : A} {k : A → DEnv → Fl} {M : Ct σ l ρ} (g : RS c (k a) M Q) : RS c (FK (put (if p then some a else none)) k) ((gd (decide p)).ct fun _ => M) Q := fun e he => by
  unfold FK
  by_cases h : p
  · rw [if_pos h, decide_eq_true h]; exact g e he
  · rw [if_neg h, decide_eq_false h]; exact trivial
def catG (xs ys : List α) : N Unit := gd (decide (xs.length + ys.length ≤ 100000))
theorem rk_catL {f : α → D} {xs ys : List α} {k : List D → DEnv → Fl} {M : Ct σ l ρ} (g : RS c (k ((xs ++ ys).map f)) M Q) : RS c (FK (put (dCat (eLs f xs) (eLs f ys))) k) ((catG xs ys).ct fun _ => M) Q := by
  show RS c (FK (put (if (xs.map f).length + (ys.map f).length ≤ 100000 then some (xs.map f ++ ys.map f) else none)) k) _ Q
  rw [List.length_map, List.length_map, ← List.map_append]
  exact rk_gd g
def catS (x y : Str) : N Str := if x.length + y.length ≤ 100000 then .ok (x ++ y) else .stuck
theorem rk_catS {x y : Str} {k : D → DEnv → Fl} {M : Str → Ct σ l ρ} (g : ∀ z, RS c (k (eS z)) (M z) Q) : RS c (FK (put (dAdd (eS x) (eS y))) k) ((catS x y).ct M) Q := by
  refine rk_opt (f := eS) (fun a h => ?_) (fun z => ?_) g
  · unfold catS at h
    show (if x.length + y.length ≤ 100000 then some (PyData.str (x ++ y)) else none) = _
    split at h <;> cases h
    rename_i q
    rw [if_pos q]
  · unfold catS; split <;> exact fun h => by cases h
noncomputable def mulN (i j : Int) : N Int := @ite _ (mulOk i j = true) (Classical.propDecidable _) (.ok (i * j)) .stuck
noncomputable def divN (i j : Int) : N Int := @ite _ (divOk j = true) (Classical.propDecidable _) (.ok (i / j)) .stuck
noncomputable def modN (i j : Int) : N Int := if 0 < j then .ok (i % j) else .stuck
noncomputable def powN (i j : Int) : N Int := @ite _ (powOk i j = true) (Classical.propDecidable _) (.ok (i ^ j.toNat)) .stuck
theorem rk_op2 {op : D → D → Option D} {p : Prop} {d1 d2 : Decidable p} {i j r : Int} {k : D → DEnv → Fl} {M : Int → Ct σ l ρ} (ho : op (.int i) (.int j) = @ite _ p d1 (some (.int r)) none) (g : ∀ z, RS c (k (eI z)) (M z) Q) : RS c (FK (put (op (.int i) (.int j))) k) ((@ite _ p d2 (NT.N.ok r) .stuck).ct M) Q := by
  rw [ho]
  by_cases h : p
  · rw [if_pos h, if_pos h]; exact g r
  · rw [if_neg h, if_neg h]; exact fun _ _ => trivial
theorem rk_mul {i j : Int} {k : D → DEnv → Fl} {M : Int → Ct σ l ρ} (g : ∀ z, RS c (k (eI z)) (M z) Q) : RS c (FK (put (dMul (eI i) (eI j))) k) ((mulN i j).ct M) Q := rk_op2 rfl g
theorem rk_div {i j : Int} {k : D → DEnv → Fl} {M : Int → Ct σ l ρ} (g : ∀ z, RS c (k (eI z)) (M z) Q) : RS c (FK (put (dFdiv (eI i) (eI j))) k) ((divN i j).ct M) Q := rk_op2 rfl g
theorem rk_mod {i j : Int} {k : D → DEnv → Fl} {M : Int → Ct σ l ρ} (g : ∀ z, RS c (k (eI z)) (M z) Q) : RS c (FK (put (dMod (eI i) (eI j))) k) ((modN i j).ct M) Q := rk_op2 rfl g
theorem rk_pow {i j : Int} {k : D → DEnv → Fl} {M : Int → Ct σ l ρ} (g : ∀ z, RS c (k (eI z)) (M z) Q) : RS c (FK (put (dPow (eI i) (eI j))) k) ((powN i j).ct M) Q := rk_op2 rfl g
/-- one of these: data compared -/
def eqN (x y : D) : N Bool := if SeqAt.shaped x = true ∧ SeqAt.shaped y = true then .ok (PyData.eqv x y) else .stuck
theorem rk_eqD {x y : D} {k : D → DEnv → Fl} {M : Bool → Ct σ l ρ} (g : ∀ b, RS c (k (eB b)) (M b) Q) : RS c (FK (put (dEq x y)) k) ((eqN x y).ct M) Q := by
  unfold dEq eqN
  by_cases h : SeqAt.shaped x = true ∧ SeqAt.shaped y = true
  · rw [if_pos h, if_pos h]; exact g _
  · rw [if_neg h, if_neg h]; exact fun _ _ => trivial
theorem rk_neD {x y : D} {k : D → DEnv → Fl} {M : Bool → Ct σ l ρ} (g : ∀ b, RS c (k (eB (!b))) (M b) Q) : RS c (FK (put (dNe x y)) k) ((eqN x y).ct M) Q := by
  unfold dNe eqN
  by_cases h : SeqAt.shaped x = true ∧ SeqAt.shaped y = true
  · rw [if_pos h, if_pos h]; exact g _
  · rw [if_neg h, if_neg h]; exact fun _ _ => trivial
/-- any operation on data -/
theorem rk_anyD {A : Type} {o : Option A} {k : A → DEnv → Fl} {M : A → Ct σ l ρ} (g : ∀ a, RS c (k a) (M a) Q) : RS c (FK (put o) k) ((ofO o).ct M) Q := rk_opt (f := id) (fun a h => ofO_ok h) (fun x => ofO_ex x) g
def rgI (lo hi : Int) : List Int := (List.range (hi - lo).toNat).map fun k => lo + (k : Nat)
theorem rgI_D (lo hi : Int) : rngD lo hi = (rgI lo hi).map eI := by
  unfold rngD rgI
  rw [List.map_map]
  rfl
noncomputable def rngN (j : Int) : N (List Int) := if I62 j then .ok (rgI 0 j) else .stuck
theorem rk_rng {da : DA} {j : Int} {k : List D → DEnv → Fl} {M : List Int → Ct σ l ρ} (ha : EP c da [eI j]) (g : ∀ xs : List Int, RS c (k (xs.map eI)) (M xs) Q) : RS c (FK (iRng1 da) k) ((rngN j).ct M) Q := fun e he => by
  unfold FK DL.iRng1 rngN
  rw [ha e he, bind_ok]
  simp only [int1]
  by_cases h : I62 j
  · rw [if_pos h, if_pos h, rgI_D]; exact g _ e he
  · rw [if_neg h, if_neg h]; exact trivial
theorem rk_rngK {da : DA} {k : List D → DEnv → Fl} (g : RS c (FK da fun ds => FK (iRng1 (fun e => .ok ds e)) k) m Q) : RS c (FK (iRng1 da) k) m Q := rk_conv (fun e => by
  unfold FK DL.iRng1
  cases da e <;> rfl) g
theorem rk_rngE {j : Int} {k : List D → DEnv → Fl} {M : List Int → Ct σ l ρ} (g : ∀ xs : List Int, RS c (k (xs.map eI)) (M xs) Q) : RS c (FK (iRng1 (fun e => .ok [eI j] e)) k) ((rngN j).ct M) Q := rk_rng (fun _ _ => rfl) g
/-- [x] * n -/
noncomputable def repN (a : α) (n : Int) : N (List α) := if I63 n ∧ n.toNat ≤ 100000 then .ok (List.replicate n.toNat a) else .stuck
theorem rep_1 (x : D) (n : Int) : repD [x] n = List.replicate n.toNat x := by
  unfold repD
  induction n.toNat with
  | zero => rfl
  | succ n ih => rw [List.replicate_succ, List.flatten_cons, ih]; rfl
end
end NT
set_option Elab.async false
set_option linter.all false
set_option autoImplicit false
namespace NT
open PySem L2 DL LW
section
variable {α β σ τ l ρ : Type} {c : Sps} {m : Ct σ l ρ} {Q : Qs σ l ρ}
def getC (c : Sps) (i : Nat) : Option (List D) := match c[i]? with
  | some (.is (.l xs)) => some xs
  | some (.is (.p xs)) => some xs
  | _ => none
def reC (c : Sps) (i : Nat) (ys : List D) : Sps := match c[i]? with
  | some (.is (.l _)) => c.set i (.is (.l ys))
  | some (.is (.p _)) => c.set i (.is (.p ys))
  | _ => c
theorem getC_at {i : Nat} {xs : List D} (h : getC c i = some xs) {e : DEnv} (he : Fits c e) : getL i e = some xs ∧ ∀ ys, Fits (reC c i ys) (putL i ys e) := by
  unfold getC at h
  split at h <;> cases h
  all_goals
    rename_i q
    have := he.is q
    refine ⟨by unfold getL; rw [this], fun ys => ?_⟩
    unfold reC putL
    rw [this, q]
    exact he.set i rfl
def moK (i : Nat) (f : List D → List D → Option (D × List D)) (args : List D) (k : D → DEnv → Fl) : DEnv → Fl := fun e => match getL i e with
  | some xs => match f xs args with
    | some (z, ys) => k z (putL i ys e)
    | none => .stuck
  | none => .stuck
theorem rk_mo {i : Nat} {f : List D → List D → Option (D × List D)} {da : DA} {k : D → DEnv → Fl} {xs : List D} (g : RS c (FK da fun args => moK i f args k) m Q) (h : getC c i = some xs := by rfl) : RS c (FK (eMO i f da) k) m Q := fun e he => by
  have := g e he
  unfold FK at this ⊢
  unfold eMO
  rw [(getC_at h he).1, if_pos (by rfl)]
  have e2 : ∀ args e1, (match getL i e1 with
      | some xs => match f xs args with
        | some (z, ys) => Rs.ok z (putL i ys e1)
        | none => .stuck
      | none => .stuck).fl k = moK i f args k e1 := fun args e1 => by
    unfold moK
    cases getL i e1 with
    | none => rfl
    | some xs =>
      dsimp only
      cases f xs args <;> rfl
  have e3 := funext fun a => funext (e2 a)
  rw [fl_bind]
  rw [← e3] at this
  exact this
theorem rk_moX {i : Nat} {f : List D → List D → Option (D × List D)} {args : List D} {k : D → DEnv → Fl} {fe : α → D} {xs : List α} {n : N β} {v : β → D} {ys : β → List α} {M : β → Ct σ l ρ} (hf : ∀ a, n = .ok a → f (xs.map fe) args = some (v a, (ys a).map fe)) (hx : ∀ x, n ≠ .ex x) (g : ∀ a, RS (reC c i ((ys a).map fe)) (k (v a)) (M a) Q) (h : getC c i = some (xs.map fe) := by rfl) : RS c (moK i f args k) (n.ct M) Q := fun e he => by
  unfold moK
  obtain ⟨h1, h2⟩ := getC_at h he
  rw [h1]
  cases q : n with
  | ok a => simp only [hf a q]; exact g a _ (h2 _)
  | ex x => exact absurd q (hx x)
  | stuck => exact trivial
def appN (xs : List α) (a : α) : N (List α) := if xs.length < 100000 then .ok (xs ++ [a]) else .stuck
theorem rk_app {fe : α → D} {xs : List α} {a : α} {i : Nat} {k : D → DEnv → Fl} {M : List α → Ct σ l ρ} (g : ∀ ys, RS (reC c i (ys.map fe)) (k .none) (M ys) Q) (h : getC c i = some (xs.map fe) := by rfl) : RS c (moK i mAppend [fe a] k) ((appN xs a).ct M) Q :=
  rk_moX (v := fun _ => .none) (ys := id) (fun ys hy => by
    unfold appN at hy
    split at hy <;> cases hy
    rename_i q
    show (if (xs.map fe).length < 100000 then some (PyData.none, xs.map fe ++ [fe a]) else none) = _
    rw [List.length_map, if_pos q]
    simp) (fun x => by unfold appN; split <;> exact fun h => by cases h) g h
def stb (c : Sps) (i : Nat) : Bool := match c[i]? with
  | some (.is s) => DL.np s
  | some _ => true
  | none => false
theorem stb_at {i : Nat} (h : stb c i = true) {e : DEnv} (he : Fits c e) (s : Sl) : setV i s e = some (e.set i s) := by
  have go : ∀ t, e[i]? = some t → DL.np t = true → setV i s e = some (e.set i s) := fun t h1 h2 => by
    unfold setV
    rw [h1]
    cases t <;> first | rfl | cases h2
  unfold stb at h
  split at h
  · rename_i q; exact go _ (he.is q) h
  · rename_i x hx q
    obtain ⟨t, a, b⟩ := he.get q
    refine go t a ?_
    cases x with
    | is s => exact absurd rfl (hx s)
    | np => exact b
    | nw => cases t with
      | p xs => exact absurd b (by intro z; cases z)
      | _ => rfl
  · cases h
/-- a target -/
def GS (c : Sps) (g : DG) (d : D) (c' : Sps) : Prop := ∀ e, Fits c e → ∃ e', g d e = some e' ∧ Fits c' e'
theorem gs_N {i : Nat} {d : D} (h : stb c i = true := by rfl) : GS c (gN i) d (c.set i (.is (.v d))) := fun e he => ⟨_, stb_at h he _, he.set i rfl⟩
def asgK (g : DG) (b : DS) (d : D) : DEnv → Fl := fun e => (match g d e with
  | some e2 => Fl.nx e2
  | none => .stuck).seq b
theorem rs_asg {de : DE} {g : DG} {b : DS} (h : RS c (FK de (asgK g b)) m Q) : RS c (sSeq (sAsg de g) b) m Q := rk_conv (fun e => by
  unfold FK sSeq sAsg
  cases de e <;> rfl) h
theorem rk_asg {g : DG} {d : D} {b : DS} {c' : Sps} (hg : GS c g d c') (h : RS c' b m Q) : RS c (asgK g b d) m Q := fun e he => by
  obtain ⟨e', a, f⟩ := hg e he
  unfold asgK
  rw [a]
  exact h e' f
theorem rk_asgN {i : Nat} {d : D} {b : DS} (h : RS (c.set i (.is (.v d))) b m Q) (hs : stb c i = true := by rfl) : RS c (asgK (gN i) b d) m Q := rk_asg (gs_N hs) h
def asgLK (i : Nat) (b : DS) (xs : List D) : DEnv → Fl := fun e => (match setV i (.l xs) e with
  | some e2 => Fl.nx e2
  | none => .stuck).seq b
theorem rs_asgL {dl : DA} {i : Nat} {b : DS} (h : RS c (FK dl (asgLK i b)) m Q) : RS c (sSeq (sAsgL i dl) b) m Q := rk_conv (fun e => by
  unfold FK sSeq sAsgL
  cases dl e <;> rfl) h
theorem rk_asgL {i : Nat} {xs : List D} {b : DS} (h : RS (c.set i (.is (.l xs))) b m Q) (hs : stb c i = true := by rfl) : RS c (asgLK i b xs) m Q := fun e he => by
  unfold asgLK
  rw [stb_at hs he]
  exact h _ (he.set i rfl)
def knK (i : Nat) (f : DEnv → Fl) : DEnv → Fl := fun e => if known i e = true then f e else .stuck
theorem rk_kn {i : Nat} {f : DEnv → Fl} (g : RS c f m Q) (h : knownC c i = true := by rfl) : RS c (knK i f) m Q := fun e he => by
  unfold knK
  rw [knownC_at h he, if_pos rfl]
  exact g e he
def setK (i : Nat) (v kk : D) (b : DS) : DEnv → Fl := fun e2 => (match getL i e2, kk with
  | some xs, .int n => match ixN xs.length n with
    | some j => Fl.nx (putL i (xs.set j v) e2)
    | none => .stuck
  | _, _ => .stuck).seq b
theorem rs_setO {i : Nat} {dk dv : DE} {b : DS} (g : RS c (FK dv fun v => knK i (FK dk fun kk => setK i v kk b)) m Q) : RS c (sSeq (sSetO i dk dv) b) m Q := rk_conv (fun e => by
  unfold FK sSeq sSetO
  cases dv e with
  | ok v e1 =>
    simp only [fl_ok, knK]
    cases known i e1
    · rfl
    · simp only [if_true]
      cases dk e1 <;> rfl
  | ex _ _ => rfl
  | stuck => rfl) g
def setN (xs : List α) (n : Int) (a : α) : N (List α) := match ixN xs.length n with
  | some j => .ok (xs.set j a)
  | none => .stuck
theorem rk_set {i : Nat} {fe : α → D} {a : α} {n : Int} {xs : List α} {b : DS} {M : List α → Ct σ l ρ} (g : ∀ ys : List α, RS (reC c i (ys.map fe)) b (M ys) Q) (h : getC c i = some (xs.map fe) := by rfl) : RS c (setK i (fe a) (eI n) b) ((setN xs n a).ct M) Q := fun e he => by
  obtain ⟨h1, h2⟩ := getC_at h he
  unfold setK setN
  rw [h1]
  simp only [List.length_map]
  cases ixN xs.length n with
  | none => exact trivial
  | some j => simp only [← List.map_set]; exact g _ _ (h2 _)
theorem rs_last {a : DS} (h : RS c (sSeq a sNx) m Q) : RS c a m Q := rk_conv (fun e => by
  unfold sSeq
  cases a e <;> rfl) h
theorem rs_nx {s : σ} (h : ∀ e, Fits c e → Q.nx s e) : RS c sNx (.nx s) Q := fun e he => ⟨e, rfl, h e he⟩
def retK (d : D) : DEnv → Fl := fun e => .rt d e
def retL (d : List D) : DEnv → Fl := fun e => .rl d e
def retT (b : Bool) : DEnv → Fl := fun e => .rt (.bool b) e
theorem rs_ret {de : DE} {b : DS} (h : RS c (FK de retK) m Q) : RS c (sSeq (sRet de) b) m Q := rk_conv (fun e => by
  unfold FK sSeq sRet
  cases de e <;> rfl) h
theorem rs_retL {de : DA} {b : DS} (h : RS c (FK de retL) m Q) : RS c (sSeq (sRetL de) b) m Q := rk_conv (fun e => by
  unfold FK sSeq sRetL
  cases de e <;> rfl) h
theorem rk_ret {d : D} {r : ρ} (h : ∀ e, Fits c e → Q.rt r d e) : RS c (retK d) (.rt r : Ct σ l ρ) Q := fun e he => .inl ⟨d, e, rfl, h e he⟩
theorem rk_retL {d : List D} {r : ρ} (h : ∀ e, Fits c e → Q.rl r d e) : RS c (retL d) (.rt r : Ct σ l ρ) Q := fun e he => .inr ⟨d, e, rfl, h e he⟩
theorem rk_retT {b : Bool} {r : ρ} (h : ∀ e, Fits c e → Q.rt r (.bool b) e) : RS c (retT b) (.rt r : Ct σ l ρ) Q := fun e he => .inl ⟨_, e, rfl, h e he⟩
theorem rs_drop {de : DE} {b : DS} (h : RS c (FK de fun _ => b) m Q) : RS c (sSeq (sDrop de) b) m Q := rk_conv (fun e => by
  unfold FK sSeq sDrop
  cases de e <;> rfl) h
theorem rs_if {t : DT} {a b r : DS} (h : RS c (FK t fun z => ifF z (sSeq a r) (sSeq b r)) m Q) : RS c (sSeq (sIf t a b) r) m Q := rk_conv (fun e => by
  unfold FK sSeq sIf
  cases t e with
  | ok z e1 => cases z <;> rfl
  | ex _ _ => rfl
  | stuck => rfl) h
theorem rs_if0 {t : DT} {a b : DS} (h : RS c (FK t fun z => ifF z a b) m Q) : RS c (sIf t a b) m Q := rk_conv (fun e => by
  unfold FK sIf
  cases t e with
  | ok z e1 => cases z <;> rfl
  | ex _ _ => rfl
  | stuck => rfl) h
theorem rs_nxs {b : DS} (h : RS c b m Q) : RS c (sSeq sNx b) m Q := h
theorem rs_seq {a b : DS} {m1 : Ct τ l ρ} {K : τ → Ct σ l ρ} {c1 : τ → Sps} (h : RS c a m1 { nx := fun s e => Fits (c1 s) e, lp := Q.lp, rt := Q.rt, rl := Q.rl, ex := Q.ex }) (h2 : ∀ s, RS (c1 s) b (K s) Q) : RS c (sSeq a b) (m1.sq K) Q := fun e he => by
  have h' := h e he
  unfold sSeq
  cases m1 with
  | nx s => obtain ⟨e1, q, f⟩ := h'; rw [q]; exact h2 s e1 f
  | rt r =>
    rcases h' with ⟨d, e1, q, f⟩ | ⟨d, e1, q, f⟩
    · rw [q]; exact .inl ⟨d, e1, rfl, f⟩
    · rw [q]; exact .inr ⟨d, e1, rfl, f⟩
  | bk s => obtain ⟨e1, q, f⟩ := h'; rw [q]; exact ⟨e1, rfl, f⟩
  | ct s => obtain ⟨e1, q, f⟩ := h'; rw [q]; exact ⟨e1, rfl, f⟩
  | ex s => obtain ⟨e1, q, f⟩ := h'; rw [q]; exact ⟨e1, rfl, f⟩
  | stuck => exact trivial
/-- loops -/
theorem forD_R {fe : α → D} {g : DG} {body : DS} {nb : α → σ → Ct σ σ ρ} {c0 : σ → Sps} {c1 : α → σ → Sps} (hg : ∀ a s, GS (c0 s) g (fe a) (c1 a s)) (hb : ∀ a s, RS (c1 a s) body (nb a s) { nx := fun s e => Fits (c0 s) e, lp := fun s e => Fits (c0 s) e, rt := Q.rt, rl := Q.rl, ex := Q.ex }) : ∀ (xs : List α) (s : σ), RS (c0 s) (forD g body (xs.map fe)) (forC nb xs s) { Q with nx := fun s e => Fits (c0 s) e }
  | [], s => fun e he => ⟨e, rfl, he⟩
  | a :: as, s => fun e he => by
    obtain ⟨e1, q, f1⟩ := hg a s e he
    have h' := hb a s e1 f1
    have ih := forD_R hg hb as
    show R ((nb a s).again (forC nb as)) (match g (fe a) e with
      | none => .stuck
      | some e1 => (body e1).turn (forD g body (as.map fe))) _
    rw [q]
    show R ((nb a s).again (forC nb as)) ((body e1).turn (forD g body (as.map fe))) _
    cases w : nb a s with
    | nx s => rw [w] at h'; obtain ⟨e2, q, f⟩ := h'; rw [q]; exact ih s e2 f
    | ct s => rw [w] at h'; obtain ⟨e2, q, f⟩ := h'; rw [q]; exact ih s e2 f
    | bk s => rw [w] at h'; obtain ⟨e2, q, f⟩ := h'; rw [q]; exact ⟨e2, rfl, f⟩
    | rt r =>
      rw [w] at h'
      rcases h' with ⟨d, e2, q, f⟩ | ⟨d, e2, q, f⟩
      · rw [q]; exact .inl ⟨d, e2, rfl, f⟩
      · rw [q]; exact .inr ⟨d, e2, rfl, f⟩
    | ex s => rw [w] at h'; obtain ⟨e2, q, f⟩ := h'; rw [q]; exact ⟨e2, rfl, f⟩
    | stuck => exact trivial
theorem rs_forK {di : DA} {g : DG} {body b : DS} (h : RS c (FK di fun ds => sSeq (forD g body ds) b) m Q) : RS c (sSeq (sFor di g body) b) m Q := rk_conv (fun e => by
  unfold FK sSeq sFor
  cases di e <;> rfl) h
theorem rs_for {fe : α → D} {g : DG} {body b : DS} {nb : α → τ → Ct τ τ ρ} {c0 : τ → Sps} {c1 : α → τ → Sps} {xs : List α} {s0 : τ} {K : τ → Ct σ l ρ} (hs : Sub c (c0 s0)) (hg : ∀ a s, GS (c0 s) g (fe a) (c1 a s)) (hb : ∀ a s, RS (c1 a s) body (nb a s) { nx := fun s e => Fits (c0 s) e, lp := fun s e => Fits (c0 s) e, rt := Q.rt, rl := Q.rl, ex := Q.ex }) (h : ∀ s, RS (c0 s) b (K s) Q) : RS c (sSeq (forD g body (xs.map fe)) b) ((forC nb xs s0).sq K) Q :=
  rs_seq (c1 := c0) (fun e he => forD_R (Q := { nx := fun s e => Fits (c0 s) e, lp := Q.lp, rt := Q.rt, rl := Q.rl, ex := Q.ex }) hg hb xs s0 e (he.sub hs)) h
end
end NT
set_option Elab.async false
set_option linter.all false
set_option autoImplicit false
namespace NT
open PySem L2 DL LW
section
variable {α β σ τ l ρ : Type} {c : Sps} {m : Ct σ l ρ} {Q : Qs σ l ρ}
abbrev QV (v : β → D) (c' : β → Sps) (ex : DEnv → Prop) : Qs Unit Unit β := { nx := fun _ _ => False, lp := fun _ _ => False, rt := fun r d e => d = v r ∧ Fits (c' r) e, rl := fun _ _ _ => False, ex := ex }
theorem rk_unit {de : DE} {k : D → DEnv → Fl} {mu : Ct Unit Unit β} {v : β → D} {c' : β → Sps} {M : β → Ct σ l ρ} (hu : RS c (FK de retK) mu (QV v c' Q.ex)) (g : ∀ r, RS (c' r) (k (v r)) (M r) Q) : RS c (FK de k) (mu.fn.ct M) Q := fun e he => by
  have h := hu e he
  unfold FK at h ⊢
  cases mu with
  | nx s => obtain ⟨_, _, f⟩ := h; exact f.elim
  | bk s => obtain ⟨_, _, f⟩ := h; exact f.elim
  | ct s => obtain ⟨_, _, f⟩ := h; exact f.elim
  | stuck => exact trivial
  | ex x =>
    obtain ⟨e', q, f⟩ := h
    cases w : de e with
    | ok d e1 => rw [w] at q; cases q
    | ex y e1 => rw [w] at q; cases q; exact ⟨_, rfl, f⟩
    | stuck => rw [w] at q; cases q
  | rt r =>
    rcases h with ⟨d, e', q, f1, f2⟩ | ⟨_, _, _, f⟩
    · cases w : de e with
      | ok d e1 =>
        rw [w] at q
        cases q
        rw [f1]
        exact g r _ f2
      | ex y e1 => rw [w] at q; cases q
      | stuck => rw [w] at q; cases q
    · exact f.elim
theorem rk_unitT {de : DT} {k : Bool → DEnv → Fl} {mu : Ct Unit Unit β} {v : β → Bool} {c' : β → Sps} {M : β → Ct σ l ρ} (hu : RS c (FK de retT) mu (QV (fun r => .bool (v r)) c' Q.ex)) (g : ∀ r, RS (c' r) (k (v r)) (M r) Q) : RS c (FK de k) (mu.fn.ct M) Q := fun e he => by
  have h := hu e he
  unfold FK at h ⊢
  cases mu with
  | nx s => obtain ⟨_, _, f⟩ := h; exact f.elim
  | bk s => obtain ⟨_, _, f⟩ := h; exact f.elim
  | ct s => obtain ⟨_, _, f⟩ := h; exact f.elim
  | stuck => exact trivial
  | ex x =>
    obtain ⟨e', q, f⟩ := h
    cases w : de e with
    | ok d e1 => rw [w] at q; cases q
    | ex y e1 => rw [w] at q; cases q; exact ⟨_, rfl, f⟩
    | stuck => rw [w] at q; cases q
  | rt r =>
    rcases h with ⟨d, e', q, f1, f2⟩ | ⟨_, _, _, f⟩
    · cases w : de e with
      | ok d e1 =>
        rw [w] at q
        cases q
        injection f1 with f1
        subst f1
        exact g r _ f2
      | ex y e1 => rw [w] at q; cases q
      | stuck => rw [w] at q; cases q
    · exact f.elim
def RF (m : N ρ) (fo : Fo) (v : ρ → D) (outs : ρ → DEnv) : Prop := match m with
  | .ok r => fo = .ok (v r) (outs r)
  | .ex x => ∃ o, fo = .ex x o
  | .stuck => True
def RFl (m : N ρ) (fo : Fo) (v : ρ → List D) (outs : ρ → DEnv) : Prop := match m with
  | .ok r => fo = .okl (v r) (outs r)
  | .ex x => ∃ o, fo = .ex x o
  | .stuck => True
def callK (np : Nat) (F : Df) (k : D → DEnv → Fl) (as : List Ar) : DEnv → Fl := fun e => (if as.length = np then (callD F as e).rs else .stuck).fl k
def callKL (np : Nat) (F : Df) (k : List D → DEnv → Fl) (as : List Ar) : DEnv → Fl := fun e => (if as.length = np then (callD F as e).rl else .stuck).fl k
theorem rk_callN {np : Nat} {F : Df} {da : DAr} {k : D → DEnv → Fl} (g : RS c (FK da (callK np F k)) m Q) : RS c (FK (eCallN np F da) k) m Q := rk_conv (fun e => by
  unfold FK eCallN
  rw [fl_bind]
  rfl) g
theorem rk_callNL {np : Nat} {F : Df} {da : DAr} {k : List D → DEnv → Fl} (g : RS c (FK da (callKL np F k)) m Q) : RS c (FK (lCallN np F da) k) m Q := rk_conv (fun e => by
  unfold FK lCallN
  rw [fl_bind]
  rfl) g
theorem rk_rnil {k : List Ar → DEnv → Fl} (g : RS c (k []) m Q) : RS c (FK rNil k) m Q := g
theorem rk_rcons {de : DE} {da : DAr} {k : List Ar → DEnv → Fl} (g : RS c (FK de fun x => FK da fun xs => k (.d x :: xs)) m Q) : RS c (FK (rCons de da) k) m Q := rk_conv (fun e => by
  unfold FK rCons
  simp only [fl_bind]
  rfl) g
def lentC (c : Sps) (i : Nat) : Bool := match c[i]? with
  | some (.is s) => lentS s
  | _ => false
theorem lentC_at {i : Nat} (h : lentC c i = true) {e : DEnv} (he : Fits c e) : lent i e = true := by
  unfold lentC at h
  split at h
  · rename_i q; have := he.is q; unfold lent; rw [this]; exact h
  · cases h
def lendK (i : Nat) (k : List Ar → DEnv → Fl) (xs : List Ar) : DEnv → Fl := fun e => if lent i e = true then k (.s i :: xs) e else .stuck
theorem rk_lend {i : Nat} {da : DAr} {k : List Ar → DEnv → Fl} (g : RS c (FK da (lendK i k)) m Q) (h : lentC c i = true := by rfl) : RS c (FK (rLendC i da) k) m Q := fun e he => by
  have := g e he
  unfold FK at this ⊢
  unfold rLendC
  rw [lentC_at h he, if_pos rfl]
  cases w : da e with
  | ok xs e1 =>
    rw [w] at this
    show R m ((if lent i e1 = true then Rs.ok (.s i :: xs) e1 else .stuck).fl k) Q
    have h2 : R m (if lent i e1 = true then k (.s i :: xs) e1 else .stuck) Q := this
    cases hl : lent i e1 with
    | true => rw [hl] at h2; exact h2
    | false => rw [hl] at h2; exact h2
  | ex _ _ => rw [w] at this; exact this
  | stuck => rw [w] at this; exact this
theorem rk_lendK {i : Nat} {k : List Ar → DEnv → Fl} {xs : List Ar} (g : RS c (k (.s i :: xs)) m Q) (h : lentC c i = true := by rfl) : RS c (lendK i k xs) m Q := fun e he => by
  unfold lendK
  rw [lentC_at h he, if_pos rfl]
  exact g e he
def toC (c : Sps) : Ar → Sl
  | .d x => .v x
  | .g x => .f x
  | .s i => match c[i]? with
    | some (.is s) => lendS s
    | _ => .no
def lentAll (c : Sps) : List Ar → Bool
  | [] => true
  | .d _ :: as => lentAll c as
  | .g _ :: as => lentAll c as
  | .s i :: as => lentC c i && lentAll c as
theorem toC_at {e : DEnv} (he : Fits c e) : ∀ (as : List Ar), lentAll c as = true → as.map (toSl e) = as.map (toC c)
  | [], _ => rfl
  | .d x :: as, h => by rw [List.map_cons, List.map_cons, toC_at he as h]; rfl
  | .g x :: as, h => by rw [List.map_cons, List.map_cons, toC_at he as h]; rfl
  | .s i :: as, h => by
    have h' : lentC c i = true ∧ lentAll c as = true := by unfold lentAll at h; rwa [Bool.and_eq_true] at h
    rw [List.map_cons, List.map_cons, toC_at he as h'.2]
    congr 1
    have h1 := h'.1
    unfold lentC at h1
    split at h1
    · rename_i q; have := he.is q; simp only [toSl, this, toC, q]
    · cases h1
def convC (c : Sps) (i : Nat) (o : Sl) : Sp := match c[i]? with
  | some (.is s) => .is (conv s o)
  | _ => .np
def setBack (c : Sps) : List Ar → DEnv → Sps
  | .d _ :: as, _ :: os => setBack c as os
  | .g _ :: as, _ :: os => setBack c as os
  | .s i :: as, o :: os => setBack (c.set i (convC c i o)) as os
  | _, _ => c
theorem setBack_len : ∀ (as : List Ar) (os : DEnv) (c : Sps), (setBack c as os).length = c.length
  | [], _, _ => rfl
  | .d _ :: as, [], _ => rfl
  | .g _ :: as, [], _ => rfl
  | .s _ :: as, [], _ => rfl
  | .d _ :: as, _ :: os, c => setBack_len as os c
  | .g _ :: as, _ :: os, c => setBack_len as os c
  | .s i :: as, o :: os, c => by
    show (setBack (c.set i (convC c i o)) as os).length = _
    rw [setBack_len as os, List.length_set]
theorem lookS_none {j : Nat} : ∀ (as : List Ar) (os : DEnv), j ∉ slotsOf as → lookS j as os = none
  | [], _, _ => by simp [lookS]
  | .d _ :: as, [], _ => rfl
  | .g _ :: as, [], _ => rfl
  | .s _ :: as, [], _ => rfl
  | .d _ :: as, _ :: os, h => lookS_none as os (by simpa [slotsOf] using h)
  | .g _ :: as, _ :: os, h => lookS_none as os (by simpa [slotsOf] using h)
  | .s i :: as, o :: os, h => by
    have h' : ¬ j = i ∧ j ∉ slotsOf as := by simpa [slotsOf] using h
    show (if i = j then some o else lookS j as os) = none
    rw [if_neg (fun z => h'.1 z.symm)]
    exact lookS_none as os h'.2
theorem setBack_at : ∀ (as : List Ar) (os : DEnv) (c : Sps) (j : Nat), (slotsOf as).Nodup → (setBack c as os)[j]? = match lookS j as os with
    | some o => (c[j]?).map fun _ => convC c j o
    | none => c[j]?
  | [], os, c, j, _ => by simp [lookS, setBack]
  | .d _ :: as, [], c, j, _ => rfl
  | .g _ :: as, [], c, j, _ => rfl
  | .s _ :: as, [], c, j, _ => rfl
  | .d _ :: as, _ :: os, c, j, h => setBack_at as os c j (by simpa [slotsOf] using h)
  | .g _ :: as, _ :: os, c, j, h => setBack_at as os c j (by simpa [slotsOf] using h)
  | .s i :: as, o :: os, c, j, h => by
    have h' : i ∉ slotsOf as ∧ (slotsOf as).Nodup := by simpa [slotsOf] using h
    show (setBack (c.set i (convC c i o)) as os)[j]? = match (if i = j then some o else lookS j as os) with
      | some o => (c[j]?).map fun _ => convC c j o
      | none => c[j]?
    rw [setBack_at as os _ j h'.2]
    by_cases q : i = j
    · subst q
      rw [if_pos rfl, lookS_none as os h'.1]
      simp only
      by_cases li : i < c.length
      · rw [List.getElem?_set_self li, List.getElem?_eq_getElem li]; rfl
      · rw [List.getElem?_eq_none (by simpa using li), List.getElem?_eq_none (by simpa using li)]; rfl
    · rw [if_neg q]
      have e1 : (c.set i (convC c i o))[j]? = c[j]? := List.getElem?_set_ne q
      cases lookS j as os with
      | none => exact e1
      | some o2 =>
        have e4 : convC (c.set i (convC c i o)) j o2 = convC c j o2 := by
          generalize convC c i o = z at e1 ⊢
          unfold convC
          rw [e1]
        simp only [e4, e1]
theorem back_fits {e : DEnv} (he : Fits c e) {as : List Ar} (hl : lentAll c as = true) (hn : (slotsOf as).Nodup) (os : DEnv) : Fits (setBack c as os) (backD as os e) := by
  refine ⟨by rw [setBack_len, he.len]; simp [backD], fun j x t hx ht => ?_⟩
  rw [setBack_at as os c j hn] at hx
  have ht' : (e[j]?).map (fun s => match lookS j as os with
      | some o => conv s o
      | none => s) = some t := by
    unfold backD at ht
    rw [List.getElem?_mapIdx] at ht
    exact ht
  cases w : lookS j as os with
  | none =>
    rw [w] at hx ht'
    simp only at hx ht'
    have : e[j]? = some t := by simpa using ht'
    exact he.at_ j x t hx this
  | some o =>
    rw [w] at hx ht'
    simp only at hx ht'
    cases q : c[j]? with
    | none => rw [q] at hx; cases hx
    | some y =>
      rw [q] at hx
      have hx' : convC c j o = x := by simpa using hx
      have mem : j ∈ slotsOf as := by
        apply Classical.byContradiction
        intro z
        rw [lookS_none as os z] at w
        cases w
      have lj : lentC c j = true := by
        clear hx ht ht' w hx' q he hn
        induction as with
        | nil => simp [slotsOf] at mem
        | cons a as ih =>
          cases a with
          | d x => exact ih hl (by simpa [slotsOf] using mem)
          | g x => exact ih hl (by simpa [slotsOf] using mem)
          | s i =>
            have h' : lentC c i = true ∧ lentAll c as = true := by unfold lentAll at hl; rwa [Bool.and_eq_true] at hl
            rcases (by simpa [slotsOf] using mem : j = i ∨ j ∈ slotsOf as) with rfl | m
            · exact h'.1
            · exact ih h'.2 m
      unfold lentC at lj
      rw [q] at lj
      unfold convC at hx'
      rw [q] at hx'
      split at lj
      · rename_i z
        cases z
        have := he.is q
        rw [this] at ht'
        simp only [Option.map_some, Option.some.injEq] at ht'
        rw [← hx']
        exact ht'.symm
      · cases lj
def nodupB : List Nat → Bool
  | [] => true
  | x :: xs => !xs.contains x && nodupB xs
theorem nodupB_ok : ∀ {xs : List Nat}, nodupB xs = true → xs.Nodup
  | [], _ => List.nodup_nil
  | x :: xs, h => by
    have h' : (!xs.contains x && nodupB xs) = true := h
    rw [Bool.and_eq_true] at h'
    rw [List.nodup_cons]
    exact ⟨by simpa using h'.1, nodupB_ok h'.2⟩
def noS (as : List Ar) : Bool := as.all fun a => match a with
  | .d _ => true
  | .g _ => true
  | .s _ => false
theorem back_noS {as : List Ar} (h : noS as = true) (os : DEnv) (e : DEnv) : backD as os e = e := by
  have hs : slotsOf as = [] := by
    induction as with
    | nil => rfl
    | cons a as ih =>
      cases a with
      | d x => exact ih (by simpa [noS] using h)
      | g x => exact ih (by simpa [noS] using h)
      | s i => simp [noS] at h
  unfold backD
  apply List.ext_getElem?
  intro j
  rw [List.getElem?_mapIdx, lookS_none as os (by rw [hs]; simp)]
  simp
theorem rk_call {np : Nat} {F : Df} {as : List Ar} {k : D → DEnv → Fl} {args : DEnv} {mF : N β} {v : β → D} {outs : β → DEnv} {M : β → Ct σ l ρ} (hf : RF mF (F args) v outs) (g : ∀ r, RS (setBack c as (outs r)) (k (v r)) (M r) Q) (hx : ∀ e e', Fits c e → (noS as = true → e' = e) → Q.ex e') (ha : as.map (toC c) = args := by rfl) (hl : lentAll c as = true := by rfl) (hn : as.length = np := by rfl) (hd0 : nodupB (slotsOf as) = true := by rfl) : RS c (callK np F k as) (mF.ct M) Q := fun e he => by
  have hd := nodupB_ok hd0
  unfold callK callD
  rw [if_pos hn, if_pos hd, toC_at he as hl, ha]
  cases mF with
  | stuck => exact trivial
  | ok r =>
    have hf' : F args = .ok (v r) (outs r) := hf
    rw [hf']
    exact g r _ (back_fits he hl hd _)
  | ex x =>
    obtain ⟨o, ho⟩ := hf
    rw [ho]
    exact ⟨_, rfl, hx e _ he fun z => back_noS z o e⟩
theorem rk_callL {np : Nat} {F : Df} {as : List Ar} {k : List D → DEnv → Fl} {args : DEnv} {mF : N β} {v : β → List D} {outs : β → DEnv} {M : β → Ct σ l ρ} (hf : RFl mF (F args) v outs) (g : ∀ r, RS (setBack c as (outs r)) (k (v r)) (M r) Q) (hx : ∀ e e', Fits c e → (noS as = true → e' = e) → Q.ex e') (ha : as.map (toC c) = args := by rfl) (hl : lentAll c as = true := by rfl) (hn : as.length = np := by rfl) (hd0 : nodupB (slotsOf as) = true := by rfl) : RS c (callKL np F k as) (mF.ct M) Q := fun e he => by
  have hd := nodupB_ok hd0
  unfold callKL callD
  rw [if_pos hn, if_pos hd, toC_at he as hl, ha]
  cases mF with
  | stuck => exact trivial
  | ok r =>
    have hf' : F args = .okl (v r) (outs r) := hf
    rw [hf']
    exact g r _ (back_fits he hl hd _)
  | ex x =>
    obtain ⟨o, ho⟩ := hf
    rw [ho]
    exact ⟨_, rfl, hx e _ he fun z => back_noS z o e⟩
theorem rk_call0 {F : Df} {k : D → DEnv → Fl} {mF : N β} {v : β → D} {outs : β → DEnv} {M : β → Ct σ l ρ} (hf : RF mF (F []) v outs) (hx : ∀ x, mF ≠ .ex x) (g : ∀ r, RS c (k (v r)) (M r) Q) : RS c (FK (eCall0 F) k) (mF.ct M) Q := fun e he => by
  unfold FK eCall0
  cases mF with
  | stuck => exact trivial
  | ok r =>
    have hf' : F [] = .ok (v r) (outs r) := hf
    rw [hf']
    exact g r _ he
  | ex x => exact absurd rfl (hx x)
def slC (c : Sps) (i : Nat) : Sl := match c[i]? with
  | some (.is t) => t
  | _ => .no
def isC (c : Sps) (i : Nat) : Bool := match c[i]? with
  | some (.is _) => true
  | _ => false
def outsC (c : Sps) : Nat → DEnv → DEnv
  | i, s :: r => outOf s (slC c i) :: outsC c (i + 1) r
  | _, [] => []
def lendsC (c : Sps) : Nat → DEnv → Bool
  | i, s :: r => (s.pk == 0 || isC c i) && lendsC c (i + 1) r
  | _, [] => true
theorem outOf_no {s : Sl} (h : s.pk = 0) (t : Sl) : outOf s t = .no := by cases s <;> first | rfl | cases h
theorem slC_at {e : DEnv} (he : Fits c e) {i : Nat} (h : isC c i = true) : e.getD i Sl.no = slC c i := by
  unfold isC at h
  split at h
  · rename_i q
    unfold slC
    simp [List.getD, he.is q, q]
  · cases h
theorem outs_at {e : DEnv} (he : Fits c e) : ∀ (args : DEnv) (i : Nat), lendsC c i args = true → (args.mapIdx fun j a => outOf a (e.getD (i + j) Sl.no)) = outsC c i args
  | [], i, _ => rfl
  | a :: r, i, h => by
    rw [List.mapIdx_cons]
    have h' : (a.pk == 0 || isC c i) = true ∧ lendsC c (i + 1) r = true := by
      have : ((a.pk == 0 || isC c i) && lendsC c (i + 1) r) = true := h
      rwa [Bool.and_eq_true] at this
    have tail : (r.mapIdx fun j a => outOf a (e.getD (i + (j + 1)) Sl.no)) = outsC c (i + 1) r := by
      rw [← outs_at he r (i + 1) h'.2]
      congr 1
      funext j a
      rw [show i + (j + 1) = i + 1 + j by omega]
    show _ :: _ = outOf a (slC c i) :: outsC c (i + 1) r
    rw [tail]
    congr 1
    by_cases z : a.pk = 0
    · rw [outOf_no z, outOf_no z]
    · have := h'.1
      rw [Bool.or_eq_true] at this
      rw [Nat.add_zero, slC_at he (this.resolve_left fun w => z (by simpa using w))]
abbrev QF (args : DEnv) (v : ρ → D) (outs : ρ → DEnv) : Qs Unit Unit ρ := { nx := fun _ _ => False, lp := fun _ _ => False, rt := fun r d e => d = v r ∧ outsOf args e = outs r, rl := fun _ _ _ => False, ex := fun _ => True }
abbrev QFl (args : DEnv) (v : ρ → List D) (outs : ρ → DEnv) : Qs Unit Unit ρ := { nx := fun _ _ => False, lp := fun _ _ => False, rt := fun _ _ _ => False, rl := fun r d e => d = v r ∧ outsOf args e = outs r, ex := fun _ => True }
theorem outs_of {args : DEnv} {o : DEnv} (h : lendsC c 0 args = true) (ho : outsC c 0 args = o) {e : DEnv} (he : Fits c e) : outsOf args e = o := by
  rw [← ho, ← outs_at he args 0 h]
  unfold outsOf
  congr 1
  funext j a
  rw [Nat.zero_add]
theorem fits_init (args : DEnv) (n : Nat) : Fits (args.map Sp.is ++ List.replicate n Sp.nw) (args ++ List.replicate n Sl.no) := by
  refine ⟨by simp, fun i x t hx ht => ?_⟩
  by_cases q : i < args.length
  · rw [List.getElem?_append_left (by simpa using q)] at hx
    rw [List.getElem?_append_left q] at ht
    rw [List.getElem?_map, ht] at hx
    cases hx
    rfl
  · rw [List.getElem?_append_right (by simpa using q)] at hx
    rw [List.getElem?_append_right (by omega)] at ht
    rw [List.getElem?_replicate] at hx ht
    split at hx <;> cases hx
    split at ht <;> cases ht
    rfl
theorem rf_of {n : Nat} {b : DS} {args : DEnv} {c0 : Sps} {m : Ct Unit Unit ρ} {v : ρ → D} {outs : ρ → DEnv} (h : RS c0 b m (QF args v outs)) (hc : args.map Sp.is ++ List.replicate (n - args.length) Sp.nw = c0 := by rfl) : RF m.fn (bodyF n b args) v outs := by
  subst hc
  have h' := h _ (fits_init args (n - args.length))
  rw [bodyF_ap]
  cases m with
  | nx s => obtain ⟨_, _, f⟩ := h'; exact f.elim
  | bk s => obtain ⟨_, _, f⟩ := h'; exact f.elim
  | ct s => obtain ⟨_, _, f⟩ := h'; exact f.elim
  | stuck => exact trivial
  | ex x => obtain ⟨e, q, f⟩ := h'; rw [q]; exact ⟨_, rfl⟩
  | rt r =>
    rcases h' with ⟨d, e', q, f1, f2⟩ | ⟨_, _, _, f⟩
    · rw [q]
      show Fo.ok d (outsOf args e') = .ok (v r) (outs r)
      rw [f1, f2]
    · exact f.elim
theorem rfl_of {n : Nat} {b : DS} {args : DEnv} {c0 : Sps} {m : Ct Unit Unit ρ} {v : ρ → List D} {outs : ρ → DEnv} (h : RS c0 b m (QFl args v outs)) (hc : args.map Sp.is ++ List.replicate (n - args.length) Sp.nw = c0 := by rfl) : RFl m.fn (bodyF n b args) v outs := by
  subst hc
  have h' := h _ (fits_init args (n - args.length))
  rw [bodyF_ap]
  cases m with
  | nx s => obtain ⟨_, _, f⟩ := h'; exact f.elim
  | bk s => obtain ⟨_, _, f⟩ := h'; exact f.elim
  | ct s => obtain ⟨_, _, f⟩ := h'; exact f.elim
  | stuck => exact trivial
  | ex x => obtain ⟨e, q, f⟩ := h'; rw [q]; exact ⟨_, rfl⟩
  | rt r =>
    rcases h' with ⟨_, _, _, f⟩ | ⟨d, e', q, f1, f2⟩
    · exact f.elim
    · rw [q]
      show Fo.okl d (outsOf args e') = .okl (v r) (outs r)
      rw [f1, f2]
end
end NT
set_option Elab.async false
set_option linter.all false
set_option autoImplicit false
namespace NT
open PySem L2 DL LW
section
variable {α β σ τ l ρ : Type} {c : Sps} {m : Ct σ l ρ} {Q : Qs σ l ρ}
def compC (f : α → σ → Ct σ Unit (β × σ)) : List α → σ → N (List β × σ)
  | [], s => .ok ([], s)
  | a :: as, s => match f a s with
    | .nx s1 => compC f as s1
    | .rt p => match compC f as p.2 with
      | .ok q => .ok (p.1 :: q.1, q.2)
      | _ => .stuck
    | _ => .stuck
def compP (f : α → Ct Unit Unit β) : List α → N (List β)
  | [] => .ok []
  | a :: as => match f a with
    | .nx _ => compP f as
    | .rt b => match compP f as with
      | .ok bs => .ok (b :: bs)
      | _ => .stuck
    | _ => .stuck
def lcS (f : α → σ → Ct σ Unit (β × σ)) (xs : List α) (s : σ) : N (List β × σ) := if xs.length ≤ 100000 then compC f xs s else .stuck
def lcP (f : α → Ct Unit Unit β) (xs : List α) : N (List β) := if xs.length ≤ 100000 then compP f xs else .stuck
theorem compP_map {f : α → Ct Unit Unit β} {g : α → β} : ∀ (as : List α), (∀ a, a ∈ as → f a = .rt (g a)) → compP f as = .ok (as.map g)
  | [], _ => rfl
  | a :: as, h => by
    unfold compP
    rw [h a (List.mem_cons_self ..), compP_map as fun b hb => h b (List.mem_cons_of_mem _ hb)]
    rfl
theorem compP_fm {f : α → Ct Unit Unit β} {p : α → Bool} {g : α → β} : ∀ (as : List α), (∀ a, a ∈ as → f a = if p a = true then .rt (g a) else .nx ()) → compP f as = .ok ((as.filter p).map g)
  | [], _ => rfl
  | a :: as, h => by
    unfold compP
    rw [h a (List.mem_cons_self ..), compP_fm as fun b hb => h b (List.mem_cons_of_mem _ hb), List.filter_cons]
    cases p a <;> rfl
theorem lcP_map {f : α → Ct Unit Unit β} {g : α → β} (as : List α) (hl : as.length ≤ 100000) (h : ∀ a, a ∈ as → f a = .rt (g a)) : lcP f as = .ok (as.map g) := by unfold lcP; rw [if_pos hl, compP_map as h]
theorem lcP_fm {f : α → Ct Unit Unit β} {p : α → Bool} {g : α → β} (as : List α) (hl : as.length ≤ 100000) (h : ∀ a, a ∈ as → f a = if p a = true then .rt (g a) else .nx ()) : lcP f as = .ok ((as.filter p).map g) := by unfold lcP; rw [if_pos hl, compP_fm as h]
def wipeC (c : Sps) : List Nat → Sps
  | [] => c
  | v :: vs => (wipeC c vs).set v (.is .no)
def noOwnC (c : Sps) (vs : List Nat) : Bool := vs.all fun i => match c[i]? with
  | some (.is s) => !s.own
  | some .nw => true
  | _ => false
theorem wipe_fits {e : DEnv} (he : Fits c e) : ∀ vs, Fits (wipeC c vs) (wipeD e vs)
  | [] => he
  | v :: vs => (wipe_fits he vs).set v rfl
theorem wipeC_len : ∀ vs, (wipeC c vs).length = c.length
  | [] => rfl
  | v :: vs => by show ((wipeC c vs).set v _).length = _; rw [List.length_set, wipeC_len vs]
theorem wipeC_ne {j : Nat} : ∀ vs, j ∉ vs → (wipeC c vs)[j]? = c[j]?
  | [], _ => rfl
  | v :: vs, h => by
    have h' : ¬ j = v ∧ j ∉ vs := by simpa using h
    show ((wipeC c vs).set v _)[j]? = _
    rw [List.getElem?_set_ne (fun z => h'.1 z.symm), wipeC_ne vs h'.2]
theorem noOwnC_at {e : DEnv} (he : Fits c e) {vs : List Nat} (h : noOwnC c vs = true) : noOwn e vs = true := by
  unfold noOwn
  unfold noOwnC at h
  rw [List.all_eq_true] at h ⊢
  intro i hi
  have := h i hi
  cases q : c[i]? with
  | none => rw [q] at this; cases this
  | some x =>
    rw [q] at this
    obtain ⟨t, a, b⟩ := he.get q
    rw [a]
    cases x with
    | is s => exact (show t = s from b) ▸ this
    | nw => have b' : t.own = false := b; simp [b']
    | np => cases this
theorem mergeD_len (e1 e2 : DEnv) : ∀ vs, (mergeD e1 e2 vs).length = e2.length
  | [] => rfl
  | v :: vs => by show ((mergeD e1 e2 vs).set v _).length = _; rw [List.length_set, mergeD_len e1 e2 vs]
theorem mergeD_ne (e1 e2 : DEnv) {j : Nat} : ∀ vs, j ∉ vs → (mergeD e1 e2 vs)[j]? = e2[j]?
  | [], _ => rfl
  | v :: vs, h => by
    have h' : ¬ j = v ∧ j ∉ vs := by simpa using h
    show ((mergeD e1 e2 vs).set v _)[j]? = _
    rw [List.getElem?_set_ne (fun z => h'.1 z.symm), mergeD_ne e1 e2 vs h'.2]
theorem mergeD_mem (e1 e2 : DEnv) {j : Nat} {t : Sl} : ∀ vs, j ∈ vs → (mergeD e1 e2 vs)[j]? = some t → t = e1.getD j .no
  | [], h, _ => by simp at h
  | v :: vs, h, q => by
    have q' : ((mergeD e1 e2 vs).set v (e1.getD v .no))[j]? = some t := q
    by_cases z : v = j
    · subst z
      have l : v < (mergeD e1 e2 vs).length := by have := (List.getElem?_eq_some_iff.mp q').1; simpa using this
      rw [List.getElem?_set_self l] at q'
      exact (Option.some.inj q').symm
    · rw [List.getElem?_set_ne z] at q'
      exact mergeD_mem e1 e2 vs (by rcases List.mem_cons.1 h with h | h; exact absurd h.symm z; exact h) q'
theorem merge_fits {c' : Sps} {e1 e2 : DEnv} {vs : List Nat} (h1 : Fits c e1) (h2 : Fits (wipeC c' vs) e2) (hv : vs.map (fun v => c'[v]?) = vs.map (fun v => c[v]?)) : Fits c' (mergeD e1 e2 vs) := by
  refine ⟨by rw [mergeD_len, ← h2.len, wipeC_len], fun j x t hx ht => ?_⟩
  by_cases q : j ∈ vs
  · have e := mergeD_mem e1 e2 vs q ht
    have hx' : c[j]? = some x := by
      have := List.map_inj_left.1 hv j q
      rw [← this]; exact hx
    obtain ⟨u, a, b⟩ := h1.get hx'
    have : e1.getD j .no = u := by simp [List.getD, a]
    rw [e, this]
    exact b
  · rw [mergeD_ne e1 e2 vs q] at ht
    refine h2.at_ j x t ?_ ht
    rw [wipeC_ne vs q]
    exact hx
def compK (t : DT) (el : DE) : DEnv → Fl := FK t fun b => ifF b (FK el retK) sNx
def lcK (g : DG) (t : DT) (el : DE) (vs : List Nat) (k : List D → DEnv → Fl) (ds : List D) : DEnv → Fl := fun e1 => (if ds.length ≤ 100000 ∧ noOwn e1 vs = true then match compD g t el vs ds (wipeD e1 vs) with
    | .ok ys e2 => Rs.ok ys (mergeD e1 e2 vs)
    | _ => .stuck
  else .stuck).fl k
theorem rk_lc {di : DA} {g : DG} {t : DT} {el : DE} {vs : List Nat} {k : List D → DEnv → Fl} (h : RS c (FK di (lcK g t el vs k)) m Q) : RS c (FK (lComp di g t el vs) k) m Q := rk_conv (fun e => by
  unfold FK lComp
  rw [fl_bind]
  rfl) h
theorem compK_at {t : DT} {el : DE} {e : DEnv} : compK t el e = match t e with
    | .ok true e1 => (match el e1 with
      | .ok d e2 => .rt d e2
      | .ex x e2 => .ex x e2
      | .stuck => .stuck)
    | .ok false e1 => .nx e1
    | .ex x e1 => .ex x e1
    | .stuck => .stuck := by
  unfold compK FK
  cases t e with
  | ok b e1 =>
    cases b
    · rfl
    · show (el e1).fl retK = (match el e1 with
        | .ok d e2 => Fl.rt d e2
        | .ex x e2 => .ex x e2
        | .stuck => .stuck)
      cases el e1 <;> rfl
  | ex _ _ => rfl
  | stuck => rfl
abbrev QC (fb : β → D) (c' : σ → Sps) : Qs σ Unit (β × σ) := { nx := fun s e => Fits (c' s) e, lp := fun _ _ => False, rt := fun p d e => d = fb p.1 ∧ Fits (c' p.2) e, rl := fun _ _ _ => False, ex := fun _ => True }
theorem compD_R {fe : α → D} {fb : β → D} {g : DG} {t : DT} {el : DE} {vs : List Nat} {cs : σ → Sps} {ca : α → σ → Sps} {nb : α → σ → Ct σ Unit (β × σ)} (hg : ∀ a s, GS (wipeC (cs s) vs) g (fe a) (ca a s)) (hw : ∀ a s, wipeC (ca a s) vs = wipeC (cs s) vs) (hb : ∀ a s, RS (ca a s) (compK t el) (nb a s) (QC fb (ca a))) : ∀ (xs : List α) (s : σ) (e : DEnv), Fits (wipeC (cs s) vs) e → match compC nb xs s with
    | .ok q => ∃ e2, compD g t el vs (xs.map fe) e = .ok (q.1.map fb) e2 ∧ Fits (wipeC (cs q.2) vs) e2
    | _ => True
  | [], s, e, he => ⟨e, rfl, he⟩
  | a :: as, s, e, he => by
    obtain ⟨e1, q, f1⟩ := hg a s e he
    have h' := hb a s e1 f1
    have ih := compD_R hg hw hb as
    have up : compD g t el vs ((a :: as).map fe) e = match compK t el e1 with
        | .nx e2 => compD g t el vs (as.map fe) (wipeD e2 vs)
        | .rt y e3 => (compD g t el vs (as.map fe) (wipeD e3 vs)).bind fun ys e4 => .ok (y :: ys) e4
        | .ex x e => .ex x e
        | _ => .stuck := by
      rw [compK_at]
      show (match g (fe a) e with
        | none => Rs.stuck
        | some e1 => (t e1).bind fun b e2 => if b = true then (el e2).bind fun y e3 => (compD g t el vs (as.map fe) (wipeD e3 vs)).bind fun ys e4 => .ok (y :: ys) e4 else compD g t el vs (as.map fe) (wipeD e2 vs)) = _
      rw [q]
      simp only
      cases t e1 with
      | ok b e2 =>
        cases b
        · rfl
        · simp only [bind_ok, if_true]
          cases el e2 <;> rfl
      | ex _ _ => rfl
      | stuck => rfl
    rw [up]
    cases w : nb a s with
    | nx s1 =>
      rw [w] at h'
      obtain ⟨e2, q2, f2⟩ := h'
      rw [q2]
      simp only [compC, w]
      refine ih s1 (wipeD e2 vs) ?_
      rw [← hw a s1]
      exact wipe_fits f2 vs
    | rt p =>
      rw [w] at h'
      rcases h' with ⟨d, e2, q2, f2, f3⟩ | ⟨_, _, _, f⟩
      · rw [q2]
        simp only [compC, w]
        have ih' := ih p.2 (wipeD e2 vs) (by rw [← hw a p.2]; exact wipe_fits f3 vs)
        cases w2 : compC nb as p.2 with
        | ok q =>
          rw [w2] at ih'
          obtain ⟨e4, a4, b4⟩ := ih'
          refine ⟨e4, ?_, b4⟩
          rw [a4, f2]
          rfl
        | ex x => exact trivial
        | stuck => exact trivial
      · exact f.elim
    | bk s => simp only [compC, w]
    | ct s => simp only [compC, w]
    | ex s => simp only [compC, w]
    | stuck => simp only [compC, w]
theorem compC_ex (nb : α → σ → Ct σ Unit (β × σ)) : ∀ (as : List α) (s : σ) (x : Xc), compC nb as s ≠ .ex x
  | [], _, _ => fun h => by cases h
  | a :: as, s, x => by
    unfold compC
    cases nb a s with
    | nx s1 => exact compC_ex nb as s1 x
    | rt p => simp only; cases compC nb as p.2 <;> exact fun h => by cases h
    | _ => exact fun h => by cases h
theorem rk_lcS {fe : α → D} {fb : β → D} {g : DG} {t : DT} {el : DE} {vs : List Nat} {cs : τ → Sps} {ca : α → τ → Sps} {nb : α → τ → Ct τ Unit (β × τ)} {xs : List α} {s0 : τ} {k : List D → DEnv → Fl} {M : List β × τ → Ct σ l ρ} (hs : Sub c (cs s0)) (hg : ∀ a s, GS (wipeC (cs s) vs) g (fe a) (ca a s)) (hb : ∀ a s, RS (ca a s) (compK t el) (nb a s) (QC fb (ca a))) (h : ∀ p : List β × τ, RS (cs p.2) (k (p.1.map fb)) (M p) Q) (hw : ∀ a s, wipeC (ca a s) vs = wipeC (cs s) vs := by intro _ _; rfl) (hv : ∀ s, vs.map (fun v => (cs s)[v]?) = vs.map (fun v => (cs s0)[v]?) := by intro _; rfl) (ho : noOwnC (cs s0) vs = true := by rfl) : RS c (lcK g t el vs k (xs.map fe)) ((lcS nb xs s0).ct M) Q := fun e he0 => by
  have he := he0.sub hs
  unfold lcK lcS
  rw [List.length_map]
  by_cases hl : xs.length ≤ 100000
  · rw [if_pos hl, if_pos ⟨hl, noOwnC_at he ho⟩]
    have := compD_R hg hw hb xs s0 (wipeD e vs) (wipe_fits he vs)
    cases w : compC nb xs s0 with
    | ok q =>
      rw [w] at this
      obtain ⟨e2, a, b⟩ := this
      rw [a]
      exact h q _ (merge_fits he b (hv q.2))
    | ex x => exact absurd w (compC_ex nb xs s0 x)
    | stuck => exact trivial
  · rw [if_neg hl]
    exact trivial
/-- one that changes nothing -/
abbrev QCp (fb : β → D) (c' : Sps) : Qs Unit Unit β := { nx := fun _ e => Fits c' e, lp := fun _ _ => False, rt := fun b d e => d = fb b ∧ Fits c' e, rl := fun _ _ _ => False, ex := fun _ => True }
def liftP (m : Ct Unit Unit β) : Ct Unit Unit (β × Unit) := match m with
  | .nx s => .nx s
  | .rt b => .rt (b, ())
  | .bk s => .bk s
  | .ct s => .ct s
  | .ex x => .ex x
  | .stuck => .stuck
theorem compP_C (f : α → Ct Unit Unit β) : ∀ as, compC (fun a _ => liftP (f a)) as () = (compP f as).bd fun bs => .ok (bs, ())
  | [] => rfl
  | a :: as => by
    unfold compC compP
    have ih := compP_C f as
    cases f a with
    | nx s => exact ih
    | rt b =>
      have lp : liftP (Ct.rt b) = Ct.rt (b, ()) := rfl
      rw [lp]
      dsimp only
      rw [ih]
      cases compP f as <;> rfl
    | _ => rfl
theorem rk_lcP {fe : α → D} {fb : β → D} {g : DG} {t : DT} {el : DE} {vs : List Nat} {ca : α → Sps} {nb : α → Ct Unit Unit β} {xs : List α} {k : List D → DEnv → Fl} {M : List β → Ct σ l ρ} (hg : ∀ a, GS (wipeC c vs) g (fe a) (ca a)) (hb : ∀ a, RS (ca a) (compK t el) (nb a) (QCp fb (ca a))) (h : ∀ bs : List β, RS c (k (bs.map fb)) (M bs) Q) (hw : ∀ a, wipeC (ca a) vs = wipeC c vs := by intro _; rfl) (ho : noOwnC c vs = true := by rfl) : RS c (lcK g t el vs k (xs.map fe)) ((lcP nb xs).ct M) Q := fun e he => by
  have := rk_lcS (τ := Unit) (Q := Q) (c := c) (cs := fun _ => c) (ca := fun a _ => ca a) (nb := fun a _ => liftP (nb a)) (xs := xs) (s0 := ()) (k := k) (M := fun p => M p.1) (fe := fe) (fb := fb) (g := g) (t := t) (el := el) (vs := vs) (by
    have : ∀ c : Sps, Sub c c := fun c => by
      induction c with
      | nil => exact trivial
      | cons x c ih => exact ⟨by cases x <;> first | rfl | trivial, ih⟩
    exact this c) (fun a _ => hg a) (fun a _ => fun e1 f1 => by
      have h' := hb a e1 f1
      cases w : nb a with
      | nx s => rw [w] at h'; exact h'
      | rt b => rw [w] at h'; exact h'
      | bk s => rw [w] at h'; exact h'
      | ct s => rw [w] at h'; exact h'
      | ex x => rw [w] at h'; exact h'
      | stuck => exact trivial) (fun p => h p.1) (fun a _ => hw a) (fun _ => rfl) ho e he
  unfold lcS at this
  unfold lcP
  by_cases hl : xs.length ≤ 100000
  · rw [if_pos hl] at this ⊢
    rw [compP_C] at this
    cases w : compP nb xs with
    | ok bs => rw [w] at this; exact this
    | ex x => rw [w] at this; exact this
    | stuck => exact trivial
  · rw [if_neg hl]; exact trivial
theorem rk_retC {fb : β → D} {c' : Sps} {b : β} (h : Sub c c') : RS c (retK (fb b)) (.rt b) (QCp fb c') := rk_ret fun e he => ⟨rfl, he.sub h⟩
theorem rk_ck {t : DT} {el : DE} (h : RS c (FK t fun b => ifF b (FK el retK) sNx) m Q) : RS c (compK t el) m Q := h
theorem rk_ck1 {el : DE} (h : RS c (FK el retK) m Q) : RS c (compK tYesD el) m Q := h
end
end NT
set_option Elab.async false
set_option linter.all false
set_option autoImplicit false
namespace NT
open PySem L2 DL LW
section
variable {α β γ δ ε ζ η σ τ l ρ : Type} {c : Sps} {m : Ct σ l ρ} {Q : Qs σ l ρ}
@[simp, reducible] def P2 (f : α → β → γ) (s : α × β) : γ := f s.1 s.2
@[simp, reducible] def P3 (f : α → β → γ → δ) (s : α × β × γ) : δ := f s.1 s.2.1 s.2.2
@[simp, reducible] def P4 (f : α → β → γ → δ → ε) (s : α × β × γ × δ) : ε := f s.1 s.2.1 s.2.2.1 s.2.2.2
@[simp, reducible] def P5 (f : α → β → γ → δ → ε → ζ) (s : α × β × γ × δ × ε) : ζ := f s.1 s.2.1 s.2.2.1 s.2.2.2.1 s.2.2.2.2
@[simp, reducible] def P6 (f : α → β → γ → δ → ε → ζ → η) (s : α × β × γ × δ × ε × ζ) : η := f s.1 s.2.1 s.2.2.1 s.2.2.2.1 s.2.2.2.2.1 s.2.2.2.2.2
abbrev imin (a b : Int) : Int := if b < a then b else a
abbrev b2i (b : Bool) : Int := if b then 1 else 0
theorem sub_nil : Sub [] [] := trivial
theorem sub_cons {x y : Sp} {c d : Sps} (h : Wk x y) (g : Sub c d) : Sub (x :: c) (y :: d) := ⟨h, g⟩
theorem wk_is {s : Sl} : Wk (.is s) (.is s) := rfl
theorem wk_vnp {d : D} : Wk (.is (.v d)) .np := rfl
theorem wk_lnp {d : List D} : Wk (.is (.l d)) .np := rfl
theorem wk_vnw {d : D} : Wk (.is (.v d)) .nw := rfl
theorem wk_np : Wk .np .np := trivial
theorem wk_nw : Wk .nw .nw := trivial
theorem wk_nwnp : Wk .nw .np := trivial
theorem rs_assoc {a b r : DS} (h : RS c (sSeq a (sSeq b r)) m Q) : RS c (sSeq (sSeq a b) r) m Q := rk_conv (fun e => by
  unfold sSeq
  cases a e <;> rfl) h
theorem len_L {f : α → D} (xs : List α) : fLen [eLs f xs] = some (eI xs.length) := by simp [fLen]
def cutL (xs : List α) (lo hi : Option Int) : List α := (xs.drop (HT.sIx xs.length 0 lo)).take (HT.sIx xs.length xs.length hi - HT.sIx xs.length 0 lo)
theorem cutD_map (f : α → D) (xs : List α) (lo hi : Option Int) : cutD (xs.map f) lo hi = (cutL xs lo hi).map f := by
  unfold cutD cutL
  rw [List.length_map, List.map_take, List.map_drop]
theorem sl_L {f : α → D} (xs : List α) (lo hi : Option Int) : dSl (eLs f xs) lo hi = some (eLs f (cutL xs lo hi)) := by
  show some (PyData.list (cutD (xs.map f) lo hi)) = _
  rw [cutD_map]
theorem all_B (bs : List Bool) : fAll [eLs eB bs] = some (eB (bs.all id)) := by
  have : ∀ bs : List Bool, bools (bs.map eB) = some bs := fun bs => by
    induction bs with
    | nil => rfl
    | cons b bs ih => simp [bools, ih]
  simp [fAll, this]
end
end NT
set_option Elab.async false
set_option linter.all false
set_option autoImplicit false
namespace NT
open PySem L2 DL LW
section
variable {α β σ τ l ρ : Type}
structure Po (σ l ρ : Type) where
  nx : σ → Prop := fun _ => False
  rt : ρ → Prop := fun _ => False
  bk : l → Prop := fun _ => False
  ct : l → Prop := fun _ => False
  ex : Xc → Prop := fun _ => False
def W (c : Ct σ l ρ) (p : Po σ l ρ) : Prop := match c with
  | .nx s => p.nx s
  | .rt r => p.rt r
  | .bk s => p.bk s
  | .ct s => p.ct s
  | .ex x => p.ex x
  | .stuck => False
@[simp] theorem W_nx (s : σ) (p : Po σ l ρ) : W (.nx s) p = p.nx s := rfl
@[simp] theorem W_rt (s : ρ) (p : Po σ l ρ) : W (.rt s) p = p.rt s := rfl
@[simp] theorem W_bk (s : l) (p : Po σ l ρ) : W (.bk s) p = p.bk s := rfl
@[simp] theorem W_ct (s : l) (p : Po σ l ρ) : W (.ct s) p = p.ct s := rfl
@[simp] theorem W_ex (s : Xc) (p : Po σ l ρ) : W (.ex s) p = p.ex s := rfl
@[simp] theorem W_stuck (p : Po σ l ρ) : W .stuck p = False := rfl
theorem W_sq {m : Ct σ l ρ} {K : σ → Ct τ l ρ} {p : Po τ l ρ} (h : W m { nx := fun s => W (K s) p, rt := p.rt, bk := p.bk, ct := p.ct, ex := p.ex }) : W (m.sq K) p := by
  cases m <;> exact h
theorem W_mono {m : Ct σ l ρ} {p q : Po σ l ρ} (h : W m p) (a : ∀ s, p.nx s → q.nx s) (b : ∀ s, p.rt s → q.rt s) (c : ∀ s, p.bk s → q.bk s) (d : ∀ s, p.ct s → q.ct s) (e : ∀ s, p.ex s → q.ex s) : W m q := by
  cases m with
  | nx s => exact a _ h
  | rt s => exact b _ h
  | bk s => exact c _ h
  | ct s => exact d _ h
  | ex s => exact e _ h
  | stuck => exact h
/-- a block with what holds behind it -/
theorem W_cut {m : Ct σ l ρ} {K : σ → Ct τ l ρ} {p : Po τ l ρ} (J : σ → Prop) (h : W m { nx := J, rt := p.rt, bk := p.bk, ct := p.ct, ex := p.ex }) (k : ∀ s, J s → W (K s) p) : W (m.sq K) p :=
  W_sq (W_mono h k (fun _ z => z) (fun _ z => z) (fun _ z => z) (fun _ z => z))
theorem W_forI {body : α → σ → Ct σ σ ρ} {p : Po σ l ρ} (I : Nat → σ → Prop) : ∀ (as : List α) (n : Nat) (s : σ), I n s → (∀ i a s, as[i]? = some a → I (n + i) s → W (body a s) { nx := I (n + i + 1), ct := I (n + i + 1), bk := p.nx, rt := p.rt, ex := p.ex }) → (∀ s, I (n + as.length) s → p.nx s) → W (forC body as s) p
  | [], n, s, h0, _, k => k s h0
  | a :: as, n, s, h0, h, k => by
    have h1 := h 0 a s rfl h0
    have ih := fun s (hs : I (n + 1) s) => W_forI I as (n + 1) s hs (fun i a s hi hp => by
      have := h (i + 1) a s (by simpa using hi) (by rw [show n + (i + 1) = n + 1 + i by omega]; exact hp)
      rw [show n + 1 + i + 1 = n + (i + 1) + 1 by omega]
      exact this) (fun s hs => k s (by rw [List.length_cons, show n + (as.length + 1) = n + 1 + as.length by omega]; exact hs))
    rw [forC_cons]
    cases q : body a s with
    | nx s' => rw [q] at h1; exact ih s' h1
    | ct s' => rw [q] at h1; exact ih s' h1
    | bk s' => rw [q] at h1; exact h1
    | rt s' => rw [q] at h1; exact h1
    | ex s' => rw [q] at h1; exact h1
    | stuck => rw [q] at h1; exact h1
theorem W_for {body : α → σ → Ct σ σ ρ} {p : Po σ l ρ} {as : List α} {s : σ} (I : Nat → σ → Prop) (h0 : I 0 s) (h : ∀ i a s, as[i]? = some a → I i s → W (body a s) { nx := I (i + 1), ct := I (i + 1), bk := p.nx, rt := p.rt, ex := p.ex }) (k : ∀ s, I as.length s → p.nx s) : W (forC body as s) p :=
  W_forI I as 0 s h0 (fun i a s hi hp => by rw [Nat.zero_add] at hp ⊢; exact h i a s hi hp) (by rw [Nat.zero_add]; exact k)
theorem W_fn {m : Ct σ l ρ} {Q : ρ → Prop} (h : W m { rt := Q }) : ∃ r, m.fn = .ok r ∧ Q r := by
  cases m with
  | rt r => exact ⟨r, rfl, h⟩
  | _ => exact h.elim
/-- the def on slots answers -/
theorem RF_ok {m : N ρ} {fo : Fo} {v : ρ → D} {outs : ρ → DEnv} {r : ρ} (h : RF m fo v outs) (e : m = .ok r) : fo = .ok (v r) (outs r) := by
  rw [e] at h
  exact h
end
end NT
set_option Elab.async false
set_option linter.all false
set_option autoImplicit false
namespace NT
open PySem L2 DL LW
section
variable {α β σ τ l ρ : Type} {c : Sps} {m : Ct σ l ρ} {Q : Qs σ l ρ}
theorem rs_raise {x : Str} {b : DS} (h : ∀ e, Fits c e → Q.ex e) : RS c (sSeq (sRaise x) b) (.ex ⟨x, none⟩ : Ct σ l ρ) Q := fun e he => ⟨e, rfl, h e he⟩
end
end NT
set_option Elab.async false
set_option linter.all false
set_option autoImplicit false
namespace NT
open PySem L2 DL LW
end NT
set_option Elab.async false
set_option linter.all false
set_option autoImplicit false
namespace NT
open PySem L2 DL LW
section
variable {α β σ τ l ρ : Type} {c : Sps} {Q : Qs σ l ρ}
def tryC (m : Ct σ l ρ) (h : Xc → Ct σ l ρ) : Ct σ l ρ := match m with
  | .ex x => h x
  | r => r
@[simp] theorem tryC_ex (x : Xc) (h : Xc → Ct σ l ρ) : tryC (.ex x) h = h x := rfl
@[simp] theorem tryC_nx (s : σ) (h : Xc → Ct σ l ρ) : tryC (.nx s) h = .nx s := rfl
@[simp] theorem tryC_rt (s : ρ) (h : Xc → Ct σ l ρ) : tryC (.rt s) h = .rt s := rfl
@[simp] theorem tryC_stuck (h : Xc → Ct σ l ρ) : tryC .stuck h = .stuck := rfl
def kindL (x : Xc) : List (Str × Option Str) → N Str
  | [] => .ex x
  | (n, w) :: r => if mtC n x.c = true then (match kindD x w with
    | some (.str s) => .ok s
    | _ => .stuck) else kindL x r
def kindT (x : Xc) (l : List (Str × Option Str)) : N Str := if x.c ∈ kNames then kindL x l else .stuck
theorem fits_setV {e : DEnv} {i : Nat} (he : Fits c e) (h : stb c i = true) (s : Sl) : setV i s e = some (e.set i s) := stb_at h he s
theorem rs_try {db b : DS} {iE iK : Nat} {hl : List (Str × Option Str)} {mb : Ct τ l ρ} {c1 : τ → Sps} {cx : Sps} {V : Str → τ} {K : τ → Ct σ l ρ}
    (hb : RS c db mb { nx := fun s e => Fits (c1 s) e, lp := Q.lp, rt := Q.rt, rl := Q.rl, ex := fun e => Fits cx e }) (hs : ∀ s, Sub ((cx.set iE .nw).set iK (.is (.v (.str s)))) (c1 (V s))) (g : ∀ s, RS (c1 s) b (K s) Q)
    (hx : ∀ e, Fits cx e → Q.ex e) (hE : stb cx iE = true := by rfl) (hK : stb (cx.set iE .nw) iK = true := by rfl) :
    RS c (sSeq (sTryK db iE iK hl) b) ((tryC mb fun x => (kindT x hl).ct fun s => .nx (V s)).sq K) Q := fun e he => by
  have hb := hb e he
  show R _ (match sTryK db iE iK hl e with
    | .nx e1 => b e1
    | r => r) Q
  unfold sTryK
  cases q : mb with
  | stuck => exact trivial
  | nx s =>
    rw [q] at hb
    obtain ⟨e1, h1, h2⟩ := hb
    rw [h1]
    exact g s e1 h2
  | rt r =>
    rw [q] at hb
    rcases hb with ⟨d, e1, h1, h2⟩ | ⟨d, e1, h1, h2⟩
    · rw [h1]; exact .inl ⟨d, e1, rfl, h2⟩
    · rw [h1]; exact .inr ⟨d, e1, rfl, h2⟩
  | bk s =>
    rw [q] at hb
    obtain ⟨e1, h1, h2⟩ := hb
    rw [h1]
    exact ⟨e1, rfl, h2⟩
  | ct s =>
    rw [q] at hb
    obtain ⟨e1, h1, h2⟩ := hb
    rw [h1]
    exact ⟨e1, rfl, h2⟩
  | ex x =>
    rw [q] at hb
    obtain ⟨e1, h1, h2⟩ := hb
    rw [h1, tryC_ex]
    unfold kindT
    by_cases hk : x.c ∈ kNames
    · simp only [if_pos hk]
      clear q h1
      induction hl with
      | nil => exact ⟨e1, rfl, hx e1 h2⟩
      | cons p r ih =>
        obtain ⟨n, w⟩ := p
        by_cases hm : mtC n x.c = true
        · unfold kindL tryH
          rw [if_pos hm, if_pos hm, fits_setV h2 hE]
          have h3 : Fits (cx.set iE .nw) (e1.set iE .no) := h2.set iE rfl
          cases q2 : kindD x w with
          | none => exact trivial
          | some y =>
            cases y with
            | str s =>
              simp only [fits_setV h3 hK]
              exact g (V s) _ ((h3.set iK (x := .is (.v (.str s))) rfl).sub (hs s))
            | _ => exact trivial
        · unfold kindL tryH
          rw [if_neg hm, if_neg hm]
          exact ih
    · simp only [if_neg hk]
      exact trivial
end
end NT
set_option Elab.async false
set_option linter.all false
set_option autoImplicit false
namespace NT
open PySem L2 DL LW
section
variable {α β : Type}
theorem shD_str {s : Str} (h : PyData.strOk s = true) (k : Nat) : shD k (eS s) := ⟨by simpa [PyData.canLay0] using h, by simp [PyData.depth]⟩
theorem eqN_typed [DecidableEq α] {f : α → D} [h : EqE f] {a b : α} {k : Nat} (ha : shD k (f a)) (hb : shD k (f b)) (hk : k ≤ 64 := by decide) : eqN (f a) (f b) = .ok (decide (a = b)) := by
  unfold eqN SeqAt.shaped
  rw [ha.1, hb.1, decide_eq_true (Nat.le_trans ha.2 hk), decide_eq_true (Nat.le_trans hb.2 hk)]
  simp only [Bool.and_self, and_self, if_true]
  congr 1
  rw [Bool.eq_iff_iff, h.eq, decide_eq_true_eq]
end
end NT
set_option Elab.async false
set_option linter.all false
set_option autoImplicit false
namespace NT
open PySem L2 DL LW
section
variable {α β γ σ τ l ρ : Type} {c : Sps} {m : Ct σ l ρ} {Q : Qs σ l ρ}
def eY (f : α → D) (g : β → D) : α ⊕ β → D
  | .inl a => f a
  | .inr b => g b
instance {f : α → D} {g : β → D} [h : NnE f] [i : NnE g] : NnE (eY f g) := ⟨fun a => by
  cases a
  · exact h.nn _
  · exact i.nn _⟩
theorem eqN_same {d : D} (h : SeqAt.shaped d = true) (e : PyData.eqv d d = true) : eqN d d = .ok true := by
  unfold eqN
  rw [if_pos ⟨h, h⟩, e]
end
end NT
set_option Elab.async false
set_option linter.all false
set_option autoImplicit false
namespace NT
open PySem L2 DL LW
end NT
set_option Elab.async false
set_option linter.all false
set_option maxRecDepth 100000
set_option autoImplicit false
set_option maxHeartbeats 4000000
namespace NT
open PySem L2 DL LW
section
variable {α β γ σ τ l ρ : Type} {c : Sps} {m : Ct σ l ρ} {Q : Qs σ l ρ}
section
variable {κ : Type} [DecidableEq κ] {f : κ → D} {g : β → D} [ke : KeyE f]
def dof (ps : List (κ × β)) : List (κ × β) := ps.foldl (fun acc p => dput acc p.1 p.2) []
theorem mergeP_typed : ∀ (xs acc : List (κ × β)), mergeP (eKv f g acc) (xs.map fun p => (ke.key p.1, g p.2)) = eKv f g (xs.foldl (fun acc p => dput acc p.1 p.2) acc)
  | [], acc => rfl
  | (k, v) :: r, acc => by
    show mergeP (putD (eKv f g acc) (ke.key k) (g v)) (r.map fun p => (ke.key p.1, g p.2)) = _
    rw [putD_typed, mergeP_typed r]
    rfl
end
def unL (x : α ⊕ β) : N α := match x with
  | .inl a => .ok a
  | .inr _ => .stuck
def unR (x : α ⊕ β) : N β := match x with
  | .inl _ => .stuck
  | .inr b => .ok b
@[simp] theorem unL_inl (a : α) : unL (.inl a : α ⊕ β) = .ok a := rfl
@[simp] theorem unR_inr (b : β) : unR (.inr b : α ⊕ β) = .ok b := rfl
end
end NT
set_option Elab.async false
set_option linter.all false
set_option autoImplicit false
namespace NT
open PySem L2 DL LW
section
variable {c : Sps} {κ β : Type} [DecidableEq κ] {f : κ → D} {g : β → D} [ke : KeyE f] {kvs : List (κ × β)} {k : κ} {i : Nat} {dk : DE}
def dgetO (kvs : List (κ × β)) (k : Option κ) : Option β := match k with
  | none => none
  | some k => dget kvs k
@[simp] theorem dgetO_none (kvs : List (κ × β)) : dgetO kvs none = none := rfl
@[simp] theorem dgetO_some (kvs : List (κ × β)) (k : κ) : dgetO kvs (some k) = dget kvs k := rfl
variable {σ l ρ : Type} {m : Ct σ l ρ} {Q : Qs σ l ρ}
end
structure Dd where
  w : Str
  h : Int
  o : Option Int
deriving DecidableEq
def eDd (d : Dd) : D := match d.o with
  | none => .tuple [.str d.w, .int d.h]
  | some x => .tuple [.str d.w, .int d.h, .int x]
theorem dd_0 (d : Dd) : dIx (eDd d) (.int 0) = some (eS d.w) := by
  obtain ⟨w, h, o⟩ := d
  cases o <;> rfl
def Dd.ns (d : Dd) : List Int := d.h :: d.o.toList
theorem dd_s (d : Dd) : dSl (eDd d) (some 1) none = some (eTs eI d.ns) := by
  obtain ⟨w, h, o⟩ := d
  cases o <;> rfl
instance : NnE eDd := ⟨fun d h => by
  obtain ⟨w, i, o⟩ := d
  cases o <;> cases h⟩
instance : EqE eDd := ⟨fun a b => by
  obtain ⟨w, i, o⟩ := a
  obtain ⟨w2, i2, o2⟩ := b
  cases o <;> cases o2 <;> simp [eDd, PyData.eqv, PyData.eqvAll]⟩
end NT
set_option Elab.async false
set_option linter.all false
set_option autoImplicit false
namespace NT
open PySem L2 DL LW
section
variable {α β σ l ρ : Type} {c : Sps} {m : Ct σ l ρ} {Q : Qs σ l ρ}
theorem rk_seqS {de : DE} {k : List D → DEnv → Fl} (g : RS c (FK de fun d => FK (put (seqS d)) k) m Q) : RS c (FK (iSeqS de) k) m Q := rk_conv (fun e => by
  unfold FK iSeqS
  cases de e <;> rfl) g
/-- data of any kind, walked -/
theorem rk_seqD {d : D} {k : List D → DEnv → Fl} {M : List D → Ct σ l ρ} (g : ∀ a, RS c (k (List.map eD a)) (M a) Q) : RS c (FK (put (seqS d)) k) ((ofO (seqS d)).ct M) Q := rk_opt (f := List.map eD) (fun a h => by rw [ofO_ok h, List.map_id']) (fun x => ofO_ex x) g
def intN (o : Option D) : N Int := match o with
  | some (.int n) => .ok n
  | _ => .stuck
def boolN (o : Option D) : N Bool := match o with
  | some (.bool n) => .ok n
  | _ => .stuck
theorem intN_ok {o : Option D} {a : Int} (h : intN o = .ok a) : o = some (eI a) := by
  unfold intN at h
  split at h <;> cases h
  rfl
theorem boolN_ok {o : Option D} {a : Bool} (h : boolN o = .ok a) : o = some (eB a) := by
  unfold boolN at h
  split at h <;> cases h
  rfl
theorem intN_ex {o : Option D} (x : Xc) : intN o ≠ .ex x := by unfold intN; split <;> exact fun h => by cases h
theorem boolN_ex {o : Option D} (x : Xc) : boolN o ≠ .ex x := by unfold boolN; split <;> exact fun h => by cases h
theorem rk_intN {o : Option D} {k : D → DEnv → Fl} {M : Int → Ct σ l ρ} (g : ∀ a, RS c (k (eI a)) (M a) Q) : RS c (FK (put o) k) ((intN o).ct M) Q := rk_opt (f := eI) (fun _ h => intN_ok h) (fun x => intN_ex x) g
theorem rk_boolN {o : Option D} {k : D → DEnv → Fl} {M : Bool → Ct σ l ρ} (g : ∀ a, RS c (k (eB a)) (M a) Q) : RS c (FK (put o) k) ((boolN o).ct M) Q := rk_opt (f := eB) (fun _ h => boolN_ok h) (fun x => boolN_ex x) g
def lenS (z : Str) : N Int := if z.length ≤ 100000 then .ok z.length else .stuck
theorem rk_lenS {z : Str} {k : D → DEnv → Fl} {M : Int → Ct σ l ρ} (g : ∀ a, RS c (k (eI a)) (M a) Q) : RS c (FK (put (fLen [eS z])) k) ((lenS z).ct M) Q := rk_opt (f := eI) (fun a h => by
  unfold lenS at h
  show (if z.length ≤ 100000 then some (PyData.int z.length) else none) = _
  split at h <;> cases h
  rename_i q
  rw [if_pos q]) (fun x => by unfold lenS; split <;> exact fun h => by cases h) g
def idxS (z : Str) (i : Int) : N Str := if z.length ≤ 100000 then (ofO (atI z.cps.toList i)).bd fun c => .ok ⟨#[c]⟩ else .stuck
theorem idxS_ok {z : Str} {i : Int} {a : Str} (h : idxS z i = .ok a) : dIx (eS z) (eI i) = some (eS a) := by
  unfold idxS at h
  show (if z.length ≤ 100000 then (atI z.cps.toList i).map (fun c => PyData.str ⟨#[c]⟩) else none) = _
  split at h
  · rename_i q
    rw [if_pos q]
    cases hq : atI z.cps.toList i with
    | none => rw [hq] at h; cases h
    | some c => rw [hq] at h; cases h; rfl
  · cases h
theorem rk_idxS {z : Str} {i : Int} {k : D → DEnv → Fl} {M : Str → Ct σ l ρ} (g : ∀ a, RS c (k (eS a)) (M a) Q) : RS c (FK (put (dIx (eS z) (eI i))) k) ((idxS z i).ct M) Q := rk_opt (f := eS) (fun a h => idxS_ok h) (fun x => by
  unfold idxS
  split
  · cases atI z.cps.toList i <;> exact fun h => by cases h
  · exact fun h => by cases h) g
/-- a sign in a text -/
def inSN (x z : Str) : N Bool := ofO (inStr x z)
theorem rk_inSS {x z : Str} {k : D → DEnv → Fl} {M : Bool → Ct σ l ρ} (g : ∀ a, RS c (k (eB a)) (M a) Q) : RS c (FK (put (dInS (eS x) (eS z))) k) ((inSN x z).ct M) Q := rk_opt (f := eB) (fun a h => by
  show (inStr x z).map PyData.bool = _
  rw [ofO_ok h]
  rfl) (fun x => ofO_ex x) g
theorem rk_ninSS {x z : Str} {k : D → DEnv → Fl} {M : Bool → Ct σ l ρ} (g : ∀ a, RS c (k (eB (!a))) (M a) Q) : RS c (FK (put (dNotInS (eS x) (eS z))) k) ((inSN x z).ct M) Q := rk_opt (f := fun b => eB (!b)) (fun a h => by
  show (inStr x z).map (fun b => PyData.bool (!b)) = _
  rw [ofO_ok h]
  rfl) (fun x => ofO_ex x) g
/-- texts put together -/
def joinN (s : Str) (xs : List Str) : N Str := if joinG s xs then .ok (Txt.join s xs) else .stuck
theorem strsOf_map (xs : List Str) : DL.strsD (xs.map eS) = some xs := by
  induction xs with
  | nil => rfl
  | cons x xs ih => simp [DL.strsD, ih]
def strOf : D → Option Str
  | .str a => some a
  | _ => none
theorem rk_join {da db : DE} {k : D → DEnv → Fl} (g : RS c (FK da fun x => FK (put (strOf x)) fun a => FK db fun y => FK (put (dJoin a y)) k) m Q) : RS c (FK (eJoin da db) k) m Q := rk_conv (fun e => by
  unfold FK eJoin
  cases da e with
  | ok d e1 => cases d <;> first | rfl | (show ((db e1).bind _).fl k = _; rw [fl_bind]; rfl)
  | ex _ _ => rfl
  | stuck => rfl) g
theorem rk_joinK {s : Str} {xs : List Str} {k : D → DEnv → Fl} {M : Str → Ct σ l ρ} (g : ∀ a, RS c (k (eS a)) (M a) Q) : RS c (FK (put (dJoin s (eLs eS xs))) k) ((joinN s xs).ct M) Q := rk_opt (f := eS) (fun a h => by
  unfold joinN at h
  unfold dJoin
  simp only [strsOf_map]
  split at h <;> cases h
  rename_i q
  rw [if_pos q]) (fun x => by unfold joinN; split <;> exact fun h => by cases h) g
theorem map_some {f : α → D} (ys : List α) : (ys.map some).map (eO f) = ys.map f := by rw [List.map_map]; rfl
end
end NT
set_option Elab.async false
set_option linter.all false
set_option autoImplicit false
namespace NT
open PySem L2 DL LW
instance : KeyE eS where
  key := .inr
  keyOf := fun _ => rfl
  kEq := fun a k => by
    show decide _ = _
    simp
  kD := fun _ => rfl
section
variable {α β σ l ρ : Type} {c : Sps} {m : Ct σ l ρ} {Q : Qs σ l ρ}
theorem rk_pnil {k : List (D × D) → DEnv → Fl} (g : RS c (k []) m Q) : RS c (FK (pairsD []) k) m Q := g
theorem rk_pcons {dk dv : DE} {r : List (DE × DE)} {k : List (D × D) → DEnv → Fl} (g : RS c (FK dk fun x => FK dv fun y => FK (pairsD r) fun ps => k ((x, y) :: ps)) m Q) : RS c (FK (pairsD ((dk, dv) :: r)) k) m Q := fun e he => by
  have := g e he
  unfold FK at this ⊢
  unfold pairsD
  simp only [fl_bind] at this ⊢
  exact this
/-- the dict of a display -/
def dispD (ps : List (D × D)) : Option (List (D × D)) := match keysOf ps with
  | some ks => if ks.length ≤ 15 then some (mergeP [] ks) else none
  | none => none
theorem rk_disp {prs : List (DE × DE)} {k : List (D × D) → DEnv → Fl} (g : RS c (FK (pairsD prs) fun ps => FK (put (dispD ps)) k) m Q) : RS c (FK (lDisp prs) k) m Q := rk_conv (fun e => by
  unfold FK lDisp
  cases pairsD prs e with
  | ok ps e1 =>
    rw [bind_ok]
    show _ = (put (dispD ps) e1).fl k
    unfold dispD
    cases keysOf ps with
    | none => rfl
    | some ks =>
      simp only
      split <;> rfl
  | ex _ _ => rfl
  | stuck => rfl) g
theorem rk_edct {dm : DM} {k : D → DEnv → Fl} (g : RS c (FK dm fun xs => k (.dict xs)) m Q) : RS c (FK (eDct dm) k) m Q := fun e he => by
  have := g e he
  unfold FK at this ⊢
  unfold eDct
  simp only [fl_bind] at this ⊢
  exact this
section
variable {κ : Type} [DecidableEq κ] {f : κ → D} {g : β → D} [ke : KeyE f]
theorem keysOf_typed : ∀ xs : List (κ × β), keysOf (eKv f g xs) = some (xs.map fun p => (ke.key p.1, g p.2))
  | [] => rfl
  | (k, v) :: r => by
    show (match DL.keyOf (f k), keysOf (eKv f g r) with
      | some a, some ps => some ((a, g v) :: ps)
      | _, _ => none) = _
    rw [keysOf_typed r, ke.keyOf]
    rfl
theorem dispD_typed (xs : List (κ × β)) (h : xs.length ≤ 15) : dispD (eKv f g xs) = some (eKv f g (dof xs)) := by
  unfold dispD
  rw [keysOf_typed]
  simp only [List.length_map]
  rw [if_pos h]
  exact congrArg some (mergeP_typed xs [])
theorem rk_get2 {dd dk dx : DE} {k : D → DEnv → Fl} (g : RS c (FK dd fun d => FK dk fun x => FK dx fun y => FK (put (dGet2 d x y)) k) m Q) (hd : ∀ e e1 d, dd e = .ok d e1 → ∃ ds, d = .dict ds) : RS c (FK (eGet2 dd dk dx) k) m Q := rk_conv (fun e => by
  unfold FK eGet2
  cases h : dd e with
  | ok d e1 =>
    obtain ⟨ds, rfl⟩ := hd e e1 d h
    rw [bind_ok]
    simp only [fl_bind]
    rfl
  | ex _ _ => rfl
  | stuck => rfl) g
theorem edct_dict (dm : DM) : ∀ e e1 d, eDct dm e = .ok d e1 → ∃ ds, d = .dict ds := fun e e1 d h => by
  unfold eDct at h
  cases hq : dm e with
  | ok xs e2 => rw [hq, bind_ok] at h; cases h; exact ⟨xs, rfl⟩
  | ex _ _ => rw [hq] at h; cases h
  | stuck => rw [hq] at h; cases h
theorem get2_typed (kvs : List (κ × β)) (k : κ) (x : β) : dGet2 (.dict (eKv f g kvs)) (f k) (g x) = some (g ((dget kvs k).getD x)) := by
  unfold dGet2
  simp only [ke.keyOf, valD_typed]
  cases dget kvs k <;> rfl
end
end
end NT
namespace NT
open PySem L2 DL LW
/-- what is known, written out -/
theorem rs_nf {σ l ρ : Type} {c c' : Sps} {f : DEnv → Fl} {m : Ct σ l ρ} {Q : Qs σ l ρ} (g : RS c' f m Q) (h : c = c' := by rfl) : RS c f m Q := h ▸ g
end NT
set_option Elab.async false
set_option linter.all false
set_option autoImplicit false
namespace NT
open PySem L2 DL LW
section
variable {α σ l ρ : Type} {c : Sps} {Q : Qs σ l ρ}
theorem ne_catG {β : Type} (a b : List α) (k : β) : ∀ x, Ct.fn ((catG a b).ct fun _ => (.rt k : Ct Unit Unit β)) ≠ .ex x := fun x h => by
  unfold catG gd at h
  split at h <;> cases h
end
end NT
set_option Elab.async false
set_option linter.all false
set_option maxRecDepth 100000
set_option autoImplicit false
namespace NT
open PySem L2 DL LW
/-- a dict as data -/
abbrev eM {κ β : Type} (f : κ → D) (g : β → D) (kvs : List (κ × β)) : D := .dict (eKv f g kvs)
instance {κ β : Type} {f : κ → D} {g : β → D} : NnE (eM f g) := ⟨fun _ h => by cases h⟩
section
variable {α β σ τ l ρ : Type} {c : Sps} {m : Ct σ l ρ} {Q : Qs σ l ρ}
section
variable {κ : Type} [DecidableEq κ] {f : κ → D} {g : β → D} [ke : KeyE f]
def ownM (c : Sps) (i : Nat) : Bool := match c[i]? with
  | some (.is (.m _)) => true
  | _ => false
end
end
end NT
namespace NT
open PySem L2 DL LW
end NT
set_option Elab.async false
set_option linter.all false
set_option maxRecDepth 100000
set_option autoImplicit false
namespace NT
open PySem L2 DL LW
end NT
set_option Elab.async false
set_option linter.all false
set_option maxRecDepth 100000
set_option autoImplicit false
namespace NT
open PySem L2 DL LW
end NT
set_option Elab.async false
set_option linter.all false
set_option maxRecDepth 100000
set_option autoImplicit false
namespace NT
open PySem L2 DL LW
end NT
set_option Elab.async false
set_option linter.all false
set_option maxRecDepth 100000
set_option autoImplicit false
namespace NT
open PySem L2 DL LW
end NT
set_option Elab.async false
set_option linter.all false
set_option maxRecDepth 100000
set_option autoImplicit false
namespace NT
open PySem L2 DL LW
end NT
set_option Elab.async false
set_option linter.all false
set_option maxRecDepth 100000
set_option autoImplicit false
namespace NT
open PySem L2 DL LW
def lone (n : Int) : LO := [(.none, some n)]
end NT
set_option Elab.async false
set_option linter.all false
set_option maxRecDepth 100000
set_option autoImplicit false
namespace NT
open PySem L2 DL LW
end NT
set_option Elab.async false
set_option linter.all false
set_option maxRecDepth 100000
set_option autoImplicit false
namespace NT
open PySem L2 DL LW
end NT
set_option Elab.async false
set_option linter.all false
set_option maxRecDepth 100000
set_option autoImplicit false
namespace NT
open PySem L2 DL LW
end NT
set_option Elab.async false
set_option linter.all false
set_option maxRecDepth 100000
set_option autoImplicit false
namespace NT
open PySem L2 DL LW
end NT
set_option Elab.async false
set_option linter.all false
set_option maxRecDepth 100000
set_option autoImplicit false
namespace NT
open PySem L2 DL LW
end NT
set_option Elab.async false
set_option linter.all false
set_option maxRecDepth 100000
set_option autoImplicit false
namespace NT
open PySem L2 DL LW
end NT
set_option Elab.async false
set_option linter.all false
set_option maxRecDepth 100000
set_option autoImplicit false
namespace NT
open PySem L2 DL LW
end NT
set_option Elab.async false
set_option linter.all false
set_option maxRecDepth 100000
set_option autoImplicit false
namespace NT
open PySem L2 DL LW
section
variable {α σ l ρ β : Type} {c : Sps} {m : Ct σ l ρ} {Q : Qs σ l ρ} {x : Str} {i : Nat} {fs : List (Str × Tr)}
def unQ (d : D) : N Dd := match d with
  | .tuple [.str w, .int h] => .ok ⟨w, h, none⟩
  | .tuple [.str w, .int h, .int x] => .ok ⟨w, h, some x⟩
  | _ => .stuck
theorem unQ_eq {d : D} {y : Dd} (h : unQ d = .ok y) : eDd y = d := by
  unfold unQ at h
  split at h <;> cases h <;> rfl
theorem unQ_ex {d : D} (z : Xc) : unQ d ≠ .ex z := by
  unfold unQ
  split <;> exact fun h => by cases h
theorem rs_unQ {x : D} {cc : D → Sps} {f : D → DEnv → Fl} {QQ : D → Qs σ l ρ} {M : Dd → Ct σ l ρ} (h1 : ∀ y, RS (cc (eDd y)) (f (eDd y)) (M y) (QQ (eDd y))) : RS (cc x) (f x) ((unQ x).ct M) (QQ x) := by
  cases q : unQ x with
  | stuck => exact fun _ _ => trivial
  | ex z => exact absurd q (unQ_ex z)
  | ok y =>
    have := unQ_eq q
    subst this
    exact h1 y
end
end NT
set_option Elab.async false
set_option linter.all false
set_option maxRecDepth 100000
set_option autoImplicit false
namespace NT
open PySem L2 DL LW
end NT
set_option Elab.async false
set_option linter.all false
set_option maxRecDepth 100000
set_option autoImplicit false
namespace NT
open PySem L2 DL LW
section
variable {α β σ l ρ : Type} {c : Sps} {m : Ct σ l ρ} {Q : Qs σ l ρ} {cn x : Str} {i np : Nat} {fs : List (Str × Tr)}
theorem idx_at {xs : List α} {j : Int} {x : α} (h : idx xs j = .ok x) : ∃ n, ixN xs.length j = some n ∧ xs[n]? = some x := by
  have h : atI xs j = some x := ofO_ok h
  unfold atI at h
  obtain ⟨n, h1, h2⟩ := Option.bind_eq_some_iff.1 h
  exact ⟨n, h1, h2⟩
end
end NT
namespace NT
open PySem L2 DL LW
end NT
set_option Elab.async false
set_option linter.all false
set_option maxRecDepth 100000
set_option autoImplicit false
namespace NT
open PySem L2 DL LW
end NT
set_option Elab.async false
set_option linter.all false
set_option maxRecDepth 100000
set_option autoImplicit false
namespace NT
open PySem L2 DL LW
end NT
set_option Elab.async false
set_option linter.all false
set_option maxRecDepth 100000
set_option autoImplicit false
namespace NT
open PySem L2 DL LW
end NT
set_option Elab.async false
set_option linter.all false
set_option maxRecDepth 100000
set_option autoImplicit false
namespace NT
open PySem L2 DL LW
end NT
set_option Elab.async false
set_option linter.all false
set_option maxRecDepth 100000
set_option autoImplicit false
namespace NT
open PySem L2 DL LW
section
variable {α β σ τ l ρ : Type} {c : Sps} {m : Ct σ l ρ} {Q : Qs σ l ρ}
def splitN (a b : Str) : N (List Str) := if (b.length == 0) = false ∧ a.length ≤ 100000 then .ok (Txt.split a b) else .stuck
theorem rk_split {da db : DE} {a b : Str} {k : List D → DEnv → Fl} {M : List Str → Ct σ l ρ} (ha : EP c da (eS a)) (hb : EP c db (eS b)) (g : ∀ ys : List Str, RS c (k (ys.map eS)) (M ys) Q) : RS c (FK (lSplit da db) k) ((splitN a b).ct M) Q := fun e he => by
  unfold FK lSplit splitN
  rw [ha e he, bind_ok]
  show R _ (((db e).bind fun y e2 => match y with
    | .str b => if (b.length == 0) = false ∧ a.length ≤ 100000 then .ok ((Txt.split a b).map PyData.str) e2 else .stuck
    | _ => .stuck).fl k) Q
  rw [hb e he, bind_ok]
  show R _ ((if (b.length == 0) = false ∧ a.length ≤ 100000 then Rs.ok ((Txt.split a b).map PyData.str) e else .stuck).fl k) Q
  by_cases h : (b.length == 0) = false ∧ a.length ≤ 100000
  · rw [if_pos h, if_pos h]; exact g _ e he
  · rw [if_neg h, if_neg h]; exact trivial
def strIN (i : Int) : N Str := if i.natAbs.log2 < 1920 then .ok (toString i) else .stuck
theorem rk_strI {i : Int} {k : D → DEnv → Fl} {M : Str → Ct σ l ρ} (g : ∀ z, RS c (k (eS z)) (M z) Q) : RS c (FK (put (fStrI [eI i])) k) ((strIN i).ct M) Q := fun e he => by
  unfold strIN
  have e1 : fStrI [eI i] = if i.natAbs.log2 < 1920 then some (.str (toString i)) else none := rfl
  rw [e1]
  by_cases h : i.natAbs.log2 < 1920
  · rw [if_pos h, if_pos h]; exact g _ e he
  · rw [if_neg h, if_neg h]; exact trivial
def intTN (a : Str) : N Int := ofO (if a.length ≤ 640 then PySem.intText? a else none)
theorem rk_intS {a : Str} {k : D → DEnv → Fl} {M : Int → Ct σ l ρ} (g : ∀ z, RS c (k (eI z)) (M z) Q) : RS c (FK (put (fIntS [eS a])) k) ((intTN a).ct M) Q := fun e he => by
  unfold intTN
  have e1 : fIntS [eS a] = if a.length ≤ 640 then (PySem.intText? a).map PyData.int else none := rfl
  rw [e1]
  by_cases h : a.length ≤ 640
  · rw [if_pos h, if_pos h]
    cases PySem.intText? a with
    | none => exact trivial
    | some n => exact g n e he
  · rw [if_neg h, if_neg h]; exact trivial
def revN (z : Str) : N Str := if z.length ≤ 100000 ∧ (revS z).length ≤ 100000 then .ok (revS z) else .stuck
def revK (k : D → DEnv → Fl) (d : D) : DEnv → Fl := fun e => ((match d with
  | .str z => if z.length ≤ 100000 ∧ (revS z).length ≤ 100000 then Rs.ok (PyData.str (revS z)) e else .stuck
  | _ => .stuck : Rs D)).fl k
theorem rk_revS0 {de : DE} {k : D → DEnv → Fl} (g : RS c (FK de (revK k)) m Q) : RS c (FK (eRevS de) k) m Q := rk_conv (fun e => by
  unfold FK eRevS
  rw [fl_bind]
  rfl) g
theorem rk_revS {z : Str} {k : D → DEnv → Fl} {M : Str → Ct σ l ρ} (g : ∀ y, RS c (k (eS y)) (M y) Q) : RS c (revK k (eS z)) ((revN z).ct M) Q := fun e he => by
  unfold revN
  show R _ ((if z.length ≤ 100000 ∧ (revS z).length ≤ 100000 then Rs.ok (PyData.str (revS z)) e else .stuck).fl k) Q
  by_cases h : z.length ≤ 100000 ∧ (revS z).length ≤ 100000
  · rw [if_pos h, if_pos h]; exact g _ e he
  · rw [if_neg h, if_neg h]; exact trivial
def unS (x : D) : N Str := match x with
  | .str z => .ok z
  | _ => .stuck
theorem rs_unS {x : D} {f : DEnv → Fl} {M : Str → Ct σ l ρ} (h : ∀ y, x = eS y → RS c f (M y) Q) : RS c f ((unS x).ct M) Q := by
  unfold unS
  split
  · rename_i z
    exact h z rfl
  · exact fun _ _ => trivial
def cutSN (z : Str) (lo hi : Option Int) : N Str := if z.length ≤ 100000 then .ok (cutS z lo hi) else .stuck
theorem rk_slS {z : Str} {lo hi : Option Int} {k : D → DEnv → Fl} {M : Str → Ct σ l ρ} (g : ∀ y, RS c (k (eS y)) (M y) Q) : RS c (FK (put (dSl (eS z) lo hi)) k) ((cutSN z lo hi).ct M) Q := fun e he => by
  unfold cutSN
  have e1 : dSl (eS z) lo hi = if z.length ≤ 100000 then some (.str (cutS z lo hi)) else none := rfl
  rw [e1]
  by_cases h : z.length ≤ 100000
  · rw [if_pos h, if_pos h]; exact g _ e he
  · rw [if_neg h, if_neg h]; exact trivial
end
end NT
set_option Elab.async false
set_option linter.all false
set_option maxRecDepth 100000
set_option autoImplicit false
namespace NT
open PySem L2 DL LW
section
variable {α β σ τ l ρ : Type} {c : Sps} {m : Ct σ l ρ} {Q : Qs σ l ρ}
noncomputable def repDo (ds : List D) (n : Int) : Option (List D) := if I63 n ∧ ds.length * n.toNat ≤ 100000 then some (repD ds n) else none
theorem rk_repX {dl : DA} {dk : DE} {n : Int} {k : List D → DEnv → Fl} (hk : ∀ e, dk e = .ok (eI n) e) (g : RS c (FK dl fun ds => FK (put (repDo ds n)) k) m Q) : RS c (FK (lRep dl dk) k) m Q := rk_conv (fun e => by
  unfold FK lRep
  cases dl e with
  | ok ds e2 =>
    show ((dk e2).bind fun k e2 => match k with
      | .int n => if I63 n ∧ ds.length * n.toNat ≤ 100000 then Rs.ok (repD ds n) e2 else .stuck
      | _ => .stuck).fl k = (put (repDo ds n) e2).fl k
    rw [hk, bind_ok]
    unfold repDo
    show (if I63 n ∧ ds.length * n.toNat ≤ 100000 then Rs.ok (repD ds n) e2 else .stuck).fl k = _
    by_cases h : I63 n ∧ ds.length * n.toNat ≤ 100000
    · rw [if_pos h, if_pos h]; rfl
    · rw [if_neg h, if_neg h]; rfl
  | ex _ _ => rfl
  | stuck => rfl) g
theorem rk_repV {f : α → D} {a : α} {n : Int} {k : List D → DEnv → Fl} {M : List α → Ct σ l ρ} (g : ∀ xs : List α, RS c (k (xs.map f)) (M xs) Q) : RS c (FK (put (repDo [f a] n)) k) ((repN a n).ct M) Q := fun e he => by
  unfold FK repDo repN
  simp only [List.length_singleton, Nat.one_mul]
  by_cases h : I63 n ∧ n.toNat ≤ 100000
  · rw [if_pos h, if_pos h, rep_1, ← List.map_replicate]; exact g _ e he
  · rw [if_neg h, if_neg h]; exact trivial
end
end NT
set_option Elab.async false
set_option linter.all false
set_option maxRecDepth 100000
set_option maxHeartbeats 4000000
namespace NW
open PySem L2 DL LW NT
noncomputable section
def n_is_whole (thing0 : D) : N Bool := Ct.fn (
 .rt ((isIntD thing0) && (!(isBoolD thing0))) : Ct Unit Unit Bool)
theorem rf_is_whole (thing0 : D) : RF (n_is_whole thing0) (f_is_whole [.v thing0]) (fun r => (eB r)) (fun r => [.no]) := rf_of (n := 1) (b := b_is_whole) (c0 := [.is (.v thing0)])
 (rs_last (rs_ret (rk_pure (d := (eB ((isIntD thing0) && (!(isBoolD thing0))))) (ep_and (ep_isi (ep_var (d := thing0) rfl) (isi_int thing0)) (ep_not (ep_isi (ep_var (d := thing0) rfl) (isi_bool thing0))))  (rk_ret (r := ((isIntD thing0) && (!(isBoolD thing0)))) fun _ he => ⟨rfl, outs_of rfl rfl he⟩))))
def n__law_take (bag0 : (List Int)) (many0 : Int) : N (Int × (List Int)) := Ct.fn (
 (idx bag0 (0 : Int)).ct fun a0 =>
 (if (decide ((0 : Int) < a0)) = true then
 (idx bag0 (0 : Int)).ct fun a1 =>
 (modN a1 many0).ct fun n0 =>
 (idx bag0 (0 : Int)).ct fun a2 =>
 (divN a2 many0).ct fun n1 =>
 (setN bag0 (0 : Int) n1).ct fun bag1 =>
 .rt (n0, bag1) else
 (idx bag0 (1 : Int)).ct fun a3 =>
 (mulN a3 (48271 : Int)).ct fun n2 =>
 (modN n2 (2147483647 : Int)).ct fun n3 =>
 (setN bag0 (1 : Int) n3).ct fun bag2 =>
 (idx bag2 (1 : Int)).ct fun a4 =>
 (idx bag2 (1 : Int)).ct fun a5 =>
 (mulN a4 a5).ct fun n4 =>
 (modN n4 (2147483629 : Int)).ct fun n5 =>
 (divN n5 (64 : Int)).ct fun n6 =>
 (modN n6 many0).ct fun n7 =>
 .rt (n7, bag2)) : Ct Unit Unit (Int × (List Int)))
theorem rf__law_take (bag0 : (List Int)) (many0 : Int) : RF (n__law_take bag0 many0) (f__law_take [.p (List.map eI bag0), .v (eI many0)]) (fun r => (eI r.1)) (fun r => [.p (List.map eI r.2), .no]) := rf_of (n := 3) (b := b__law_take) (c0 := [.is (.p (List.map eI bag0)), .is (.v (eI many0)), .nw])
 (rs_if (rk_tst (rk_bin (rk_ixN (rk_pure (d := (eI (0 : Int))) ep_C  (rk_ixAt (d := ((eLs eI) bag0)) (rk_ixL (f := eI) (xs := bag0) fun a0 => (rk_pure (d := (eI (0 : Int))) ep_C  (rk_put rfl (rk_put rfl (rk_ifF (rs_assoc (rs_asg (rk_bin (rk_ixN (rk_pure (d := (eI (0 : Int))) ep_C  (rk_ixAt (d := ((eLs eI) bag0)) (rk_ixL (f := eI) (xs := bag0) fun a1 => (rk_pure (d := (eI many0)) (ep_var (d := (eI many0)) rfl)  (rk_mod fun n0 => (rk_asgN (rs_assoc (rs_setO (rk_bin (rk_ixN (rk_pure (d := (eI (0 : Int))) ep_C  (rk_ixAt (d := ((eLs eI) bag0)) (rk_ixL (f := eI) (xs := bag0) fun a2 => (rk_pure (d := (eI many0)) (ep_var (d := (eI many0)) rfl)  (rk_div fun n1 => (rk_kn (rk_pure (d := (eI (0 : Int))) ep_C  (rk_set (fe := eI) (a := n1) (xs := bag0) fun bag1 => (rs_nf (c' := [.is (.p (List.map eI bag1)), .is (.v (eI many0)), .is (.v (eI n0))]) (rs_ret (rk_pure (d := (eI n0)) (ep_var (d := (eI n0)) rfl)  (rk_ret (r := (n0, bag1)) fun _ he => ⟨rfl, outs_of rfl rfl he⟩)))))))))) rfl)))))))))) rfl)))))) (rs_nxs (rs_setO (rk_bin (rk_bin (rk_ixN (rk_pure (d := (eI (1 : Int))) ep_C  (rk_ixAt (d := ((eLs eI) bag0)) (rk_ixL (f := eI) (xs := bag0) fun a3 => (rk_pure (d := (eI (48271 : Int))) ep_C  (rk_mul fun n2 => (rk_pure (d := (eI (2147483647 : Int))) ep_C  (rk_mod fun n3 => (rk_kn (rk_pure (d := (eI (1 : Int))) ep_C  (rk_set (fe := eI) (a := n3) (xs := bag0) fun bag2 => (rs_nf (c' := [.is (.p (List.map eI bag2)), .is (.v (eI many0)), .nw]) (rs_last (rs_ret (rk_bin (rk_bin (rk_bin (rk_bin (rk_ixN (rk_pure (d := (eI (1 : Int))) ep_C  (rk_ixAt (d := ((eLs eI) bag2)) (rk_ixL (f := eI) (xs := bag2) fun a4 => (rk_ixN (rk_pure (d := (eI (1 : Int))) ep_C  (rk_ixAt (d := ((eLs eI) bag2)) (rk_ixL (f := eI) (xs := bag2) fun a5 => (rk_mul fun n4 => (rk_pure (d := (eI (2147483629 : Int))) ep_C  (rk_mod fun n5 => (rk_pure (d := (eI (64 : Int))) ep_C  (rk_div fun n6 => (rk_pure (d := (eI many0)) (ep_var (d := (eI many0)) rfl)  (rk_mod fun n7 => (rk_ret (r := (n7, bag2)) fun _ he => ⟨rfl, outs_of rfl rfl he⟩))))))))) rfl)))) rfl)))))))))))))))))) rfl)))))))))))) rfl))))))
def n__law_bag (script0 : (List Int)) (k0 : Int) : N (List Int) := Ct.fn (
 (Ct.sq ((if (decide (k0 < (script0.length : Int))) = true then
 (idx script0 k0).ct fun a0 =>
 (powN (10 : Int) (60 : Int)).ct fun n0 =>
 (powN (10 : Int) (60 : Int)).ct fun n1 =>
 (mulN n0 n1).ct fun n2 =>
 (modN a0 n2).ct fun n3 =>
 .nx n3 else
 .nx (0 : Int)) : Ct Int _ _) fun cell0 =>
 (powN (10 : Int) (18 : Int)).ct fun n4 =>
 (if (decide (cell0 < n4)) = true then
 (mulN cell0 (7919 : Int)).ct fun n5 =>
 (mulN (104729 : Int) k0).ct fun n6 =>
 (modN (n5 + n6) (2147483646 : Int)).ct fun n7 =>
 .rt [(0 : Int), ((1 : Int) + n7)] else
 (modN (cell0 + k0) (2147483646 : Int)).ct fun n8 =>
 .rt [cell0, ((1 : Int) + n8)])) : Ct Unit Unit (List Int))
theorem rf__law_bag (script0 : (List Int)) (k0 : Int) : RFl (n__law_bag script0 k0) (f__law_bag [.v ((eLs eI) script0), .v (eI k0)]) (fun r => List.map eI r) (fun r => [.no, .no]) := rfl_of (n := 3) (b := b__law_bag) (c0 := [.is (.v ((eLs eI) script0)), .is (.v (eI k0)), .nw])
 (rs_asg (rk_pure (d := (eI (0 : Int))) ep_C  (rk_asgN (rs_seq (c1 := fun cell0 => [.is (.v ((eLs eI) script0)), .is (.v (eI k0)), .is (.v (eI cell0))]) (rs_if0 (rk_pure (d := (decide (k0 < (script0.length : Int)))) (ep_tst (ep_bin (ep_var (d := (eI k0)) rfl) (ep_cb (ep_acons (ep_var (d := ((eLs eI) script0)) rfl) ep_anil) (len_L (f := eI) script0)) rfl)) (rk_ifF (rs_last (rs_asg (rk_bin (rk_ixN (rk_pure (d := (eI k0)) (ep_var (d := (eI k0)) rfl)  (rk_ixAt (d := ((eLs eI) script0)) (rk_ixL (f := eI) (xs := script0) fun a0 => (rk_bin (rk_bin (rk_pure (d := (eI (10 : Int))) ep_C  (rk_pure (d := (eI (60 : Int))) ep_C  (rk_pow fun n0 => (rk_bin (rk_pure (d := (eI (10 : Int))) ep_C  (rk_pure (d := (eI (60 : Int))) ep_C  (rk_pow fun n1 => (rk_mul fun n2 => (rk_mod fun n3 => (rk_asgN (rs_nx fun _ he => he.sub (sub_cons wk_is (sub_cons wk_is (sub_cons wk_is sub_nil))))))))))))))))) rfl)))))) (rs_nx fun _ he => he.sub (sub_cons wk_is (sub_cons wk_is (sub_cons wk_is sub_nil))))))) (fun cell0 => (rs_if (rk_tst (rk_bin (rk_pure (d := (eI cell0)) (ep_var (d := (eI cell0)) rfl)  (rk_bin (rk_pure (d := (eI (10 : Int))) ep_C  (rk_pure (d := (eI (18 : Int))) ep_C  (rk_pow fun n4 => (rk_put rfl (rk_put rfl (rk_ifF (rs_retL (rk_lst (rk_acons (rk_pure (d := (eI (0 : Int))) ep_C  (rk_acons (rk_bin (rk_pure (d := (eI (1 : Int))) ep_C  (rk_bin (rk_bin (rk_bin (rk_pure (d := (eI cell0)) (ep_var (d := (eI cell0)) rfl)  (rk_pure (d := (eI (7919 : Int))) ep_C  (rk_mul fun n5 => (rk_bin (rk_pure (d := (eI (104729 : Int))) ep_C  (rk_pure (d := (eI k0)) (ep_var (d := (eI k0)) rfl)  (rk_mul fun n6 => (rk_put rfl (rk_pure (d := (eI (2147483646 : Int))) ep_C  (rk_mod fun n7 => (rk_put rfl (rk_anil (rk_put (if_pos (Nat.le_of_ble_eq_true rfl)) (rk_retL (r := [(0 : Int), ((1 : Int) + n7)]) fun _ he => ⟨rfl, outs_of rfl rfl he⟩)))))))))))))))))))))))) (rs_nxs (rs_last (rs_retL (rk_lst (rk_acons (rk_pure (d := (eI cell0)) (ep_var (d := (eI cell0)) rfl)  (rk_acons (rk_bin (rk_pure (d := (eI (1 : Int))) ep_C  (rk_bin (rk_pure (d := (eI (cell0 + k0))) (ep_bin (ep_var (d := (eI cell0)) rfl) (ep_var (d := (eI k0)) rfl) rfl)  (rk_pure (d := (eI (2147483646 : Int))) ep_C  (rk_mod fun n8 => (rk_put rfl (rk_anil (rk_put (if_pos (Nat.le_of_ble_eq_true rfl)) (rk_retL (r := [cell0, ((1 : Int) + n8)]) fun _ he => ⟨rfl, outs_of rfl rfl he⟩)))))))))))))))))))))))))))))))))
def n__law_words  : N (List Str) := Ct.fn (
 (catG [("split" : Str), ("merge" : Str), ("cut" : Str), ("join" : Str), ("turn" : Str), ("unturn" : Str), ("fold" : Str), ("puff" : Str), ("draw" : Str), ("part" : Str), ("grow" : Str), ("cap" : Str), ("open" : Str)] [("sew" : Str), ("rip" : Str)]).ct fun _ =>
 .rt ([("split" : Str), ("merge" : Str), ("cut" : Str), ("join" : Str), ("turn" : Str), ("unturn" : Str), ("fold" : Str), ("puff" : Str), ("draw" : Str), ("part" : Str), ("grow" : Str), ("cap" : Str), ("open" : Str)] ++ [("sew" : Str), ("rip" : Str)]) : Ct Unit Unit (List Str))
theorem rf__law_words  : RF (n__law_words ) (f__law_words []) (fun r => ((eLs eS) r)) (fun r => []) := rf_of (n := 1) (b := b__law_words) (c0 := [.nw])
 (rs_asg (rk_pure (d := ((eLs eS) [("split" : Str), ("merge" : Str), ("cut" : Str), ("join" : Str), ("turn" : Str), ("unturn" : Str), ("fold" : Str), ("puff" : Str), ("draw" : Str), ("part" : Str), ("grow" : Str), ("cap" : Str), ("open" : Str)])) (ep_elst (ep_lst (ep_acons ep_C (ep_acons ep_C (ep_acons ep_C (ep_acons ep_C (ep_acons ep_C (ep_acons ep_C (ep_acons ep_C (ep_acons ep_C (ep_acons ep_C (ep_acons ep_C (ep_acons ep_C (ep_acons ep_C (ep_acons ep_C ep_anil)))))))))))))))  (rk_asgN (rs_last (rs_ret (rk_elst (rk_binL (rk_pure (d := ((eLs eS) [("split" : Str), ("merge" : Str), ("cut" : Str), ("join" : Str), ("turn" : Str), ("unturn" : Str), ("fold" : Str), ("puff" : Str), ("draw" : Str), ("part" : Str), ("grow" : Str), ("cap" : Str), ("open" : Str)])) (ep_var (d := ((eLs eS) [("split" : Str), ("merge" : Str), ("cut" : Str), ("join" : Str), ("turn" : Str), ("unturn" : Str), ("fold" : Str), ("puff" : Str), ("draw" : Str), ("part" : Str), ("grow" : Str), ("cap" : Str), ("open" : Str)])) rfl)  (rk_pure (d := ((eLs eS) [("sew" : Str), ("rip" : Str)])) (ep_elst (ep_lst (ep_acons ep_C (ep_acons ep_C ep_anil))))  (rk_catL (f := eS) (xs := [("split" : Str), ("merge" : Str), ("cut" : Str), ("join" : Str), ("turn" : Str), ("unturn" : Str), ("fold" : Str), ("puff" : Str), ("draw" : Str), ("part" : Str), ("grow" : Str), ("cap" : Str), ("open" : Str)]) (ys := [("sew" : Str), ("rip" : Str)]) (rk_ret (r := ([("split" : Str), ("merge" : Str), ("cut" : Str), ("join" : Str), ("turn" : Str), ("unturn" : Str), ("fold" : Str), ("puff" : Str), ("draw" : Str), ("part" : Str), ("grow" : Str), ("cap" : Str), ("open" : Str)] ++ [("sew" : Str), ("rip" : Str)])) fun _ he => ⟨rfl, outs_of rfl rfl he⟩)))))))))))
end
end NW
set_option Elab.async false
set_option linter.all false
set_option maxRecDepth 100000
set_option maxHeartbeats 4000000
namespace K44
open PySem L2 DL LW NT NW
noncomputable section
def n_is_deed (thing0 : D) : N Bool := Ct.fn (
 (Ct.fn ((if (!(isTupD thing0)) = true then
 .rt true else
 (intN (fLen [thing0])).ct fun n0 =>
 (if (decide (n0 < (2 : Int))) = true then
 .rt true else
 (ofO (dIx thing0 (eI (0 : Int)))).ct fun z0 =>
 .rt (!(isStrD z0)))) : Ct Unit Unit Bool)).ct fun b0 =>
 (if b0 = true then
 .rt false else
 (ofO (dSl thing0 (some (1 : Int)) none)).ct fun z1 =>
 (ofO (seqS z1)).ct fun xs0 =>
 (lcP (fun number0 => ((n_is_whole number0).ct fun r0 =>
 .rt r0 : Ct Unit Unit Bool)) xs0).ct fun ys0 =>
 (if (!(ys0.all id)) = true then
 .rt false else
 (Ct.fn ((Ct.fn ((ofO (dIx thing0 (eI (0 : Int)))).ct fun z2 =>
 (boolN (dInS z2 ((eTs eS) LW.c_ONES))).ct fun b1 =>
 (if b1 = true then
 (intN (fLen [thing0])).ct fun n1 =>
 .rt (decide (n1 = (2 : Int))) else
 .rt false) : Ct Unit Unit Bool)).ct fun b2 =>
 (if b2 = true then
 .rt true else
 (Ct.fn ((ofO (dIx thing0 (eI (0 : Int)))).ct fun z3 =>
 (boolN (dInS z3 ((eTs eS) LW.c_TWOS))).ct fun b3 =>
 (if b3 = true then
 (intN (fLen [thing0])).ct fun n2 =>
 .rt (decide (n2 = (3 : Int))) else
 .rt false) : Ct Unit Unit Bool)).ct fun b4 =>
 .rt b4) : Ct Unit Unit Bool)).ct fun b5 =>
 .rt b5)) : Ct Unit Unit Bool)
theorem rf_is_deed (thing0 : D) : RF (n_is_deed thing0) (f_is_deed [.v thing0]) (fun r => (eB r)) (fun r => [.no]) := rf_of (n := 2) (b := b_is_deed) (c0 := [.is (.v thing0), .nw])
 (rs_if (rk_unitT (v := fun b0 => b0) (c' := fun b0 => [.is (.v thing0), .nw]) (rk_orT (rk_pure (d := (!(isTupD thing0))) (ep_notT (ep_tst (ep_isi (ep_var (d := thing0) rfl) (isi_tup thing0)))) (rk_ifF (rk_retT fun _ he => ⟨rfl, he.sub (sub_cons wk_is (sub_cons wk_nw sub_nil))⟩) (rk_orT (rk_tst (rk_bin (rk_cb (rk_acons (rk_pure (d := thing0) (ep_var (d := thing0) rfl)  (rk_anil (rk_intN fun n0 => (rk_pure (d := (eI (2 : Int))) ep_C  (rk_put rfl (rk_put rfl (rk_ifF (rk_retT fun _ he => ⟨rfl, he.sub (sub_cons wk_is (sub_cons wk_nw sub_nil))⟩) (rk_notT (rk_tst (rk_isi (rk_ixN (rk_pure (d := (eI (0 : Int))) ep_C  (rk_ixAt (d := thing0) (rk_anyD fun z0 => (rk_put (isi_str z0) (rk_put rfl (rk_retT fun _ he => ⟨rfl, he.sub (sub_cons wk_is (sub_cons wk_nw sub_nil))⟩)))) rfl))))))))))))))))))))) (fun b0 => (rk_ifF (rs_ret (rk_pure (d := (eB false)) ep_C  (rk_ret (r := false) fun _ he => ⟨rfl, outs_of rfl rfl he⟩))) (rs_nxs (rs_if (rk_notT (rk_tst (rk_cb (rk_acons (rk_elst (rk_lc (rk_seqS (rk_sl (rk_pure (d := thing0) (ep_var (d := thing0) rfl)  (rk_ptS (rk_pure (d := (eI (1 : Int))) ep_C  (rk_put rfl (rk_ptN (rk_anyD fun z1 => (rk_seqD (d := z1) fun xs0 => (rk_lcP (fe := eD) (fb := eB) (ca := fun number0 => [.is (.v thing0), .is (.v number0)]) (fun _ => gs_N) (fun number0 => (rk_ck1 (rk_callN (rk_rcons (rk_pure (d := number0) (ep_var (d := number0) rfl)  (rk_rnil (rk_call (rf_is_whole number0) (fun r0 => (rk_retC (fb := eB) (sub_cons wk_is (sub_cons wk_is sub_nil)))) (fun _ _ _ _ => trivial)))))))) (fun ys0 => (rk_anil (rk_put (all_B ys0) (rk_put rfl (rk_ifF (rs_ret (rk_pure (d := (eB false)) ep_C  (rk_ret (r := false) fun _ he => ⟨rfl, outs_of rfl rfl he⟩))) (rs_nxs (rs_last (rs_ret (rk_unit (v := fun b5 => eB b5) (c' := fun b5 => [.is (.v thing0), .nw]) (rk_or (rk_unit (v := fun b2 => eB b2) (c' := fun b2 => [.is (.v thing0), .nw]) (rk_and (rk_bin (rk_ixN (rk_pure (d := (eI (0 : Int))) ep_C  (rk_ixAt (d := thing0) (rk_anyD fun z2 => (rk_pure (d := ((eTs eS) LW.c_ONES)) ep_C  (rk_boolN fun b1 => (rk_put rfl (rk_ifF (rk_bin (rk_cb (rk_acons (rk_pure (d := thing0) (ep_var (d := thing0) rfl)  (rk_anil (rk_intN fun n1 => (rk_pure (d := (eI (2 : Int))) ep_C  (rk_put (eq_typed (f := eI) n1 (2 : Int)) (rk_ret fun _ he => ⟨rfl, he.sub (sub_cons wk_is (sub_cons wk_nw sub_nil))⟩))))))))) (rk_ret fun _ he => ⟨rfl, he.sub (sub_cons wk_is (sub_cons wk_nw sub_nil))⟩)))))) rfl))))) (fun b2 => (rk_put rfl (rk_ifF (rk_ret fun _ he => ⟨rfl, he.sub (sub_cons wk_is (sub_cons wk_nw sub_nil))⟩) (rk_unit (v := fun b4 => eB b4) (c' := fun b4 => [.is (.v thing0), .nw]) (rk_and (rk_bin (rk_ixN (rk_pure (d := (eI (0 : Int))) ep_C  (rk_ixAt (d := thing0) (rk_anyD fun z3 => (rk_pure (d := ((eTs eS) LW.c_TWOS)) ep_C  (rk_boolN fun b3 => (rk_put rfl (rk_ifF (rk_bin (rk_cb (rk_acons (rk_pure (d := thing0) (ep_var (d := thing0) rfl)  (rk_anil (rk_intN fun n2 => (rk_pure (d := (eI (3 : Int))) ep_C  (rk_put (eq_typed (f := eI) n2 (3 : Int)) (rk_ret fun _ he => ⟨rfl, he.sub (sub_cons wk_is (sub_cons wk_nw sub_nil))⟩))))))))) (rk_ret fun _ he => ⟨rfl, he.sub (sub_cons wk_is (sub_cons wk_nw sub_nil))⟩)))))) rfl))))) (fun b4 => (rk_ret fun _ he => ⟨rfl, he.sub (sub_cons wk_is (sub_cons wk_nw sub_nil))⟩)))))))) (fun b5 => (rk_ret (r := b5) fun _ he => ⟨rfl, outs_of rfl rfl he⟩)))))))))))))))))))))))))))))))))
def n_number_of (word0 : Str) : N (Option Int) := Ct.fn (
 (Ct.fn ((lenS word0).ct fun n0 =>
 (if (decide (n0 < (1 : Int))) = true then
 .rt true else
 (lenS word0).ct fun n1 =>
 (if (decide ((9 : Int) < n1)) = true then
 .rt true else
 (Ct.fn ((idxS word0 (0 : Int)).ct fun z0 =>
 (eqN (eS z0) (eS ("0" : Str))).ct fun b0 =>
 (if b0 = true then
 (eqN (eS word0) (eS ("0" : Str))).ct fun b1 =>
 .rt (!b1) else
 .rt false) : Ct Unit Unit Bool)).ct fun b2 =>
 .rt b2)) : Ct Unit Unit Bool)).ct fun b3 =>
 (if b3 = true then
 .rt none else
 (lcP (fun sign0 => ((inSN sign0 ("0123456789" : Str)).ct fun b4 =>
 .rt b4 : Ct Unit Unit Bool)) (sgn word0)).ct fun ys0 =>
 (if (!(ys0.all id)) = true then
 .rt none else
 (intTN word0).ct fun z1 =>
 .rt (some z1))) : Ct Unit Unit (Option Int))
theorem rf_number_of (word0 : Str) : RF (n_number_of word0) (f_number_of [.v (eS word0)]) (fun r => ((eO eI) r)) (fun r => [.no]) := rf_of (n := 2) (b := b_number_of) (c0 := [.is (.v (eS word0)), .nw])
 (rs_if (rk_unitT (v := fun b3 => b3) (c' := fun b3 => [.is (.v (eS word0)), .nw]) (rk_orT (rk_tst (rk_bin (rk_cb (rk_acons (rk_pure (d := (eS word0)) (ep_var (d := (eS word0)) rfl)  (rk_anil (rk_lenS (z := word0) fun n0 => (rk_pure (d := (eI (1 : Int))) ep_C  (rk_put rfl (rk_put rfl (rk_ifF (rk_retT fun _ he => ⟨rfl, he.sub (sub_cons wk_is (sub_cons wk_nw sub_nil))⟩) (rk_orT (rk_tst (rk_bin (rk_cb (rk_acons (rk_pure (d := (eS word0)) (ep_var (d := (eS word0)) rfl)  (rk_anil (rk_lenS (z := word0) fun n1 => (rk_pure (d := (eI (9 : Int))) ep_C  (rk_put rfl (rk_put rfl (rk_ifF (rk_retT fun _ he => ⟨rfl, he.sub (sub_cons wk_is (sub_cons wk_nw sub_nil))⟩) (rk_unitT (v := fun b2 => b2) (c' := fun b2 => [.is (.v (eS word0)), .nw]) (rk_andT (rk_tst (rk_bin (rk_ixN (rk_pure (d := (eI (0 : Int))) ep_C  (rk_ixAt (d := (eS word0)) (rk_idxS (z := word0) (i := (0 : Int)) fun z0 => (rk_pure (d := (eS ("0" : Str))) ep_C  (rk_eqD (x := (eS z0)) (y := (eS ("0" : Str))) fun b0 => (rk_put rfl (rk_ifF (rk_tst (rk_bin (rk_pure (d := (eS word0)) (ep_var (d := (eS word0)) rfl)  (rk_pure (d := (eS ("0" : Str))) ep_C  (rk_neD (x := (eS word0)) (y := (eS ("0" : Str))) fun b1 => (rk_put rfl (rk_retT fun _ he => ⟨rfl, he.sub (sub_cons wk_is (sub_cons wk_nw sub_nil))⟩))))))) (rk_retT fun _ he => ⟨rfl, he.sub (sub_cons wk_is (sub_cons wk_nw sub_nil))⟩)))))) rfl)))))) (fun b2 => (rk_retT fun _ he => ⟨rfl, he.sub (sub_cons wk_is (sub_cons wk_nw sub_nil))⟩))))))))))))))))))))))))))) (fun b3 => (rk_ifF (rs_ret (rk_pure (d := ((eO eI) none)) ep_C  (rk_ret (r := none) fun _ he => ⟨rfl, outs_of rfl rfl he⟩))) (rs_nxs (rs_if (rk_notT (rk_tst (rk_cb (rk_acons (rk_elst (rk_lc (rk_seqS (rk_pure (d := (eS word0)) (ep_var (d := (eS word0)) rfl)  (rk_put rfl (rk_lcP (fe := eS) (fb := eB) (ca := fun sign0 => [.is (.v (eS word0)), .is (.v (eS sign0))]) (fun _ => gs_N) (fun sign0 => (rk_ck1 (rk_bin (rk_pure (d := (eS sign0)) (ep_var (d := (eS sign0)) rfl)  (rk_pure (d := (eS ("0123456789" : Str))) ep_C  (rk_inSS (x := sign0) (z := ("0123456789" : Str)) fun b4 => (rk_retC (fb := eB) (sub_cons wk_is (sub_cons wk_is sub_nil))))))))) (fun ys0 => (rk_anil (rk_put (all_B ys0) (rk_put rfl (rk_ifF (rs_ret (rk_pure (d := ((eO eI) none)) ep_C  (rk_ret (r := none) fun _ he => ⟨rfl, outs_of rfl rfl he⟩))) (rs_nxs (rs_last (rs_ret (rk_cb (rk_acons (rk_pure (d := (eS word0)) (ep_var (d := (eS word0)) rfl)  (rk_anil (rk_intS fun z1 => (rk_ret (r := (some z1)) fun _ he => ⟨rfl, outs_of rfl rfl he⟩))))))))))))))))))))))))))))))
def n_numbers_text (numbers0 : (List Int)) : N Str := Ct.fn (
 (lcP (fun number0 => ((strIN number0).ct fun z0 =>
 .rt z0 : Ct Unit Unit Str)) numbers0).ct fun ys0 =>
 (joinN (" " : Str) ys0).ct fun z1 =>
 .rt z1 : Ct Unit Unit Str)
theorem rf_numbers_text (numbers0 : (List Int)) : RF (n_numbers_text numbers0) (f_numbers_text [.v ((eTs eI) numbers0)]) (fun r => (eS r)) (fun r => [.no]) := rf_of (n := 2) (b := b_numbers_text) (c0 := [.is (.v ((eTs eI) numbers0)), .nw])
 (rs_last (rs_ret (rk_join (rk_pure (d := (eS (" " : Str))) ep_C  (rk_put rfl (rk_elst (rk_lc (rk_seqS (rk_pure (d := ((eTs eI) numbers0)) (ep_var (d := ((eTs eI) numbers0)) rfl)  (rk_put rfl (rk_lcP (fe := eI) (fb := eS) (ca := fun number0 => [.is (.v ((eTs eI) numbers0)), .is (.v (eI number0))]) (fun _ => gs_N) (fun number0 => (rk_ck1 (rk_cb (rk_acons (rk_pure (d := (eI number0)) (ep_var (d := (eI number0)) rfl)  (rk_anil (rk_strI fun z0 => (rk_retC (fb := eS) (sub_cons wk_is (sub_cons wk_is sub_nil)))))))))) (fun ys0 => (rk_joinK (s := (" " : Str)) (xs := ys0) fun z1 => (rk_ret (r := z1) fun _ he => ⟨rfl, outs_of rfl rfl he⟩))))))))))))))
def n_deed_text (deed0 : Dd) : N Str := Ct.fn (
 (catS deed0.w (" " : Str)).ct fun s0 =>
 (n_numbers_text deed0.ns).ct fun r0 =>
 (catS s0 r0).ct fun s1 =>
 .rt s1 : Ct Unit Unit Str)
theorem rf_deed_text (deed0 : Dd) : RF (n_deed_text deed0) (f_deed_text [.v (eDd deed0)]) (fun r => (eS r)) (fun r => [.no]) := rf_of (n := 1) (b := b_deed_text) (c0 := [.is (.v (eDd deed0))])
 (rs_last (rs_ret (rk_bin (rk_bin (rk_pure (d := (eS deed0.w)) (ep_ixN (d := (eDd deed0)) ep_C (dd_0 deed0) rfl)  (rk_pure (d := (eS (" " : Str))) ep_C  (rk_catS fun s0 => (rk_callN (rk_rcons (rk_pure (d := ((eTs eI) deed0.ns)) (ep_sl (ep_var (d := (eDd deed0)) rfl) (ep_ptS ep_C) ep_ptN (dd_s deed0))  (rk_rnil (rk_call (rf_numbers_text deed0.ns) (fun r0 => (rk_catS fun s1 => (rk_ret (r := s1) fun _ he => ⟨rfl, outs_of rfl rfl he⟩))) (fun _ _ _ _ => trivial)))))))))))))
def n_read_deed (text0 : D) : N D := Ct.fn (
 (if (!(isStrD text0)) = true then
 .ex ⟨"NoText", none⟩ else
 (unS text0).ct fun y0 =>
 (splitN y0 (" " : Str)).ct fun ys0 =>
 (idx ys0 (0 : Int)).ct fun a0 =>
 (lcP (fun word0 => ((n_number_of word0).ct fun r0 =>
 .rt r0 : Ct Unit Unit (Option Int))) (cutL ys0 (some (1 : Int)) none)).ct fun ys1 =>
 (ofO (dAdd ((eTs eS) [a0]) ((eTs (eO eI)) ys1))).ct fun z0 =>
 (n_is_deed z0).ct fun r1 =>
 (if (!r1) = true then
 .ex ⟨"NoText", none⟩ else
 .rt z0)) : Ct Unit Unit D)
theorem rf_read_deed (text0 : D) : RF (n_read_deed text0) (f_read_deed [.v text0]) (fun r => r) (fun r => [.no]) := rf_of (n := 4) (b := b_read_deed) (c0 := [.is (.v text0), .nw, .nw, .nw])
 (rs_if (rk_pure (d := (!(isStrD text0))) (ep_notT (ep_tst (ep_isi (ep_var (d := text0) rfl) (isi_str text0)))) (rk_ifF (rs_raise fun _ _ => trivial) (rs_nxs (rs_asg (rk_elst (rs_unS (x := text0) fun y0 hy => (by rw [hy]; exact (rk_split (ep_var (d := (eS y0)) rfl) ep_C fun ys0 => (rk_asgN (rs_asg (rk_bin (rk_tup (rk_acons (rk_ixN (rk_pure (d := (eI (0 : Int))) ep_C  (rk_ixAt (d := ((eLs eS) ys0)) (rk_ixL (f := eS) (xs := ys0) fun a0 => (rk_anil (rk_put (if_pos (Nat.le_of_ble_eq_true rfl)) (rk_cb (rk_acons (rk_elst (rk_lc (rk_seqS (rk_pure (d := ((eLs eS) (cutL ys0 (some (1 : Int)) none))) (ep_sl (ep_var (d := ((eLs eS) ys0)) rfl) (ep_ptS ep_C) ep_ptN (sl_L (f := eS) ys0 (some (1 : Int)) none))  (rk_put rfl (rk_lcP (fe := eS) (fb := (eO eI)) (ca := fun word0 => [.is (.v (eS y0)), .is (.v ((eLs eS) ys0)), .nw, .is (.v (eS word0))]) (fun _ => gs_N) (fun word0 => (rk_ck1 (rk_callN (rk_rcons (rk_pure (d := (eS word0)) (ep_var (d := (eS word0)) rfl)  (rk_rnil (rk_call (rf_number_of word0) (fun r0 => (rk_retC (fb := (eO eI)) (sub_cons wk_is (sub_cons wk_is (sub_cons wk_nw (sub_cons wk_is sub_nil)))))) (fun _ _ _ _ => trivial)))))))) (fun ys1 => (rk_anil (rk_put rfl (rk_anyD fun z0 => (rk_asgN (rs_if (rk_notT (rk_tru (rk_callN (rk_rcons (rk_pure (d := z0) (ep_var (d := z0) rfl)  (rk_rnil (rk_call (rf_is_deed z0) (fun r1 => (rk_put rfl (rk_ifF (rs_raise fun _ _ => trivial) (rs_nxs (rs_last (rs_ret (rk_pure (d := z0) (ep_var (d := z0) rfl)  (rk_ret (r := z0) fun _ he => ⟨rfl, outs_of rfl rfl he⟩)))))))) (fun _ _ _ _ => trivial))))))))))))))))))))))))) rfl)))))))))))))))))
def n__law_told_text (text0 : D) : N D := Ct.fn (
 (Ct.sq (tryC ((n_read_deed text0).ct fun r0 =>
 .nx ((some r0), ("" : Str)) : Ct ((Option D) × Str) _ _) fun x => (kindT x [("SkinError", none)]).ct fun s0 => .nx (none, s0)) (P2 fun found0 kind0 =>
 (Ct.fn ((eqN (eS kind0) (eS ("" : Str))).ct fun b0 =>
 (if b0 = true then
 .rt ((eO eD) found0) else
 .rt (eS kind0)) : Ct Unit Unit D)).ct fun b1 =>
 .rt b1)) : Ct Unit Unit D)
theorem rf__law_told_text (text0 : D) : RF (n__law_told_text text0) (f__law_told_text [.v text0]) (fun r => r) (fun r => [.no]) := rf_of (n := 4) (b := b__law_told_text) (c0 := [.is (.v text0), .nw, .nw, .nw])
 (rs_asg (rk_pure (d := (eU ())) ep_C  (rk_asgN (rs_asg (rk_pure (d := (eS ("" : Str))) ep_C  (rk_asgN (rs_try (hl := [("SkinError", none)]) (c1 := (P2 fun found0 kind0 => [.is (.v text0), .is (.v ((eO eD) found0)), .is (.v (eS kind0)), .nw])) (cx := [.is (.v text0), .is (.v (eU ())), .is (.v (eS ("" : Str))), .nw]) (V := fun s0 => (none, s0)) (rs_last (rs_asg (rk_callN (rk_rcons (rk_pure (d := text0) (ep_var (d := text0) rfl)  (rk_rnil (rk_call (rf_read_deed text0) (fun r0 => (rk_asgN (rs_nx fun _ he => he.sub (sub_cons wk_is (sub_cons wk_is (sub_cons wk_is (sub_cons wk_nw sub_nil))))))) (fun _ _ h h2 => by rw [h2 rfl]; exact h.sub (sub_cons wk_is (sub_cons wk_is (sub_cons wk_is (sub_cons wk_nw sub_nil)))))))))))) (fun s0 => (sub_cons wk_is (sub_cons wk_is (sub_cons wk_is (sub_cons wk_nw sub_nil))))) (fun ⟨found0, kind0⟩ => (rs_last (rs_ret (rk_unit (v := fun b1 => b1) (c' := fun b1 => [.is (.v text0), .is (.v ((eO eD) found0)), .is (.v (eS kind0)), .nw]) (rk_if (rk_tst (rk_bin (rk_pure (d := (eS kind0)) (ep_var (d := (eS kind0)) rfl)  (rk_pure (d := (eS ("" : Str))) ep_C  (rk_eqD (x := (eS kind0)) (y := (eS ("" : Str))) fun b0 => (rk_put rfl (rk_ifF (rk_pure (d := ((eO eD) found0)) (ep_var (d := ((eO eD) found0)) rfl)  (rk_ret fun _ he => ⟨rfl, he.sub (sub_cons wk_is (sub_cons wk_is (sub_cons wk_is (sub_cons wk_nw sub_nil))))⟩)) (rk_pure (d := (eS kind0)) (ep_var (d := (eS kind0)) rfl)  (rk_ret fun _ he => ⟨rfl, he.sub (sub_cons wk_is (sub_cons wk_is (sub_cons wk_is (sub_cons wk_nw sub_nil))))⟩)))))))))) (fun b1 => (rk_ret (r := b1) fun _ he => ⟨rfl, outs_of rfl rfl he⟩)))))) (fun _ _ => trivial))))))))
def n__law_number (word0 : Str) : N (Option Int) := Ct.fn (
 (Ct.fn ((lenS word0).ct fun n0 =>
 (if (decide (n0 < (1 : Int))) = true then
 .rt true else
 (lenS word0).ct fun n1 =>
 (if (decide ((9 : Int) < n1)) = true then
 .rt true else
 (lcP (fun sign0 => ((inSN sign0 ("0123456789" : Str)).ct fun b0 =>
 (if (!b0) = true then
 .rt sign0 else .nx ()) : Ct Unit Unit Str)) (sgn word0)).ct fun ys0 =>
 (eqN ((eLs eS) ys0) ((eLs eS) ([] : (List Str)))).ct fun b1 =>
 .rt (!b1))) : Ct Unit Unit Bool)).ct fun b2 =>
 (if b2 = true then
 .rt none else
 (Ct.fn ((Ct.fn ((idxS word0 (0 : Int)).ct fun z0 =>
 (eqN (eS z0) (eS ("0" : Str))).ct fun b3 =>
 (if b3 = true then
 (eqN (eS word0) (eS ("0" : Str))).ct fun b4 =>
 .rt (!b4) else
 .rt false) : Ct Unit Unit Bool)).ct fun b5 =>
 (if b5 = true then
 .rt none else
 (intTN word0).ct fun z1 =>
 .rt (some z1)) : Ct Unit Unit (Option Int))).ct fun b6 =>
 .rt b6) : Ct Unit Unit (Option Int))
theorem rf__law_number (word0 : Str) : RF (n__law_number word0) (f__law_number [.v (eS word0)]) (fun r => ((eO eI) r)) (fun r => [.no]) := rf_of (n := 2) (b := b__law_number) (c0 := [.is (.v (eS word0)), .nw])
 (rs_if (rk_unitT (v := fun b2 => b2) (c' := fun b2 => [.is (.v (eS word0)), .nw]) (rk_orT (rk_tst (rk_bin (rk_cb (rk_acons (rk_pure (d := (eS word0)) (ep_var (d := (eS word0)) rfl)  (rk_anil (rk_lenS (z := word0) fun n0 => (rk_pure (d := (eI (1 : Int))) ep_C  (rk_put rfl (rk_put rfl (rk_ifF (rk_retT fun _ he => ⟨rfl, he.sub (sub_cons wk_is (sub_cons wk_nw sub_nil))⟩) (rk_orT (rk_tst (rk_bin (rk_cb (rk_acons (rk_pure (d := (eS word0)) (ep_var (d := (eS word0)) rfl)  (rk_anil (rk_lenS (z := word0) fun n1 => (rk_pure (d := (eI (9 : Int))) ep_C  (rk_put rfl (rk_put rfl (rk_ifF (rk_retT fun _ he => ⟨rfl, he.sub (sub_cons wk_is (sub_cons wk_nw sub_nil))⟩) (rk_tst (rk_bin (rk_elst (rk_lc (rk_seqS (rk_pure (d := (eS word0)) (ep_var (d := (eS word0)) rfl)  (rk_put rfl (rk_lcP (fe := eS) (fb := eS) (ca := fun sign0 => [.is (.v (eS word0)), .is (.v (eS sign0))]) (fun _ => gs_N) (fun sign0 => (rk_ck (rk_tst (rk_bin (rk_pure (d := (eS sign0)) (ep_var (d := (eS sign0)) rfl)  (rk_pure (d := (eS ("0123456789" : Str))) ep_C  (rk_ninSS (x := sign0) (z := ("0123456789" : Str)) fun b0 => (rk_put rfl (rk_ifF (rk_pure (d := (eS sign0)) (ep_var (d := (eS sign0)) rfl)  (rk_retC (fb := eS) (sub_cons wk_is (sub_cons wk_is sub_nil)))) (rs_nx fun _ he => he.sub (sub_cons wk_is (sub_cons wk_is sub_nil)))))))))))) (fun ys0 => (rk_pure (d := ((eLs eS) ([] : (List Str)))) (ep_elst (ep_lst ep_anil))  (rk_neD (x := ((eLs eS) ys0)) (y := ((eLs eS) ([] : (List Str)))) fun b1 => (rk_put rfl (rk_retT fun _ he => ⟨rfl, he.sub (sub_cons wk_is (sub_cons wk_nw sub_nil))⟩))))))))))))))))))))))))))))))))))))) (fun b2 => (rk_ifF (rs_ret (rk_pure (d := ((eO eI) none)) ep_C  (rk_ret (r := none) fun _ he => ⟨rfl, outs_of rfl rfl he⟩))) (rs_nxs (rs_last (rs_ret (rk_unit (v := fun b6 => ((eO eI) b6)) (c' := fun b6 => [.is (.v (eS word0)), .nw]) (rk_if (rk_unitT (v := fun b5 => b5) (c' := fun b5 => [.is (.v (eS word0)), .nw]) (rk_andT (rk_tst (rk_bin (rk_ixN (rk_pure (d := (eI (0 : Int))) ep_C  (rk_ixAt (d := (eS word0)) (rk_idxS (z := word0) (i := (0 : Int)) fun z0 => (rk_pure (d := (eS ("0" : Str))) ep_C  (rk_eqD (x := (eS z0)) (y := (eS ("0" : Str))) fun b3 => (rk_put rfl (rk_ifF (rk_tst (rk_bin (rk_pure (d := (eS word0)) (ep_var (d := (eS word0)) rfl)  (rk_pure (d := (eS ("0" : Str))) ep_C  (rk_neD (x := (eS word0)) (y := (eS ("0" : Str))) fun b4 => (rk_put rfl (rk_retT fun _ he => ⟨rfl, he.sub (sub_cons wk_is (sub_cons wk_nw sub_nil))⟩))))))) (rk_retT fun _ he => ⟨rfl, he.sub (sub_cons wk_is (sub_cons wk_nw sub_nil))⟩)))))) rfl)))))) (fun b5 => (rk_ifF (rk_pure (d := ((eO eI) none)) ep_C  (rk_ret fun _ he => ⟨rfl, he.sub (sub_cons wk_is (sub_cons wk_nw sub_nil))⟩)) (rk_cb (rk_acons (rk_pure (d := (eS word0)) (ep_var (d := (eS word0)) rfl)  (rk_anil (rk_intS fun z1 => (rk_ret fun _ he => ⟨rfl, he.sub (sub_cons wk_is (sub_cons wk_nw sub_nil))⟩)))))))))) (fun b6 => (rk_ret (r := b6) fun _ he => ⟨rfl, outs_of rfl rfl he⟩))))))))))
def n__law_read_deed (text0 : Str) : N D := Ct.fn (
 (splitN text0 (" " : Str)).ct fun ys0 =>
 (lcP (fun word0 => ((n__law_number word0).ct fun r0 =>
 .rt r0 : Ct Unit Unit (Option Int))) (cutL ys0 (some (1 : Int)) none)).ct fun ys1 =>
 (idx ys0 (0 : Int)).ct fun a0 =>
 (Ct.fn ((idx ys0 (0 : Int)).ct fun a1 =>
 n__law_words.ct fun r1 =>
 (if (!(memB a1 r1)) = true then
 .rt true else
 (if (!(decide ((ys1.length : Int) = ((dget (dof ([(("cut" : Str), (2 : Int)), (("part" : Str), (2 : Int)), (("sew" : Str), (2 : Int))] : (List (Str × Int)))) a0).getD (1 : Int))))) = true then
 .rt true else
 .rt (memB none ys1))) : Ct Unit Unit Bool)).ct fun b0 =>
 (if b0 = true then
 .rt (eS ("NoText+" : Str)) else
 (idx ys0 (0 : Int)).ct fun a2 =>
 (ofO (dAdd ((eTs eS) [a2]) ((eTs (eO eI)) ys1))).ct fun z0 =>
 .rt z0) : Ct Unit Unit D)
theorem rf__law_read_deed (text0 : Str) : RF (n__law_read_deed text0) (f__law_read_deed [.v (eS text0)]) (fun r => r) (fun r => [.no]) := rf_of (n := 5) (b := b__law_read_deed) (c0 := [.is (.v (eS text0)), .nw, .nw, .nw, .nw])
 (rs_asg (rk_elst (rk_split (ep_var (d := (eS text0)) rfl) ep_C fun ys0 => (rk_asgN (rs_asg (rk_elst (rk_lc (rk_seqS (rk_pure (d := ((eLs eS) (cutL ys0 (some (1 : Int)) none))) (ep_sl (ep_var (d := ((eLs eS) ys0)) rfl) (ep_ptS ep_C) ep_ptN (sl_L (f := eS) ys0 (some (1 : Int)) none))  (rk_put rfl (rk_lcP (fe := eS) (fb := (eO eI)) (ca := fun word0 => [.is (.v (eS text0)), .is (.v ((eLs eS) ys0)), .nw, .nw, .is (.v (eS word0))]) (fun _ => gs_N) (fun word0 => (rk_ck1 (rk_callN (rk_rcons (rk_pure (d := (eS word0)) (ep_var (d := (eS word0)) rfl)  (rk_rnil (rk_call (rf__law_number word0) (fun r0 => (rk_retC (fb := (eO eI)) (sub_cons wk_is (sub_cons wk_is (sub_cons wk_nw (sub_cons wk_nw (sub_cons wk_is sub_nil))))))) (fun _ _ _ _ => trivial)))))))) (fun ys1 => (rk_asgN (rs_asg (rk_get2 (rk_edct (rk_disp (rk_pcons (rk_pure (d := (eS ("cut" : Str))) ep_C  (rk_pure (d := (eI (2 : Int))) ep_C  (rk_pcons (rk_pure (d := (eS ("part" : Str))) ep_C  (rk_pure (d := (eI (2 : Int))) ep_C  (rk_pcons (rk_pure (d := (eS ("sew" : Str))) ep_C  (rk_pure (d := (eI (2 : Int))) ep_C  (rk_pnil (rk_put (dispD_typed (f := eS) (g := eI) [(("cut" : Str), (2 : Int)), (("part" : Str), (2 : Int)), (("sew" : Str), (2 : Int))] (Nat.le_of_ble_eq_true rfl)) (rk_ixN (rk_pure (d := (eI (0 : Int))) ep_C  (rk_ixAt (d := ((eLs eS) ys0)) (rk_ixL (f := eS) (xs := ys0) fun a0 => (rk_pure (d := (eI (1 : Int))) ep_C  (rk_put (get2_typed (f := eS) (g := eI) (dof ([(("cut" : Str), (2 : Int)), (("part" : Str), (2 : Int)), (("sew" : Str), (2 : Int))] : (List (Str × Int)))) a0 (1 : Int)) (rk_asgN (rs_if (rk_unitT (v := fun b0 => b0) (c' := fun b0 => [.is (.v (eS text0)), .is (.v ((eLs eS) ys0)), .is (.v ((eLs (eO eI)) ys1)), .is (.v (eI ((dget (dof ([(("cut" : Str), (2 : Int)), (("part" : Str), (2 : Int)), (("sew" : Str), (2 : Int))] : (List (Str × Int)))) a0).getD (1 : Int)))), .nw]) (rk_orT (rk_tst (rk_bin (rk_ixN (rk_pure (d := (eI (0 : Int))) ep_C  (rk_ixAt (d := ((eLs eS) ys0)) (rk_ixL (f := eS) (xs := ys0) fun a1 => (rk_call0 rf__law_words (ne_catG _ _ _) fun r1 => (rk_put (nin_lst (f := eS) a1 r1) (rk_put rfl (rk_ifF (rk_retT fun _ he => ⟨rfl, he.sub (sub_cons wk_is (sub_cons wk_is (sub_cons wk_is (sub_cons wk_is (sub_cons wk_nw sub_nil)))))⟩) (rk_orT (rk_pure (d := (!(decide ((ys1.length : Int) = ((dget (dof ([(("cut" : Str), (2 : Int)), (("part" : Str), (2 : Int)), (("sew" : Str), (2 : Int))] : (List (Str × Int)))) a0).getD (1 : Int)))))) (ep_tst (ep_bin (ep_cb (ep_acons (ep_var (d := ((eLs (eO eI)) ys1)) rfl) ep_anil) (len_L (f := (eO eI)) ys1)) (ep_var (d := (eI ((dget (dof ([(("cut" : Str), (2 : Int)), (("part" : Str), (2 : Int)), (("sew" : Str), (2 : Int))] : (List (Str × Int)))) a0).getD (1 : Int)))) rfl) (ne_typed (f := eI) (ys1.length : Int) ((dget (dof ([(("cut" : Str), (2 : Int)), (("part" : Str), (2 : Int)), (("sew" : Str), (2 : Int))] : (List (Str × Int)))) a0).getD (1 : Int))))) (rk_ifF (rk_retT fun _ he => ⟨rfl, he.sub (sub_cons wk_is (sub_cons wk_is (sub_cons wk_is (sub_cons wk_is (sub_cons wk_nw sub_nil)))))⟩) (rk_pure (d := (memB none ys1)) (ep_tst (ep_bin ep_C (ep_var (d := ((eLs (eO eI)) ys1)) rfl) (in_lst (f := (eO eI)) none ys1))) (rk_retT fun _ he => ⟨rfl, he.sub (sub_cons wk_is (sub_cons wk_is (sub_cons wk_is (sub_cons wk_is (sub_cons wk_nw sub_nil)))))⟩)))))))))) rfl)))))) (fun b0 => (rk_ifF (rs_ret (rk_pure (d := (eS ("NoText+" : Str))) ep_C  (rk_ret (r := (eS ("NoText+" : Str))) fun _ he => ⟨rfl, outs_of rfl rfl he⟩))) (rs_nxs (rs_last (rs_ret (rk_bin (rk_tup (rk_acons (rk_ixN (rk_pure (d := (eI (0 : Int))) ep_C  (rk_ixAt (d := ((eLs eS) ys0)) (rk_ixL (f := eS) (xs := ys0) fun a2 => (rk_anil (rk_put (if_pos (Nat.le_of_ble_eq_true rfl)) (rk_pure (d := ((eTs (eO eI)) ys1)) (ep_cb (ep_acons (ep_var (d := ((eLs (eO eI)) ys1)) rfl) ep_anil) rfl)  (rk_anyD fun z0 => (rk_ret (r := z0) fun _ he => ⟨rfl, outs_of rfl rfl he⟩)))))) rfl))))))))))))))))) rfl)))))))))))))))) (edct_dict _))))))))))))))))
def n__law_bent (bag0 : (List Int)) (text0 : Str) (more0 : (List Str)) : N (Str × (List Int)) := Ct.fn (
 (lenS (" !\"#$&'()*+,-./0123456789:;<=>?@ABCDEFGHIJKLMNOPQRSTUVWXYZ[\\]^_`abcdefghijklmnopqrstuvwxyz{|}~\n" : Str)).ct fun n0 =>
 (n__law_take bag0 n0).ct (P2 fun r0 bag1 =>
 (idxS (" !\"#$&'()*+,-./0123456789:;<=>?@ABCDEFGHIJKLMNOPQRSTUVWXYZ[\\]^_`abcdefghijklmnopqrstuvwxyz{|}~\n" : Str) r0).ct fun z0 =>
 (n__law_take bag1 (more0.length : Int)).ct (P2 fun r1 bag2 =>
 (idx more0 r1).ct fun a0 =>
 (n__law_take bag2 (2 : Int)).ct (P2 fun r2 bag3 =>
 (idx [z0, a0] r2).ct fun a1 =>
 (lenS text0).ct fun n1 =>
 (n__law_take bag3 (n1 + (1 : Int))).ct (P2 fun r3 bag4 =>
 (n__law_take bag4 (8 : Int)).ct (P2 fun r4 bag5 =>
 (if (decide (r4 < (2 : Int))) = true then
 (cutSN text0 none (some r3)).ct fun z1 =>
 (catS z1 a1).ct fun s0 =>
 (cutSN text0 (some (r3 + r4)) none).ct fun z2 =>
 (catS s0 z2).ct fun s1 =>
 .rt (s1, bag5) else
 (if (decide (r4 = (2 : Int))) = true then
 (cutSN text0 none (some r3)).ct fun z3 =>
 (cutSN text0 (some (r3 + (1 : Int))) none).ct fun z4 =>
 (catS z3 z4).ct fun s2 =>
 .rt (s2, bag5) else
 (if (decide (r4 = (3 : Int))) = true then
 (cutSN text0 none (some (r3 + (1 : Int)))).ct fun z5 =>
 (cutSN text0 (some r3) none).ct fun z6 =>
 (catS z5 z6).ct fun s3 =>
 .rt (s3, bag5) else
 (if (decide (r4 = (4 : Int))) = true then
 (cutSN text0 none (some r3)).ct fun z7 =>
 (cutSN text0 (some r3) (some (r3 + (2 : Int)))).ct fun z8 =>
 (revN z8).ct fun z9 =>
 (catS z7 z9).ct fun s4 =>
 (cutSN text0 (some (r3 + (2 : Int))) none).ct fun z10 =>
 (catS s4 z10).ct fun s5 =>
 .rt (s5, bag5) else
 (splitN text0 (" " : Str)).ct fun ys0 =>
 (n__law_take bag5 (ys0.length : Int)).ct (P2 fun r5 bag6 =>
 (idx ys0 r5).ct fun a2 =>
 (repN a2 (2 : Int)).ct fun xs0 =>
 (n__law_take bag6 (ys0.length : Int)).ct (P2 fun r6 bag7 =>
 (idx ys0 r6).ct fun a3 =>
 (idx [[], xs0, [a3]] (r4 - (5 : Int))).ct fun a4 =>
 (catG (cutL ys0 none (some r5)) a4).ct fun _ =>
 (catG ((cutL ys0 none (some r5)) ++ a4) (cutL ys0 (some (r5 + (1 : Int))) none)).ct fun _ =>
 (joinN (" " : Str) (((cutL ys0 none (some r5)) ++ a4) ++ (cutL ys0 (some (r5 + (1 : Int))) none))).ct fun z11 =>
 .rt (z11, bag7)))))))))))) : Ct Unit Unit (Str × (List Int)))
theorem rf__law_bent (bag0 : (List Int)) (text0 : Str) (more0 : (List Str)) : RF (n__law_bent bag0 text0 more0) (f__law_bent [.p (List.map eI bag0), .v (eS text0), .v ((eLs eS) more0)]) (fun r => (eS r.1)) (fun r => [.p (List.map eI r.2), .no, .no]) := rf_of (n := 9) (b := b__law_bent) (c0 := [.is (.p (List.map eI bag0)), .is (.v (eS text0)), .is (.v ((eLs eS) more0)), .nw, .nw, .nw, .nw, .nw, .nw])
 (rs_asg (rk_pure (d := (eS (" !\"#$&'()*+,-./0123456789:;<=>?@ABCDEFGHIJKLMNOPQRSTUVWXYZ[\\]^_`abcdefghijklmnopqrstuvwxyz{|}~\n" : Str))) ep_C  (rk_asgN (rs_asg (rk_bin (rk_elst (rk_lst (rk_acons (rk_ixN (rk_callN (rk_lend (rk_rcons (rk_cb (rk_acons (rk_pure (d := (eS (" !\"#$&'()*+,-./0123456789:;<=>?@ABCDEFGHIJKLMNOPQRSTUVWXYZ[\\]^_`abcdefghijklmnopqrstuvwxyz{|}~\n" : Str))) (ep_var (d := (eS (" !\"#$&'()*+,-./0123456789:;<=>?@ABCDEFGHIJKLMNOPQRSTUVWXYZ[\\]^_`abcdefghijklmnopqrstuvwxyz{|}~\n" : Str))) rfl)  (rk_anil (rk_lenS (z := (" !\"#$&'()*+,-./0123456789:;<=>?@ABCDEFGHIJKLMNOPQRSTUVWXYZ[\\]^_`abcdefghijklmnopqrstuvwxyz{|}~\n" : Str)) fun n0 => (rk_rnil (rk_lendK (rk_call (rf__law_take bag0 n0) (fun ⟨r0, bag1⟩ => (rk_ixAt (d := (eS (" !\"#$&'()*+,-./0123456789:;<=>?@ABCDEFGHIJKLMNOPQRSTUVWXYZ[\\]^_`abcdefghijklmnopqrstuvwxyz{|}~\n" : Str))) (rk_idxS (z := (" !\"#$&'()*+,-./0123456789:;<=>?@ABCDEFGHIJKLMNOPQRSTUVWXYZ[\\]^_`abcdefghijklmnopqrstuvwxyz{|}~\n" : Str)) (i := r0) fun z0 => (rk_acons (rk_ixN (rk_callN (rk_lend (rk_rcons (rk_pure (d := (eI (more0.length : Int))) (ep_cb (ep_acons (ep_var (d := ((eLs eS) more0)) rfl) ep_anil) (len_L (f := eS) more0))  (rk_rnil (rk_lendK (rk_call (rf__law_take bag1 (more0.length : Int)) (fun ⟨r1, bag2⟩ => (rk_ixAt (d := ((eLs eS) more0)) (rk_ixL (f := eS) (xs := more0) fun a0 => (rk_anil (rk_put (if_pos (Nat.le_of_ble_eq_true rfl)) (rk_callN (rk_lend (rk_rcons (rk_pure (d := (eI (2 : Int))) ep_C  (rk_rnil (rk_lendK (rk_call (rf__law_take bag2 (2 : Int)) (fun ⟨r2, bag3⟩ => (rk_ixL (f := eS) (xs := [z0, a0]) fun a1 => (rk_asgN (rs_asg (rk_callN (rk_lend (rk_rcons (rk_bin (rk_cb (rk_acons (rk_pure (d := (eS text0)) (ep_var (d := (eS text0)) rfl)  (rk_anil (rk_lenS (z := text0) fun n1 => (rk_pure (d := (eI (1 : Int))) ep_C  (rk_put rfl (rk_rnil (rk_lendK (rk_call (rf__law_take bag3 (n1 + (1 : Int))) (fun ⟨r3, bag4⟩ => (rk_asgN (rs_asg (rk_callN (rk_lend (rk_rcons (rk_pure (d := (eI (8 : Int))) ep_C  (rk_rnil (rk_lendK (rk_call (rf__law_take bag4 (8 : Int)) (fun ⟨r4, bag5⟩ => (rk_asgN (rs_if (rk_pure (d := (decide (r4 < (2 : Int)))) (ep_tst (ep_bin (ep_var (d := (eI r4)) rfl) ep_C rfl)) (rk_ifF (rs_ret (rk_bin (rk_bin (rk_sl (rk_pure (d := (eS text0)) (ep_var (d := (eS text0)) rfl)  (rk_ptN (rk_ptS (rk_pure (d := (eI r3)) (ep_var (d := (eI r3)) rfl)  (rk_put rfl (rk_slS fun z1 => (rk_pure (d := (eS a1)) (ep_var (d := (eS a1)) rfl)  (rk_catS fun s0 => (rk_sl (rk_pure (d := (eS text0)) (ep_var (d := (eS text0)) rfl)  (rk_ptS (rk_pure (d := (eI (r3 + r4))) (ep_bin (ep_var (d := (eI r3)) rfl) (ep_var (d := (eI r4)) rfl) rfl)  (rk_put rfl (rk_ptN (rk_slS fun z2 => (rk_catS fun s1 => (rk_ret (r := (s1, bag5)) fun _ he => ⟨rfl, outs_of rfl rfl he⟩))))))))))))))))))))) (rs_nxs (rs_if (rk_pure (d := (decide (r4 = (2 : Int)))) (ep_tst (ep_bin (ep_var (d := (eI r4)) rfl) ep_C (eq_typed (f := eI) r4 (2 : Int)))) (rk_ifF (rs_ret (rk_bin (rk_sl (rk_pure (d := (eS text0)) (ep_var (d := (eS text0)) rfl)  (rk_ptN (rk_ptS (rk_pure (d := (eI r3)) (ep_var (d := (eI r3)) rfl)  (rk_put rfl (rk_slS fun z3 => (rk_sl (rk_pure (d := (eS text0)) (ep_var (d := (eS text0)) rfl)  (rk_ptS (rk_pure (d := (eI (r3 + (1 : Int)))) (ep_bin (ep_var (d := (eI r3)) rfl) ep_C rfl)  (rk_put rfl (rk_ptN (rk_slS fun z4 => (rk_catS fun s2 => (rk_ret (r := (s2, bag5)) fun _ he => ⟨rfl, outs_of rfl rfl he⟩)))))))))))))))))) (rs_nxs (rs_if (rk_pure (d := (decide (r4 = (3 : Int)))) (ep_tst (ep_bin (ep_var (d := (eI r4)) rfl) ep_C (eq_typed (f := eI) r4 (3 : Int)))) (rk_ifF (rs_ret (rk_bin (rk_sl (rk_pure (d := (eS text0)) (ep_var (d := (eS text0)) rfl)  (rk_ptN (rk_ptS (rk_pure (d := (eI (r3 + (1 : Int)))) (ep_bin (ep_var (d := (eI r3)) rfl) ep_C rfl)  (rk_put rfl (rk_slS fun z5 => (rk_sl (rk_pure (d := (eS text0)) (ep_var (d := (eS text0)) rfl)  (rk_ptS (rk_pure (d := (eI r3)) (ep_var (d := (eI r3)) rfl)  (rk_put rfl (rk_ptN (rk_slS fun z6 => (rk_catS fun s3 => (rk_ret (r := (s3, bag5)) fun _ he => ⟨rfl, outs_of rfl rfl he⟩)))))))))))))))))) (rs_nxs (rs_if (rk_pure (d := (decide (r4 = (4 : Int)))) (ep_tst (ep_bin (ep_var (d := (eI r4)) rfl) ep_C (eq_typed (f := eI) r4 (4 : Int)))) (rk_ifF (rs_ret (rk_bin (rk_bin (rk_sl (rk_pure (d := (eS text0)) (ep_var (d := (eS text0)) rfl)  (rk_ptN (rk_ptS (rk_pure (d := (eI r3)) (ep_var (d := (eI r3)) rfl)  (rk_put rfl (rk_slS fun z7 => (rk_revS0 (rk_sl (rk_pure (d := (eS text0)) (ep_var (d := (eS text0)) rfl)  (rk_ptS (rk_pure (d := (eI r3)) (ep_var (d := (eI r3)) rfl)  (rk_put rfl (rk_ptS (rk_pure (d := (eI (r3 + (2 : Int)))) (ep_bin (ep_var (d := (eI r3)) rfl) ep_C rfl)  (rk_put rfl (rk_slS fun z8 => (rk_revS fun z9 => (rk_catS fun s4 => (rk_sl (rk_pure (d := (eS text0)) (ep_var (d := (eS text0)) rfl)  (rk_ptS (rk_pure (d := (eI (r3 + (2 : Int)))) (ep_bin (ep_var (d := (eI r3)) rfl) ep_C rfl)  (rk_put rfl (rk_ptN (rk_slS fun z10 => (rk_catS fun s5 => (rk_ret (r := (s5, bag5)) fun _ he => ⟨rfl, outs_of rfl rfl he⟩))))))))))))))))))))))))))))))) (rs_nxs (rs_asg (rk_elst (rk_split (ep_var (d := (eS text0)) rfl) ep_C fun ys0 => (rk_asgN (rs_asg (rk_callN (rk_lend (rk_rcons (rk_pure (d := (eI (ys0.length : Int))) (ep_cb (ep_acons (ep_var (d := ((eLs eS) ys0)) rfl) ep_anil) (len_L (f := eS) ys0))  (rk_rnil (rk_lendK (rk_call (rf__law_take bag5 (ys0.length : Int)) (fun ⟨r5, bag6⟩ => (rk_asgN (rs_asg (rk_bin (rk_elst (rk_lst (rk_acons (rk_pure (d := _) (ep_elst (ep_lst ep_anil))  (rk_acons (rk_elst (rk_repX (n := (2 : Int)) (fun _ => rfl) (rk_lst (rk_acons (rk_ixN (rk_pure (d := (eI r5)) (ep_var (d := (eI r5)) rfl)  (rk_ixAt (d := ((eLs eS) ys0)) (rk_ixL (f := eS) (xs := ys0) fun a2 => (rk_anil (rk_put (if_pos (Nat.le_of_ble_eq_true rfl)) (rk_repV (f := eS) (a := a2) (n := (2 : Int)) fun xs0 => (rk_acons (rk_elst (rk_lst (rk_acons (rk_ixN (rk_callN (rk_lend (rk_rcons (rk_pure (d := (eI (ys0.length : Int))) (ep_cb (ep_acons (ep_var (d := ((eLs eS) ys0)) rfl) ep_anil) (len_L (f := eS) ys0))  (rk_rnil (rk_lendK (rk_call (rf__law_take bag6 (ys0.length : Int)) (fun ⟨r6, bag7⟩ => (rk_ixAt (d := ((eLs eS) ys0)) (rk_ixL (f := eS) (xs := ys0) fun a3 => (rk_anil (rk_put (if_pos (Nat.le_of_ble_eq_true rfl)) (rk_anil (rk_put (if_pos (Nat.le_of_ble_eq_true rfl)) (rk_pure (d := (eI (r4 - (5 : Int)))) (ep_bin (ep_var (d := (eI r4)) rfl) ep_C rfl)  (rk_ixL (f := (eLs eS)) (xs := [[], xs0, [a3]]) fun a4 => (rk_asgN (rs_last (rs_ret (rk_join (rk_pure (d := (eS (" " : Str))) ep_C  (rk_put rfl (rk_elst (rk_binL (rk_elst (rk_binL (rk_pure (d := ((eLs eS) (cutL ys0 none (some r5)))) (ep_sl (ep_var (d := ((eLs eS) ys0)) rfl) ep_ptN (ep_ptS (ep_var (d := (eI r5)) rfl)) (sl_L (f := eS) ys0 none (some r5)))  (rk_pure (d := ((eLs eS) a4)) (ep_var (d := ((eLs eS) a4)) rfl)  (rk_catL (f := eS) (xs := (cutL ys0 none (some r5))) (ys := a4) (rk_pure (d := ((eLs eS) (cutL ys0 (some (r5 + (1 : Int))) none))) (ep_sl (ep_var (d := ((eLs eS) ys0)) rfl) (ep_ptS (ep_bin (ep_var (d := (eI r5)) rfl) ep_C rfl)) ep_ptN (sl_L (f := eS) ys0 (some (r5 + (1 : Int))) none))  (rk_catL (f := eS) (xs := ((cutL ys0 none (some r5)) ++ a4)) (ys := (cutL ys0 (some (r5 + (1 : Int))) none)) (rk_joinK (s := (" " : Str)) (xs := (((cutL ys0 none (some r5)) ++ a4) ++ (cutL ys0 (some (r5 + (1 : Int))) none))) fun z11 => (rk_ret (r := (z11, bag7)) fun _ he => ⟨rfl, outs_of rfl rfl he⟩)))))))))))))))))))))))) rfl)) (fun _ _ _ _ => trivial))))))))))))))))) rfl)))))))))))))))) (fun _ _ _ _ => trivial))))))))))))))))))))))))))))))) (fun _ _ _ _ => trivial))))))))))) (fun _ _ _ _ => trivial))))))))))))))))))) (fun _ _ _ _ => trivial))))))))))) rfl)) (fun _ _ _ _ => trivial))))))))))) rfl)) (fun _ _ _ _ => trivial)))))))))))))))))))))
def n_law (script0 : (List Int)) : N Bool := Ct.fn (
 (rngN ((1 : Int) + (imin (script0.length : Int) (30 : Int)))).ct fun xs0 =>
 (forC (fun k0 => fun (_ : Unit) =>
 ((n__law_bag script0 k0).ct fun r0 =>
 n__law_words.ct fun r1 =>
 (forC (fun word0 => fun bag0 =>
 ((rngN ((1 : Int) + (b2i (memB word0 [("cut" : Str), ("part" : Str), ("sew" : Str)])))).ct fun xs1 =>
 (forC (fun j0 => (P2 fun bag1 numbers0 =>
 ((n__law_take bag1 (400 : Int)).ct (P2 fun r2 bag2 =>
 (powN (10 : Int) (9 : Int)).ct fun n0 =>
 (n__law_take bag2 n0).ct (P2 fun r3 bag3 =>
 (powN (10 : Int) (9 : Int)).ct fun n1 =>
 (n__law_take bag3 (4 : Int)).ct (P2 fun r4 bag4 =>
 (idx [r2, r3, (0 : Int), (n1 - (1 : Int))] r4).ct fun a0 =>
 (appN numbers0 a0).ct fun numbers1 =>
 .nx (bag4, numbers1)))) : Ct ((List Int) × (List Int)) ((List Int) × (List Int)) _))) xs1 (bag0, ([] : (List Int)))).sq (P2 fun bag5 numbers2 =>
 (lcP (fun number0 => ((strIN number0).ct fun z0 =>
 .rt z0 : Ct Unit Unit Str)) numbers2).ct fun ys0 =>
 (catG [word0] ys0).ct fun _ =>
 (joinN (" " : Str) ([word0] ++ ys0)).ct fun z1 =>
 (Ct.fn ((ofO (dAdd ((eTs eS) [word0]) ((eTs eI) numbers2))).ct fun z2 =>
 (unQ z2).ct fun z20 =>
 (n_deed_text z20).ct fun r5 =>
 (eqN (eS r5) (eS z1)).ct fun b0 =>
 (if (!b0) = true then
 .rt true else
 (n__law_told_text (eS z1)).ct fun r6 =>
 (ofO (dAdd ((eTs eS) [word0]) ((eTs eI) numbers2))).ct fun z3 =>
 (eqN r6 z3).ct fun b1 =>
 .rt (!b1)) : Ct Unit Unit Bool)).ct fun b2 =>
 (if b2 = true then
 .rt false else
 (n__law_take bag5 (3 : Int)).ct (P2 fun r7 bag6 =>
 (rngN ((1 : Int) + r7)).ct fun xs2 =>
 (forC (fun turn0 => (P2 fun bag7 text0 =>
 ((n__law_bent bag7 text0 [(" " : Str), ("0" : Str), ("1" : Str), ("-" : Str), ("cut" : Str), ("split" : Str), ("mark" : Str)]).ct (P2 fun r8 bag8 =>
 .nx (bag8, r8)) : Ct ((List Int) × Str) ((List Int) × Str) _))) xs2 (bag6, z1)).sq (P2 fun bag9 text1 =>
 (n__law_told_text (eS text1)).ct fun r9 =>
 (n__law_read_deed text1).ct fun r10 =>
 (eqN r9 r10).ct fun b3 =>
 (if (!b3) = true then
 .rt false else
 .nx bag9))))) : Ct (List Int) (List Int) _)) r1 r0).sq fun bag10 =>
 .nx () : Ct Unit Unit _)) xs0 ()).sq fun (_ : Unit) =>
 (forC (fun thing0 => fun (_ : Unit) =>
 ((n__law_told_text thing0).ct fun r11 =>
 (eqN r11 (eS ("NoText+" : Str))).ct fun b4 =>
 (if (!b4) = true then
 .rt false else
 .nx ()) : Ct Unit Unit _)) [(eU ()), (eI (7 : Int)), (eB true), (PyData.list []), (PyData.tuple [(eS ("cut 1 2" : Str))]), (PyData.list [(eS ("cut" : Str))]), (eS ("" : Str)), (eS ("cut" : Str)), (eS ("mark 1 a" : Str)), (eS ("undo" : Str)), (eS ("split 1 " : Str)), (eS (" split 1" : Str))] ()).sq fun (_ : Unit) =>
 .rt true : Ct Unit Unit Bool)
theorem rf_law (script0 : (List Int)) : RF (n_law script0) (f_law [.v ((eLs eI) script0)]) (fun r => (eB r)) (fun r => [.no]) := rf_of (n := 10) (b := b_law) (c0 := [.is (.v ((eLs eI) script0)), .nw, .nw, .nw, .nw, .nw, .nw, .nw, .nw, .nw])
 (rs_forK (rk_rng (j := ((1 : Int) + (imin (script0.length : Int) (30 : Int)))) (ep_acons (ep_bin ep_C (ep_cb (ep_acons (ep_cb (ep_acons (ep_var (d := ((eLs eI) script0)) rfl) ep_anil) (len_L (f := eI) script0)) (ep_acons ep_C ep_anil)) rfl) rfl) ep_anil) fun xs0 => (rs_for (fe := eI) (c0 := fun (_ : Unit) => [.is (.v ((eLs eI) script0)), .nw, .np, .nw, .np, .nw, .nw, .nw, .nw, .nw]) (c1 := fun k0 => fun (_ : Unit) => [.is (.v ((eLs eI) script0)), .is (.v (eI k0)), .np, .nw, .np, .nw, .nw, .nw, .nw, .nw]) (s0 := ()) (sub_cons wk_is (sub_cons wk_nw (sub_cons wk_nwnp (sub_cons wk_nw (sub_cons wk_nwnp (sub_cons wk_nw (sub_cons wk_nw (sub_cons wk_nw (sub_cons wk_nw (sub_cons wk_nw sub_nil)))))))))) (fun _ _ => gs_N) (fun k0 _ => (rs_asgL (rk_callNL (rk_rcons (rk_pure (d := ((eLs eI) script0)) (ep_var (d := ((eLs eI) script0)) rfl)  (rk_rcons (rk_pure (d := (eI k0)) (ep_var (d := (eI k0)) rfl)  (rk_rnil (rk_callL (rf__law_bag script0 k0) (fun r0 => (rk_asgL (rs_last (rs_forK (rk_seqS (rk_call0 rf__law_words (ne_catG _ _ _) fun r1 => (rk_put rfl (rs_for (fe := eS) (c0 := fun bag0 => [.is (.v ((eLs eI) script0)), .is (.v (eI k0)), .is (.l (List.map eI bag0)), .nw, .np, .nw, .nw, .nw, .nw, .nw]) (c1 := fun word0 => fun bag0 => [.is (.v ((eLs eI) script0)), .is (.v (eI k0)), .is (.l (List.map eI bag0)), .is (.v (eS word0)), .np, .nw, .nw, .nw, .nw, .nw]) (s0 := r0) (sub_cons wk_is (sub_cons wk_is (sub_cons wk_is (sub_cons wk_nw (sub_cons wk_np (sub_cons wk_nw (sub_cons wk_nw (sub_cons wk_nw (sub_cons wk_nw (sub_cons wk_nw sub_nil)))))))))) (fun _ bag0 => gs_N) (fun word0 bag0 => (rs_asgL (rk_pure (ep_lst ep_anil) (rk_asgL (rs_forK (rk_rng (j := ((1 : Int) + (b2i (memB word0 [("cut" : Str), ("part" : Str), ("sew" : Str)])))) (ep_acons (ep_bin ep_C (ep_cb (ep_acons (ep_bin (ep_var (d := (eS word0)) rfl) (ep_elst (ep_lst (ep_acons ep_C (ep_acons ep_C (ep_acons ep_C ep_anil))))) (in_lst (f := eS) word0 [("cut" : Str), ("part" : Str), ("sew" : Str)])) ep_anil) rfl) rfl) ep_anil) fun xs1 => (rs_for (fe := eI) (c0 := (P2 fun bag1 numbers0 => [.is (.v ((eLs eI) script0)), .is (.v (eI k0)), .is (.l (List.map eI bag1)), .is (.v (eS word0)), .is (.l (List.map eI numbers0)), .nw, .nw, .nw, .nw, .nw])) (c1 := fun j0 => (P2 fun bag1 numbers0 => [.is (.v ((eLs eI) script0)), .is (.v (eI k0)), .is (.l (List.map eI bag1)), .is (.v (eS word0)), .is (.l (List.map eI numbers0)), .is (.v (eI j0)), .nw, .nw, .nw, .nw])) (s0 := (bag0, ([] : (List Int)))) (sub_cons wk_is (sub_cons wk_is (sub_cons wk_is (sub_cons wk_is (sub_cons wk_is (sub_cons wk_nw (sub_cons wk_nw (sub_cons wk_nw (sub_cons wk_nw (sub_cons wk_nw sub_nil)))))))))) (fun _ ⟨bag1, numbers0⟩ => gs_N) (fun j0 ⟨bag1, numbers0⟩ => (rs_last (rs_drop (rk_mo (xs := List.map eI numbers0) (rk_acons (rk_bin (rk_elst (rk_lst (rk_acons (rk_callN (rk_lend (rk_rcons (rk_pure (d := (eI (400 : Int))) ep_C  (rk_rnil (rk_lendK (rk_call (rf__law_take bag1 (400 : Int)) (fun ⟨r2, bag2⟩ => (rk_acons (rk_callN (rk_lend (rk_rcons (rk_bin (rk_pure (d := (eI (10 : Int))) ep_C  (rk_pure (d := (eI (9 : Int))) ep_C  (rk_pow fun n0 => (rk_rnil (rk_lendK (rk_call (rf__law_take bag2 n0) (fun ⟨r3, bag3⟩ => (rk_acons (rk_pure (d := (eI (0 : Int))) ep_C  (rk_acons (rk_bin (rk_bin (rk_pure (d := (eI (10 : Int))) ep_C  (rk_pure (d := (eI (9 : Int))) ep_C  (rk_pow fun n1 => (rk_pure (d := (eI (1 : Int))) ep_C  (rk_put rfl (rk_anil (rk_put (if_pos (Nat.le_of_ble_eq_true rfl)) (rk_callN (rk_lend (rk_rcons (rk_pure (d := (eI (4 : Int))) ep_C  (rk_rnil (rk_lendK (rk_call (rf__law_take bag3 (4 : Int)) (fun ⟨r4, bag4⟩ => (rk_ixL (f := eI) (xs := [r2, r3, (0 : Int), (n1 - (1 : Int))]) fun a0 => (rk_anil (rk_app (fe := eI) (xs := numbers0) (a := a0) fun numbers1 => (rs_nf (c' := [.is (.v ((eLs eI) script0)), .is (.v (eI k0)), .is (.l (List.map eI bag4)), .is (.v (eS word0)), .is (.l (List.map eI numbers1)), .is (.v (eI j0)), .nw, .nw, .nw, .nw]) (rs_nx fun _ he => he.sub (sub_cons wk_is (sub_cons wk_is (sub_cons wk_is (sub_cons wk_is (sub_cons wk_is (sub_cons wk_vnw (sub_cons wk_nw (sub_cons wk_nw (sub_cons wk_nw (sub_cons wk_nw sub_nil)))))))))))))))) (fun _ _ _ _ => trivial))))))))))))))))))))) (fun _ _ _ _ => trivial))))))))))))) (fun _ _ _ _ => trivial))))))))))))))))) (fun ⟨bag5, numbers2⟩ => (rs_asg (rk_join (rk_pure (d := (eS (" " : Str))) ep_C  (rk_put rfl (rk_elst (rk_binL (rk_pure (d := ((eLs eS) [word0])) (ep_elst (ep_lst (ep_acons (ep_var (d := (eS word0)) rfl) ep_anil)))  (rk_elst (rk_lc (rk_seqS (rk_varL (rk_put rfl (rk_lcP (fe := eI) (fb := eS) (ca := fun number0 => [.is (.v ((eLs eI) script0)), .is (.v (eI k0)), .is (.l (List.map eI bag5)), .is (.v (eS word0)), .is (.v ((eLs eI) numbers2)), .nw, .nw, .nw, .nw, .is (.v (eI number0))]) (fun _ => gs_N) (fun number0 => (rk_ck1 (rk_cb (rk_acons (rk_pure (d := (eI number0)) (ep_var (d := (eI number0)) rfl)  (rk_anil (rk_strI fun z0 => (rk_retC (fb := eS) (sub_cons wk_is (sub_cons wk_is (sub_cons wk_is (sub_cons wk_is (sub_cons wk_is (sub_cons wk_nw (sub_cons wk_nw (sub_cons wk_nw (sub_cons wk_nw (sub_cons wk_is sub_nil)))))))))))))))))) (fun ys0 => (rk_catL (f := eS) (xs := [word0]) (ys := ys0) (rk_joinK (s := (" " : Str)) (xs := ([word0] ++ ys0)) fun z1 => (rk_asgN (rs_if (rk_unitT (v := fun b2 => b2) (c' := fun b2 => [.is (.v ((eLs eI) script0)), .is (.v (eI k0)), .is (.l (List.map eI bag5)), .is (.v (eS word0)), .is (.v ((eLs eI) numbers2)), .nw, .is (.v (eS z1)), .nw, .nw, .nw]) (rk_orT (rk_tst (rk_bin (rk_callN (rk_rcons (rk_bin (rk_pure (d := ((eTs eS) [word0])) (ep_tup (ep_acons (ep_var (d := (eS word0)) rfl) ep_anil))  (rk_pure (d := ((eTs eI) numbers2)) (ep_tupO (xs := List.map eI numbers2) rfl)  (rk_anyD fun z2 => (by apply rs_unQ (x := z2); exact (fun z20 => (rk_rnil (rk_call (rf_deed_text z20) (fun r5 => (rk_pure (d := (eS z1)) (ep_var (d := (eS z1)) rfl)  (rk_neD (x := (eS r5)) (y := (eS z1)) fun b0 => (rk_put rfl (rk_ifF (rk_retT fun _ he => ⟨rfl, he.sub (sub_cons wk_is (sub_cons wk_is (sub_cons wk_is (sub_cons wk_is (sub_cons wk_is (sub_cons wk_nw (sub_cons wk_is (sub_cons wk_nw (sub_cons wk_nw (sub_cons wk_nw sub_nil))))))))))⟩) (rk_tst (rk_bin (rk_callN (rk_rcons (rk_pure (d := (eS z1)) (ep_var (d := (eS z1)) rfl)  (rk_rnil (rk_call (rf__law_told_text (eS z1)) (fun r6 => (rk_bin (rk_pure (d := ((eTs eS) [word0])) (ep_tup (ep_acons (ep_var (d := (eS word0)) rfl) ep_anil))  (rk_pure (d := ((eTs eI) numbers2)) (ep_tupO (xs := List.map eI numbers2) rfl)  (rk_anyD fun z3 => (rk_neD (x := r6) (y := z3) fun b1 => (rk_put rfl (rk_retT fun _ he => ⟨rfl, he.sub (sub_cons wk_is (sub_cons wk_is (sub_cons wk_is (sub_cons wk_is (sub_cons wk_is (sub_cons wk_nw (sub_cons wk_is (sub_cons wk_nw (sub_cons wk_nw (sub_cons wk_nw sub_nil))))))))))⟩)))))))) (fun _ _ _ _ => trivial))))))))))))) (fun _ _ _ _ => trivial)))))))))))))) (fun b2 => (rk_ifF (rs_ret (rk_pure (d := (eB false)) ep_C  (rk_ret (r := false) fun _ he => ⟨rfl, outs_of rfl rfl he⟩))) (rs_nxs (rs_forK (rk_rngK (rk_acons (rk_bin (rk_pure (d := (eI (1 : Int))) ep_C  (rk_callN (rk_lend (rk_rcons (rk_pure (d := (eI (3 : Int))) ep_C  (rk_rnil (rk_lendK (rk_call (rf__law_take bag5 (3 : Int)) (fun ⟨r7, bag6⟩ => (rk_put rfl (rk_anil (rk_rngE (j := ((1 : Int) + r7)) fun xs2 => (rs_for (fe := eI) (c0 := (P2 fun bag7 text0 => [.is (.v ((eLs eI) script0)), .is (.v (eI k0)), .is (.l (List.map eI bag7)), .is (.v (eS word0)), .is (.v ((eLs eI) numbers2)), .nw, .is (.v (eS text0)), .nw, .nw, .nw])) (c1 := fun turn0 => (P2 fun bag7 text0 => [.is (.v ((eLs eI) script0)), .is (.v (eI k0)), .is (.l (List.map eI bag7)), .is (.v (eS word0)), .is (.v ((eLs eI) numbers2)), .nw, .is (.v (eS text0)), .is (.v (eI turn0)), .nw, .nw])) (s0 := (bag6, z1)) (sub_cons wk_is (sub_cons wk_is (sub_cons wk_is (sub_cons wk_is (sub_cons wk_is (sub_cons wk_nw (sub_cons wk_is (sub_cons wk_nw (sub_cons wk_nw (sub_cons wk_nw sub_nil)))))))))) (fun _ ⟨bag7, text0⟩ => gs_N) (fun turn0 ⟨bag7, text0⟩ => (rs_last (rs_asg (rk_callN (rk_lend (rk_rcons (rk_pure (d := (eS text0)) (ep_var (d := (eS text0)) rfl)  (rk_rcons (rk_pure (d := ((eLs eS) [(" " : Str), ("0" : Str), ("1" : Str), ("-" : Str), ("cut" : Str), ("split" : Str), ("mark" : Str)])) (ep_elst (ep_lst (ep_acons ep_C (ep_acons ep_C (ep_acons ep_C (ep_acons ep_C (ep_acons ep_C (ep_acons ep_C (ep_acons ep_C ep_anil)))))))))  (rk_rnil (rk_lendK (rk_call (rf__law_bent bag7 text0 [(" " : Str), ("0" : Str), ("1" : Str), ("-" : Str), ("cut" : Str), ("split" : Str), ("mark" : Str)]) (fun ⟨r8, bag8⟩ => (rk_asgN (rs_nx fun _ he => he.sub (sub_cons wk_is (sub_cons wk_is (sub_cons wk_is (sub_cons wk_is (sub_cons wk_is (sub_cons wk_nw (sub_cons wk_is (sub_cons wk_vnw (sub_cons wk_nw (sub_cons wk_nw sub_nil))))))))))))) (fun _ _ _ _ => trivial))))))))))))) (fun ⟨bag9, text1⟩ => (rs_last (rs_if (rk_tst (rk_bin (rk_callN (rk_rcons (rk_pure (d := (eS text1)) (ep_var (d := (eS text1)) rfl)  (rk_rnil (rk_call (rf__law_told_text (eS text1)) (fun r9 => (rk_callN (rk_rcons (rk_pure (d := (eS text1)) (ep_var (d := (eS text1)) rfl)  (rk_rnil (rk_call (rf__law_read_deed text1) (fun r10 => (rk_neD (x := r9) (y := r10) fun b3 => (rk_put rfl (rk_ifF (rs_ret (rk_pure (d := (eB false)) ep_C  (rk_ret (r := false) fun _ he => ⟨rfl, outs_of rfl rfl he⟩))) (rs_nxs (rs_nx fun _ he => he.sub (sub_cons wk_is (sub_cons wk_is (sub_cons wk_is (sub_cons wk_vnw (sub_cons wk_vnp (sub_cons wk_nw (sub_cons wk_vnw (sub_cons wk_nw (sub_cons wk_nw (sub_cons wk_nw sub_nil)))))))))))))))) (fun _ _ _ _ => trivial))))))) (fun _ _ _ _ => trivial)))))))))))))))) (fun _ _ _ _ => trivial))))))))))))))))))))))))))))))))))))))))))) (fun bag10 => (rs_nx fun _ he => he.sub (sub_cons wk_is (sub_cons wk_vnw (sub_cons wk_lnp (sub_cons wk_nw (sub_cons wk_np (sub_cons wk_nw (sub_cons wk_nw (sub_cons wk_nw (sub_cons wk_nw (sub_cons wk_nw sub_nil)))))))))))))))))))) (fun _ _ _ _ => trivial)))))))))) (fun _ => (rs_forK (rk_seqS (rk_pure (d := ((eLs eD) [(eU ()), (eI (7 : Int)), (eB true), (PyData.list []), (PyData.tuple [(eS ("cut 1 2" : Str))]), (PyData.list [(eS ("cut" : Str))]), (eS ("" : Str)), (eS ("cut" : Str)), (eS ("mark 1 a" : Str)), (eS ("undo" : Str)), (eS ("split 1 " : Str)), (eS (" split 1" : Str))])) (ep_elst (ep_lst (ep_acons ep_C (ep_acons ep_C (ep_acons ep_C (ep_acons (ep_elst (ep_lst ep_anil)) (ep_acons (ep_tup (ep_acons ep_C ep_anil)) (ep_acons (ep_elst (ep_lst (ep_acons ep_C ep_anil))) (ep_acons ep_C (ep_acons ep_C (ep_acons ep_C (ep_acons ep_C (ep_acons ep_C (ep_acons ep_C ep_anil))))))))))))))  (rk_put rfl (rs_for (fe := eD) (c0 := fun (_ : Unit) => [.is (.v ((eLs eI) script0)), .nw, .np, .nw, .np, .nw, .nw, .nw, .nw, .nw]) (c1 := fun thing0 => fun (_ : Unit) => [.is (.v ((eLs eI) script0)), .nw, .np, .nw, .np, .nw, .nw, .nw, .is (.v thing0), .nw]) (s0 := ()) (sub_cons wk_is (sub_cons wk_nw (sub_cons wk_np (sub_cons wk_nw (sub_cons wk_np (sub_cons wk_nw (sub_cons wk_nw (sub_cons wk_nw (sub_cons wk_nw (sub_cons wk_nw sub_nil)))))))))) (fun _ _ => gs_N) (fun thing0 _ => (rs_last (rs_if (rk_tst (rk_bin (rk_callN (rk_rcons (rk_pure (d := thing0) (ep_var (d := thing0) rfl)  (rk_rnil (rk_call (rf__law_told_text thing0) (fun r11 => (rk_pure (d := (eS ("NoText+" : Str))) ep_C  (rk_neD (x := r11) (y := (eS ("NoText+" : Str))) fun b4 => (rk_put rfl (rk_ifF (rs_ret (rk_pure (d := (eB false)) ep_C  (rk_ret (r := false) fun _ he => ⟨rfl, outs_of rfl rfl he⟩))) (rs_nxs (rs_nx fun _ he => he.sub (sub_cons wk_is (sub_cons wk_nw (sub_cons wk_np (sub_cons wk_nw (sub_cons wk_np (sub_cons wk_nw (sub_cons wk_nw (sub_cons wk_nw (sub_cons wk_vnw (sub_cons wk_nw sub_nil))))))))))))))))) (fun _ _ _ _ => trivial))))))))))) (fun _ => (rs_last (rs_ret (rk_pure (d := (eB true)) ep_C  (rk_ret (r := true) fun _ he => ⟨rfl, outs_of rfl rfl he⟩))))))))))))))
end
end K44
set_option Elab.async false
set_option linter.all false
set_option maxRecDepth 100000
set_option maxHeartbeats 4000000
namespace NP
open PySem L2 DL LW NT NW
abbrev nI (L : List Nat) : List Int := L.map fun (k : Nat) => (k : Int)
theorem idx_k {α : Type} {xs : List α} {i : Nat} {a : α} (h : xs[i]? = some a) : idx xs (i : Int) = .ok a := by
  unfold idx
  rw [atI_nat h]
  rfl
theorem idx_at {α : Type} {xs : List α} {i : Nat} (h : i < xs.length) : idx xs (i : Int) = .ok xs[i] := idx_k (List.getElem?_eq_getElem h)
theorem setN_k {α : Type} {xs : List α} {i : Nat} (h : i < xs.length) (a : α) : setN xs (i : Int) a = .ok (xs.set i a) := by
  unfold setN
  rw [ixN_of h]
theorem rngN_k {n : Nat} (h : n ≤ 1000000) : rngN (n : Int) = .ok (nI (List.range n)) := by
  unfold rngN
  rw [if_pos (i62_of (by omega) (by omega))]
  simp [rgI]
theorem range_at {n i : Nat} {a : Int} (h : (nI (List.range n))[i]? = some a) : i < n ∧ a = (i : Int) := by
  by_cases c : i < n
  · simp [List.getElem?_map, List.getElem?_range c] at h
    exact ⟨c, h.symm⟩
  · rw [List.getElem?_eq_none (by simp; omega)] at h
    cases h
@[simp] theorem nI_len (L : List Nat) : (nI L).length = L.length := by simp
abbrev bg (s : Int × Int) : List Int := [s.1, s.2]
theorem idx0 {α : Type} (x : α) (r : List α) : idx (x :: r) 0 = .ok x := idx_k (i := 0) rfl
theorem idx1 {α : Type} (x y : α) (r : List α) : idx (x :: y :: r) 1 = .ok y := idx_k (i := 1) rfl
theorem set0 {α : Type} (x : α) (r : List α) (a : α) : setN (x :: r) 0 a = .ok (a :: r) := setN_k (i := 0) (by simp) a
theorem set1 {α : Type} (x y : α) (r : List α) (a : α) : setN (x :: y :: r) 1 a = .ok (x :: a :: r) := setN_k (i := 1) (by simp) a
theorem take_n (s : Int × Int) (m : Int) (hm : 0 < m) (hm2 : m < 2 ^ 64) : ∃ r s', 0 ≤ r ∧ r < m ∧ n__law_take (bg s) m = .ok (r, bg s') := by
  have h64 := divOk_of hm hm2
  obtain ⟨x, y⟩ := s
  by_cases hx : 0 < x
  · refine ⟨x % m, (x / m, y), Int.emod_nonneg _ (by omega), Int.emod_lt_of_pos _ hm, ?_⟩
    simp [n__law_take, idx0, hx, modN, hm, divN, h64, set0]
  · have c1 : mulOk y 48271 = true := mulOk_r (by decide) (by decide)
    have b1 : 0 ≤ y * 48271 % 2147483647 := Int.emod_nonneg _ (by decide)
    have b2 : y * 48271 % 2147483647 < 2147483647 := Int.emod_lt_of_pos _ (by decide)
    have c3 : mulOk (y * 48271 % 2147483647) (y * 48271 % 2147483647) = true := mulOk_l (by omega) (by omega)
    have c5 : divOk 64 = true := divOk_of (by decide) (by decide)
    refine ⟨(y * 48271 % 2147483647) * (y * 48271 % 2147483647) % 2147483629 / 64 % m, (x, y * 48271 % 2147483647), Int.emod_nonneg _ (by omega), Int.emod_lt_of_pos _ hm, ?_⟩
    generalize hz : y * 48271 % 2147483647 = z at c3
    simp [n__law_take, idx0, hx, idx1, modN, hm, divN, mulN, c1, hz, set1, c3, c5]
theorem pow60 : powN 10 60 = .ok ((10 : Int) ^ (60 : Int).toNat) := by
  unfold powN
  rw [if_pos powOk60]
theorem pow18 : powN 10 18 = .ok T18 := by
  unfold powN
  rw [if_pos powOk18]
  rfl
theorem mul60 : mulN ((10 : Int) ^ (60 : Int).toNat) ((10 : Int) ^ (60 : Int).toNat) = .ok T120 := by
  unfold mulN
  rw [if_pos mulOk60]
  rfl
theorem bag_n (ns : List Int) (k : Int) (hk : 0 ≤ k) : ∃ s, n__law_bag ns k = .ok (bg s) := by
  have m1 : ∀ c : Int, mulOk c 7919 = true := fun c => mulOk_r (by decide) (by decide)
  have m2 : mulOk 104729 k = true := mulOk_l (by decide) (by decide)
  obtain ⟨cell, hc⟩ : ∃ cell : Int, (if decide (k < (ns.length : Int)) = true then
      (idx ns k).ct fun a0 => (powN 10 60).ct fun n0 => (powN 10 60).ct fun n1 => (mulN n0 n1).ct fun n2 => (modN a0 n2).ct fun n3 => .nx n3 else .nx 0 : Ct Int Unit (List Int)) = .nx cell := by
    by_cases c : k < (ns.length : Int)
    · obtain ⟨n, rfl⟩ := Int.eq_ofNat_of_zero_le hk
      have hl : n < ns.length := by omega
      refine ⟨ns[n] % T120, ?_⟩
      rw [if_pos (by simpa using c), idx_at hl]
      simp only [ct_ok, pow60, mul60, modN, if_pos T120_pos]
    · exact ⟨0, by rw [if_neg (by simpa using c)]⟩
  unfold n__law_bag
  rw [hc]
  simp only [sq_nx, pow18, ct_ok]
  by_cases h : cell < T18
  · exact ⟨(0, 1 + (cell * 7919 + 104729 * k) % 2147483646), by simp [h, mulN, m1, m2, modN]⟩
  · exact ⟨(cell, 1 + (cell + k) % 2147483646), by simp [h, modN]⟩
end NP
set_option Elab.async false
set_option linter.all false
set_option maxRecDepth 100000
set_option maxHeartbeats 4000000
namespace K44
open PySem L2 DL LW NT NW NP
def okT (t : Str) : Prop := ∀ c, c ∈ t.cps.toList → c < 1114112
theorem okT_ok {t : Str} (h : okT t) : PyData.strOk t = true := by
  unfold PyData.strOk
  rw [← Array.all_toList, List.all_eq_true]
  intro c hc
  exact decide_eq_true (h c hc)
theorem shS {t : Str} (h : okT t) (k : Nat) : shD k (eS t) := shD_str (okT_ok h) k
theorem eqS {a b : Str} (ha : okT a) (hb : okT b) : eqN (eS a) (eS b) = .ok (decide (a = b)) := eqN_typed (k := 1) (shS ha 1) (shS hb 1)
theorem okT_one {c : Nat} (h : c < 1114112) : okT ⟨#[c]⟩ := fun d hd => by
  have : d = c := by simpa using hd
  omega
theorem ok0 : okT ("0" : Str) := fun c hc => by
  have : c = 48 := by simpa using (show c ∈ [48] from hc)
  omega
theorem okT_cut {z : Str} (h : okT z) (lo hi : Option Int) : okT (cutS z lo hi) := fun c hc => by
  have hc : c ∈ (z.cps.toList.drop (HT.sIx z.length 0 lo)).take (HT.sIx z.length z.length hi - HT.sIx z.length 0 lo) := hc
  exact h c (List.mem_of_mem_drop (List.mem_of_mem_take hc))
theorem okT_cat {a b : Str} (ha : okT a) (hb : okT b) : okT (a ++ b) := fun c hc => by
  have hc : c ∈ TL.tl (a ++ b) := hc
  rw [TL.tl_append] at hc
  rcases List.mem_append.1 hc with q | q
  · exact ha c q
  · exact hb c q
theorem len_cat (a b : Str) : (a ++ b).length = a.length + b.length := by
  rw [TL.len_tl, TL.tl_append, List.length_append, ← TL.len_tl, ← TL.len_tl]
theorem mem_joinL {S : List Nat} {c : Nat} : ∀ {ps : List (List Nat)}, c ∈ TL.joinL S ps → c ∈ S ∨ ∃ p, p ∈ ps ∧ c ∈ p
  | [], h => by cases h
  | [p], h => .inr ⟨p, List.mem_cons_self .., h⟩
  | p :: q :: r, h => by
    have h : c ∈ p ++ (S ++ TL.joinL S (q :: r)) := h
    rcases List.mem_append.1 h with h | h
    · exact .inr ⟨p, List.mem_cons_self .., h⟩
    rcases List.mem_append.1 h with h | h
    · exact .inl h
    rcases mem_joinL h with h | ⟨p, hp, h⟩
    · exact .inl h
    · exact .inr ⟨p, List.mem_cons_of_mem _ hp, h⟩
theorem tl_sp : TL.tl (" " : Str) = [32] := rfl
theorem okT_join {ws : List Str} (h : ∀ w, w ∈ ws → okT w) : okT (Txt.join (" " : Str) ws) := fun c hc => by
  have hc : c ∈ TL.tl (Txt.join (" " : Str) ws) := hc
  rw [TL.join_eq, TL.tl_join, tl_sp] at hc
  rcases mem_joinL hc with q | ⟨p, hp, q⟩
  · have : c = 32 := by simpa using q
    omega
  · obtain ⟨w, hw, rfl⟩ := List.mem_map.1 hp
    exact h w hw c q
theorem len_join (ws : List Str) : (Txt.join (" " : Str) ws).length ≤ (ws.map (·.length)).sum + ws.length := by
  rw [TL.join_eq]
  have := StrLaws.join_length_le (" " : Str) ws
  rw [show ((" " : Str)).length = 1 from rfl, Nat.mul_one] at this
  exact this
/-- the words of a text -/
abbrev wo (t : Str) : List Str := Txt.split t (" " : Str)
theorem wo_ne (t : Str) : wo t ≠ [] := fun e => by
  have := PyProof.Rows.split_pos t (" " : Str)
  rw [show Txt.split t (" " : Str) = [] from e] at this
  exact absurd this (by decide)
theorem wo_join (t : Str) : Txt.join (" " : Str) (wo t) = t := by rw [TL.join_eq]; exact StrLaws.join_split t (" " : Str)
theorem wo_len {t w : Str} (h : w ∈ wo t) : w.length ≤ t.length := PyProof.Rows.part_short h
theorem wo_sum (t : Str) : ((wo t).map (·.length)).sum + (wo t).length ≤ t.length + 1 := PyProof.Rows.split_weight t (" " : Str) (by decide)
theorem mem_joinL' {S : List Nat} {c : Nat} {p : List Nat} (hc : c ∈ p) : ∀ {ps : List (List Nat)}, p ∈ ps → c ∈ TL.joinL S ps
  | [q], h => by
    rcases List.mem_cons.1 h with rfl | h
    · exact hc
    · cases h
  | q :: q' :: r, h => by
    show c ∈ q ++ (S ++ TL.joinL S (q' :: r))
    rcases List.mem_cons.1 h with rfl | h
    · exact List.mem_append_left _ hc
    · exact List.mem_append_right _ (List.mem_append_right _ (mem_joinL' hc h))
theorem wo_ok {t w : Str} (ht : okT t) (h : w ∈ wo t) : okT w := fun c hc => by
  refine ht c ?_
  have e := wo_join t
  rw [TL.join_eq] at e
  have e2 : TL.tl t = TL.joinL (TL.tl (" " : Str)) ((wo t).map TL.tl) := by rw [← TL.tl_join, e]
  show c ∈ TL.tl t
  rw [e2]
  exact mem_joinL' hc (List.mem_map.2 ⟨w, h, rfl⟩)
theorem splitN_ok {t : Str} (h : t.length ≤ 100000) : splitN t (" " : Str) = .ok (wo t) := by
  unfold splitN
  rw [if_pos ⟨rfl, h⟩]
def isDig (c : Nat) : Bool := decide (c ∈ ("0123456789" : Str).cps.toList)
theorem isDig_iff (c : Nat) : isDig c = true ↔ 48 ≤ c ∧ c ≤ 57 := by
  unfold isDig
  rw [show ("0123456789" : Str).cps.toList = [48, 49, 50, 51, 52, 53, 54, 55, 56, 57] from rfl, decide_eq_true_iff]
  simp only [List.mem_cons, List.not_mem_nil, or_false]
  omega
def numO (w : Str) : Option Int :=
  if w.length < 1 ∨ 9 < w.length then none
  else if w.cps.toList[0]? = some 48 ∧ w ≠ ("0" : Str) then none
  else if w.cps.toList.all isDig = true then some (NumText.digitsVal w.cps.toList : Nat) else none
theorem sgn_dig {w : Str} (hl : w.length ≤ 100000) : lcP (fun sign0 => ((inSN sign0 ("0123456789" : Str)).ct fun b4 => .rt b4 : Ct Unit Unit Bool)) (sgn w) = .ok (w.cps.toList.map isDig) := by
  have : w.cps.toList.map isDig = (sgn w).map fun z => isDig (z.cps.toList.headD 0) := by
    unfold sgn
    rw [List.map_map]
    rfl
  rw [this]
  refine lcP_map _ (by unfold sgn; rw [List.length_map]; exact hl) fun a ha => ?_
  unfold sgn at ha
  obtain ⟨c, _, rfl⟩ := List.mem_map.1 ha
  rfl
theorem sgn_ndig {w : Str} (hl : w.length ≤ 100000) : lcP (fun sign0 => ((inSN sign0 ("0123456789" : Str)).ct fun b0 =>
 (if (!b0) = true then
 .rt sign0 else .nx ()) : Ct Unit Unit Str)) (sgn w) = .ok (((sgn w).filter fun z => !isDig (z.cps.toList.headD 0)).map id) := by
  refine lcP_fm _ (by unfold sgn; rw [List.length_map]; exact hl) fun a ha => ?_
  unfold sgn at ha
  obtain ⟨c, _, rfl⟩ := List.mem_map.1 ha
  rfl
theorem ndig_nil (w : Str) : (((sgn w).filter fun z => !isDig (z.cps.toList.headD 0)).map id) = [] ↔ w.cps.toList.all isDig = true := by
  unfold sgn
  rw [List.map_id, List.filter_eq_nil_iff, List.all_eq_true]
  constructor
  · intro h c hc
    have := h ⟨#[c]⟩ (List.mem_map.2 ⟨c, hc, rfl⟩)
    simpa using this
  · intro h z hz
    obtain ⟨c, hc, rfl⟩ := List.mem_map.1 hz
    simpa using h c hc
theorem shL {ws : List Str} (h : ∀ w, w ∈ ws → okT w) : shD 2 ((eLs eS) ws) := shD_lst (k := 1) fun x hx => by
  obtain ⟨w, hw, rfl⟩ := List.mem_map.1 hx
  exact shS (h w hw) 1
theorem int_of {w : Str} (h1 : 1 ≤ w.length) (h9 : w.length ≤ 9) (hd : w.cps.toList.all isDig = true) : intTN w = .ok (NumText.digitsVal w.cps.toList : Nat) := by
  unfold intTN
  rw [if_pos (by omega), intText_digits (fun c hc => (isDig_iff c).1 (List.all_eq_true.1 hd c hc)) (fun e => by
    have : w.length = 0 := by rw [TL.len_tl]; exact congrArg List.length e
    omega) (by omega)]
  rfl
theorem num_n {w : Str} (h : okT w) (hl : w.length ≤ 100000) : n_number_of w = .ok (numO w) := by
  have l1 : lenS w = .ok (w.length : Int) := by unfold lenS; rw [if_pos hl]
  unfold n_number_of numO
  by_cases c1 : w.length < 1
  · have d1 : decide ((w.length : Int) < 1) = true := decide_eq_true (by omega)
    rw [if_pos (.inl c1)]
    simp only [l1, ct_ok, d1, if_true, fn_rt]
  have d1 : decide ((w.length : Int) < 1) = false := decide_eq_false (by omega)
  by_cases c2 : 9 < w.length
  · have d2 : decide ((9 : Int) < (w.length : Int)) = true := decide_eq_true (by omega)
    rw [if_pos (.inr c2)]
    simp only [l1, ct_ok, d1, d2, if_true, Bool.false_eq_true, if_false, fn_rt]
  have d2 : decide ((9 : Int) < (w.length : Int)) = false := decide_eq_false (by omega)
  rw [if_neg (by omega)]
  obtain ⟨c, hc⟩ : ∃ c, w.cps.toList[0]? = some c := ⟨_, List.getElem?_eq_getElem (show 0 < w.cps.toList.length by rw [← TL.len_tl]; omega)⟩
  have mc : c ∈ w.cps.toList := List.mem_of_getElem? hc
  have ix : idxS w (0 : Int) = .ok ⟨#[c]⟩ := by
    unfold idxS
    rw [if_pos hl, show (0 : Int) = ((0 : Nat) : Int) from rfl, atI_nat hc]
    rfl
  have q1 : eqN (eS ⟨#[c]⟩) (eS ("0" : Str)) = .ok (decide (c = 48)) := by
    rw [eqS (okT_one (h c mc)) ok0]
    congr 1
    exact decide_eq_decide.2 ⟨fun e => (List.cons.inj (show [c] = [48] from congrArg (fun z : Str => z.cps.toList) e)).1, fun e => by rw [e]; rfl⟩
  have q2 := eqS h ok0
  have hs := sgn_dig hl
  have al : (w.cps.toList.map isDig).all id = w.cps.toList.all isDig := by rw [List.all_map]; rfl
  have fin : ((if (!((w.cps.toList.map isDig).all id)) = true then
 .rt none else
 (intTN w).ct fun z1 =>
 .rt (some z1)) : Ct Unit Unit (Option Int)).fn = .ok (if w.cps.toList.all isDig = true then some ((NumText.digitsVal w.cps.toList : Nat) : Int) else none) := by
    rw [al]
    cases q : w.cps.toList.all isDig with
    | false => simp
    | true => simp [int_of (show 1 ≤ w.length by omega) (show w.length ≤ 9 by omega) q]
  by_cases c3 : c = 48
  · by_cases c4 : w = ("0" : Str)
    · rw [if_neg (fun hh => hh.2 c4)]
      simp only [l1, ct_ok, d1, d2, if_true, Bool.false_eq_true, if_false, fn_rt, ix, q1, q2, decide_eq_true c3, decide_eq_true c4, Bool.not_true, hs]
      exact fin
    · rw [if_pos ⟨by rw [hc, c3], c4⟩]
      simp only [l1, ct_ok, d1, d2, if_true, Bool.false_eq_true, if_false, fn_rt, ix, q1, q2, decide_eq_true c3, decide_eq_false c4, Bool.not_false]
  · rw [if_neg (fun hh => c3 (by rw [hc] at hh; exact Option.some.inj hh.1))]
    simp only [l1, ct_ok, d1, d2, if_true, Bool.false_eq_true, if_false, fn_rt, ix, q1, decide_eq_false c3, hs]
    exact fin
theorem lnum_n {w : Str} (h : okT w) (hl : w.length ≤ 100000) : n__law_number w = .ok (numO w) := by
  have l1 : lenS w = .ok (w.length : Int) := by unfold lenS; rw [if_pos hl]
  unfold n__law_number numO
  by_cases c1 : w.length < 1
  · have d1 : decide ((w.length : Int) < 1) = true := decide_eq_true (by omega)
    rw [if_pos (.inl c1)]
    simp only [l1, ct_ok, d1, if_true, fn_rt]
  have d1 : decide ((w.length : Int) < 1) = false := decide_eq_false (by omega)
  by_cases c2 : 9 < w.length
  · have d2 : decide ((9 : Int) < (w.length : Int)) = true := decide_eq_true (by omega)
    rw [if_pos (.inr c2)]
    simp only [l1, ct_ok, d1, d2, if_true, Bool.false_eq_true, if_false, fn_rt]
  have d2 : decide ((9 : Int) < (w.length : Int)) = false := decide_eq_false (by omega)
  rw [if_neg (by omega)]
  obtain ⟨c, hc⟩ : ∃ c, w.cps.toList[0]? = some c := ⟨_, List.getElem?_eq_getElem (show 0 < w.cps.toList.length by rw [← TL.len_tl]; omega)⟩
  have mc : c ∈ w.cps.toList := List.mem_of_getElem? hc
  have ix : idxS w (0 : Int) = .ok ⟨#[c]⟩ := by
    unfold idxS
    rw [if_pos hl, show (0 : Int) = ((0 : Nat) : Int) from rfl, atI_nat hc]
    rfl
  have q1 : eqN (eS ⟨#[c]⟩) (eS ("0" : Str)) = .ok (decide (c = 48)) := by
    rw [eqS (okT_one (h c mc)) ok0]
    congr 1
    exact decide_eq_decide.2 ⟨fun e => (List.cons.inj (show [c] = [48] from congrArg (fun z : Str => z.cps.toList) e)).1, fun e => by rw [e]; rfl⟩
  have q2 := eqS h ok0
  have hs := sgn_ndig hl
  have q3 : eqN ((eLs eS) (((sgn w).filter fun z => !isDig (z.cps.toList.headD 0)).map id)) ((eLs eS) ([] : List Str)) = .ok (decide ((((sgn w).filter fun z => !isDig (z.cps.toList.headD 0)).map id) = [])) := eqN_typed (k := 2) (shL fun z hz => by
      rw [List.map_id] at hz
      have hz := (List.mem_filter.1 hz).1
      unfold sgn at hz
      obtain ⟨d, hd, rfl⟩ := List.mem_map.1 hz
      exact okT_one (h d hd)) (shL fun z hz => by cases hz)
  have q3 : eqN ((eLs eS) (((sgn w).filter fun z => !isDig (z.cps.toList.headD 0)).map id)) ((eLs eS) ([] : List Str)) = .ok (w.cps.toList.all isDig) := by
    rw [q3]
    congr 1
    cases q : w.cps.toList.all isDig with
    | true => exact decide_eq_true ((ndig_nil w).2 q)
    | false => exact decide_eq_false fun e => by rw [(ndig_nil w).1 e] at q; cases q
  cases q : w.cps.toList.all isDig with
  | false =>
    rw [q] at q3
    have : (if w.cps.toList[0]? = some 48 ∧ w ≠ ("0" : Str) then none else if false = true then some ((NumText.digitsVal w.cps.toList : Nat) : Int) else none) = none := by split <;> rfl
    rw [this]
    simp only [l1, ct_ok, d1, d2, if_true, Bool.false_eq_true, if_false, fn_rt, hs, q3, Bool.not_false]
  | true =>
    rw [q] at q3
    have it := int_of (show 1 ≤ w.length by omega) (show w.length ≤ 9 by omega) q
    by_cases c3 : c = 48
    · by_cases c4 : w = ("0" : Str)
      · rw [if_neg (fun hh => hh.2 c4)]
        simp only [l1, ct_ok, d1, d2, if_true, Bool.false_eq_true, if_false, fn_rt, hs, q3, ix, q1, q2, decide_eq_true c3, decide_eq_true c4, Bool.not_true, it]
      · rw [if_pos ⟨by rw [hc, c3], c4⟩]
        simp only [l1, ct_ok, d1, d2, if_true, Bool.false_eq_true, if_false, fn_rt, hs, q3, ix, q1, q2, decide_eq_true c3, decide_eq_false c4, Bool.not_false, Bool.not_true]
    · rw [if_neg (fun hh => c3 (by rw [hc] at hh; exact Option.some.inj hh.1))]
      simp only [l1, ct_ok, d1, d2, if_true, Bool.false_eq_true, if_false, fn_rt, hs, q3, ix, q1, decide_eq_false c3, Bool.not_true, it]
/-- a number written, read -/
theorem numO_num {i : Int} (h0 : 0 ≤ i) (h1 : i < 1000000000) : numO (Str.ofString (toString i)) = some i ∧ okT (Str.ofString (toString i)) ∧ (Str.ofString (toString i)).length ≤ 9 ∧ 32 ∉ (Str.ofString (toString i)).cps.toList := by
  obtain ⟨n, rfl⟩ := Int.eq_ofNat_of_zero_le h0
  have e : (Str.ofString (toString ((n : Nat) : Int))).cps.toList = TL.numL n := TL.tl_num n
  have l : (Str.ofString (toString ((n : Nat) : Int))).length = (TL.numL n).length := by rw [TL.len_tl]; exact congrArg List.length e
  have l9 : (TL.numL n).length ≤ 9 := TL.numL_len (by decide) (by omega)
  have l1 : 1 ≤ (TL.numL n).length := by
    cases q : TL.numL n with
    | nil => exact absurd q (TL.numL_ne n)
    | cons _ _ => simp
  have ad : (TL.numL n).all isDig = true := List.all_eq_true.2 fun c hc => (isDig_iff c).2 (TL.numL_digits n c hc)
  refine ⟨?_, fun c hc => ?_, by omega, ?_⟩
  · unfold numO
    rw [if_neg (by omega), e, if_neg, if_pos ad, TL.numL_val]
    rintro ⟨a, b⟩
    apply b
    -- a number with a nought ahead is nought
    have : n = 0 := by
      rcases Nat.lt_or_ge n 10 with q | q
      · rw [TL.numL_lt q] at a
        simp at a
        exact a
      · exfalso
        have z : ∀ k m : Nat, m ≤ k → 1 ≤ m → (TL.numL m)[0]? ≠ some 48 := fun k => by
          induction k with
          | zero => intro m a b; omega
          | succ k ih =>
            intro m a b
            rcases Nat.lt_or_ge m 10 with q | q
            · rw [TL.numL_lt q]
              simp
              omega
            · rw [TL.numL_step q]
              have ne := TL.numL_ne (m / 10)
              have : (TL.numL (m / 10) ++ [48 + m % 10])[0]? = (TL.numL (m / 10))[0]? := List.getElem?_append_left (by cases w : TL.numL (m / 10) with | nil => exact absurd w ne | cons _ _ => simp)
              rw [this]
              exact ih (m / 10) (by omega) (by omega)
        exact z n n (Nat.le_refl _) (by omega) a
    subst this
    rfl
  · rw [e] at hc
    have := TL.numL_digits n c hc
    omega
  · rw [e]
    exact TL.numL_free (.inl (by decide))
end K44
set_option Elab.async false
set_option linter.all false
set_option maxRecDepth 100000
set_option maxHeartbeats 4000000
namespace K44
open PySem L2 DL LW NT NW NP
def wh (d : D) : Bool := isIntD d && !isBoolD d
theorem whole_n (d : D) : n_is_whole d = .ok (wh d) := rfl
abbrev w15 : List Str := [("split" : Str), ("merge" : Str), ("cut" : Str), ("join" : Str), ("turn" : Str), ("unturn" : Str), ("fold" : Str), ("puff" : Str), ("draw" : Str), ("part" : Str), ("grow" : Str), ("cap" : Str), ("open" : Str), ("sew" : Str), ("rip" : Str)]
theorem cat_ok {α : Type} {xs ys : List α} (h : xs.length + ys.length ≤ 100000) : catG xs ys = .ok () := by
  unfold catG
  rw [decide_eq_true h]
  rfl
theorem words_n : n__law_words = .ok w15 := by
  unfold n__law_words
  rw [cat_ok (by simp), ct_ok, fn_rt]
  rfl
def good (w : Str) (os : List (Option Int)) : Bool := os.all Option.isSome && ((memB w LW.c_ONES && decide (os.length = 1)) || (memB w LW.c_TWOS && decide (os.length = 2)))
def readO (t : Str) : Option D := match wo t with
  | [] => none
  | w :: r => if good w (r.map numO) = true then some (.tuple (eS w :: (r.map numO).map (eO eI))) else none
theorem cut1 {α : Type} (x : α) (xs : List α) : cutL (x :: xs) (some (1 : Int)) none = xs := by
  unfold cutL
  have a : HT.sIx (x :: xs).length 0 (some (1 : Int)) = 1 := by
    rw [show (1 : Int) = ((1 : Nat) : Int) from rfl, HT.sIx_nat]
    exact Nat.min_eq_left (by simp)
  have b : HT.sIx (x :: xs).length (x :: xs).length none = (x :: xs).length := rfl
  rw [a, b]
  simp
theorem is_deed_n (w : Str) (os : List (Option Int)) (hl : os.length ≤ 99999) : n_is_deed (.tuple (eS w :: os.map (eO eI))) = .ok (good w os) := by
  unfold n_is_deed good
  have n0 : intN (fLen [.tuple (eS w :: os.map (eO eI))]) = .ok ((os.length : Int) + 1) := by
    show intN (some (.int ((eS w :: os.map (eO eI)).length : Nat))) = _
    rw [List.length_cons, List.length_map]
    rfl
  have z0 : dIx (.tuple (eS w :: os.map (eO eI))) (eI (0 : Int)) = some (eS w) := by
    show atI (eS w :: os.map (eO eI)) ((0 : Nat) : Int) = _
    exact atI_nat rfl
  have z1 : dSl (.tuple (eS w :: os.map (eO eI))) (some (1 : Int)) none = some (.tuple (os.map (eO eI))) := by
    show some (PyData.tuple (cutL (eS w :: os.map (eO eI)) (some (1 : Int)) none)) = _
    rw [cut1]
  have sq : seqS (.tuple (os.map (eO eI))) = some (os.map (eO eI)) := rfl
  have ys : lcP (fun number0 => ((n_is_whole number0).ct fun r0 => .rt r0 : Ct Unit Unit Bool)) (os.map (eO eI)) = .ok (os.map Option.isSome) := by
    have : os.map Option.isSome = (os.map (eO eI)).map wh := by
      rw [List.map_map]
      refine List.map_congr_left fun o _ => ?_
      cases o <;> rfl
    rw [this]
    exact lcP_map _ (by rw [List.length_map]; omega) fun a _ => by rw [whole_n]; rfl
  have al : (os.map Option.isSome).all id = os.all Option.isSome := by rw [List.all_map]; rfl
  have i1 : boolN (dInS (eS w) ((eTs eS) LW.c_ONES)) = .ok (memB w LW.c_ONES) := by
    have : dInS (eS w) ((eTs eS) LW.c_ONES) = dIn (eS w) ((eTs eS) LW.c_ONES) := rfl
    rw [this, in_tup]
    rfl
  have i2 : boolN (dInS (eS w) ((eTs eS) LW.c_TWOS)) = .ok (memB w LW.c_TWOS) := by
    have : dInS (eS w) ((eTs eS) LW.c_TWOS) = dIn (eS w) ((eTs eS) LW.c_TWOS) := rfl
    rw [this, in_tup]
    rfl
  have tp : isTupD (.tuple (eS w :: os.map (eO eI))) = true := rfl
  have st : isStrD (eS w) = true := rfl
  have e1 : decide ((os.length : Int) + 1 = 2) = decide (os.length = 1) := decide_eq_decide.2 (by omega)
  have e2 : decide ((os.length : Int) + 1 = 3) = decide (os.length = 2) := decide_eq_decide.2 (by omega)
  by_cases c : os.length = 0
  · have d : decide ((os.length : Int) + 1 < 2) = true := decide_eq_true (by omega)
    have f1 : decide (os.length = 1) = false := decide_eq_false (by omega)
    have f2 : decide (os.length = 2) = false := decide_eq_false (by omega)
    simp only [tp, n0, ct_ok, d, Bool.not_true, Bool.false_eq_true, if_false, if_true, fn_rt, f1, f2, Bool.and_false, Bool.or_self]
  · have d : decide ((os.length : Int) + 1 < 2) = false := decide_eq_false (by omega)
    simp only [tp, n0, ct_ok, d, Bool.not_true, Bool.false_eq_true, if_false, if_true, fn_rt, z0, z1, ofO_some, st, sq, ys, al, i1, i2, e1, e2]
    generalize memB w LW.c_ONES = p
    generalize memB w LW.c_TWOS = q
    generalize os.all Option.isSome = r
    generalize decide (os.length = 1) = x
    generalize decide (os.length = 2) = y
    cases p <;> cases q <;> cases r <;> cases x <;> cases y <;> rfl
def resT (t : Str) : D := (readO t).getD (eS ("NoText+" : Str))
theorem idx00 {α : Type} (x : α) (r : List α) : idx (x :: r) (0 : Int) = .ok x := idx_k (i := 0) rfl
theorem wo_r {t w : Str} {r : List Str} (e : wo t = w :: r) (ht : okT t) : okT w ∧ (∀ x, x ∈ r → okT x) := ⟨wo_ok ht (e ▸ List.mem_cons_self ..), fun x hx => wo_ok ht (e ▸ List.mem_cons_of_mem _ hx)⟩
theorem read_n {t : Str} (ht : okT t) (hl : t.length ≤ 50000) : n_read_deed (eS t) = (match readO t with | some d => .ok d | none => .ex ⟨"NoText", none⟩) := by
  unfold n_read_deed readO
  have s0 : isStrD (eS t) = true := rfl
  have s1 : unS (eS t) = .ok t := rfl
  cases e : wo t with
  | nil => exact absurd e (wo_ne t)
  | cons w r =>
    have hw := wo_r e ht
    have hlen : r.length ≤ 50000 := by
      have := wo_sum t
      rw [e, List.length_cons] at this
      omega
    have ys : lcP (fun word0 => ((n_number_of word0).ct fun r0 => .rt r0 : Ct Unit Unit (Option Int))) r = .ok (r.map numO) := lcP_map _ (by omega) fun a ha => by
      have la : a.length ≤ t.length := wo_len (by rw [e]; exact List.mem_cons_of_mem _ ha)
      rw [num_n (hw.2 a ha) (by omega), ct_ok]
    have ad : dAdd ((eTs eS) [w]) ((eTs (eO eI)) (r.map numO)) = some (.tuple (eS w :: (r.map numO).map (eO eI))) := by
      show (if [eS w].length + ((r.map numO).map (eO eI)).length ≤ 100000 then some (PyData.tuple ([eS w] ++ (r.map numO).map (eO eI))) else none) = _
      rw [if_pos (by simp; omega)]
      rfl
    have sp : splitN t (" " : Str) = .ok (w :: r) := by rw [splitN_ok (by omega), e]
    simp only [s0, s1, sp, Bool.not_true, Bool.false_eq_true, if_false, ct_ok, idx00, cut1, ys, ad, ofO_some, is_deed_n w (r.map numO) (by simp; omega)]
    cases good w (r.map numO) with
    | true => simp
    | false => simp
theorem mem15 (w : Str) : memB w w15 = (memB w LW.c_ONES || memB w LW.c_TWOS) := by
  have p : w15.Perm (LW.c_ONES ++ LW.c_TWOS) := by decide +kernel
  have : w ∈ w15 ↔ w ∈ LW.c_ONES ∨ w ∈ LW.c_TWOS := by rw [p.mem_iff, List.mem_append]
  rw [memB_eq, memB_eq, memB_eq, ← Bool.decide_or]
  exact decide_eq_decide.2 this
theorem apart {w : Str} (h : memB w LW.c_TWOS = true) : memB w LW.c_ONES = false := by
  have : w ∈ LW.c_TWOS := by simpa using h
  simp only [LW.c_TWOS, List.mem_cons, List.not_mem_nil, or_false] at this
  rcases this with rfl | rfl | rfl <;> decide +kernel
theorem many_n (w : Str) : (dget (dof ([(("cut" : Str), (2 : Int)), (("part" : Str), (2 : Int)), (("sew" : Str), (2 : Int))] : (List (Str × Int)))) w).getD (1 : Int) = if memB w LW.c_TWOS = true then 2 else 1 := by
  have e : dof ([(("cut" : Str), (2 : Int)), (("part" : Str), (2 : Int)), (("sew" : Str), (2 : Int))] : (List (Str × Int))) = [(("cut" : Str), (2 : Int)), (("part" : Str), (2 : Int)), (("sew" : Str), (2 : Int))] := by decide +kernel
  rw [e]
  by_cases h : w ∈ LW.c_TWOS
  · rw [if_pos (by simpa using h)]
    simp only [LW.c_TWOS, List.mem_cons, List.not_mem_nil, or_false] at h
    rcases h with rfl | rfl | rfl <;> decide +kernel
  · rw [if_neg (by simpa using h)]
    simp only [LW.c_TWOS, List.mem_cons, List.not_mem_nil, or_false, not_or] at h
    unfold dget
    simp [List.find?, Ne.symm h.1, Ne.symm h.2.1, Ne.symm h.2.2, decide_eq_false]
theorem lread_n {t : Str} (ht : okT t) (hl : t.length ≤ 50000) : n__law_read_deed t = .ok (resT t) := by
  unfold n__law_read_deed resT readO
  cases e : wo t with
  | nil => exact absurd e (wo_ne t)
  | cons w r =>
    have hw := wo_r e ht
    have hlen : r.length ≤ 50000 := by
      have := wo_sum t
      rw [e, List.length_cons] at this
      omega
    have ys : lcP (fun word0 => ((n__law_number word0).ct fun r0 => .rt r0 : Ct Unit Unit (Option Int))) r = .ok (r.map numO) := lcP_map _ (by omega) fun a ha => by
      have la : a.length ≤ t.length := wo_len (by rw [e]; exact List.mem_cons_of_mem _ ha)
      rw [lnum_n (hw.2 a ha) (by omega), ct_ok]
    have ad : dAdd ((eTs eS) [w]) ((eTs (eO eI)) (r.map numO)) = some (.tuple (eS w :: (r.map numO).map (eO eI))) := by
      show (if [eS w].length + ((r.map numO).map (eO eI)).length ≤ 100000 then some (PyData.tuple ([eS w] ++ (r.map numO).map (eO eI))) else none) = _
      rw [if_pos (by simp; omega)]
      rfl
    have sp : splitN t (" " : Str) = .ok (w :: r) := by rw [splitN_ok (by omega), e]
    have nn : memB none (r.map numO) = !((r.map numO).all Option.isSome) := by
      by_cases hm : none ∈ r.map numO
      · have m1 : memB none (r.map numO) = true := by simpa using hm
        have m2 : (r.map numO).all Option.isSome = false := List.all_eq_false.2 ⟨_, hm, by simp⟩
        rw [m1, m2]
        rfl
      · have m1 : memB none (r.map numO) = false := by simpa using hm
        have m2 : (r.map numO).all Option.isSome = true := List.all_eq_true.2 fun o ho => by
          cases o with
          | none => exact absurd ho hm
          | some _ => rfl
        rw [m1, m2]
        rfl
    simp only [sp, ct_ok, idx00, cut1, ys, words_n, mem15, many_n, nn]
    have A := fun h => apart (w := w) h
    unfold good
    generalize hos : r.map numO = os at *
    by_cases c1 : memB w LW.c_TWOS = true
    · have a1 := A c1
      by_cases c2 : os.length = 2
      · have d2 : decide ((os.length : Int) = 2) = true := decide_eq_true (by omega)
        simp only [c1, a1, if_true, d2, Bool.false_or, Bool.not_true, Bool.false_eq_true, if_false, fn_rt, ct_ok, ad, ofO_some, decide_eq_true c2, Bool.true_and, Bool.false_and, Bool.and_true]
        cases os.all Option.isSome <;> rfl
      · have d2 : decide ((os.length : Int) = 2) = false := decide_eq_false (by omega)
        simp only [c1, a1, if_true, d2, Bool.false_or, Bool.not_true, Bool.not_false, Bool.false_eq_true, if_false, if_true, fn_rt, ct_ok, decide_eq_false c2, Bool.and_false, Bool.false_and, Option.getD_none]
    · have c1 : memB w LW.c_TWOS = false := by simpa using c1
      cases a1 : memB w LW.c_ONES with
      | false => simp only [c1, Bool.or_self, Bool.not_false, if_true, fn_rt, ct_ok, Bool.false_and, Bool.and_false, Bool.false_eq_true, if_false, Option.getD_none]
      | true =>
        by_cases c2 : os.length = 1
        · have d2 : decide ((os.length : Int) = 1) = true := decide_eq_true (by omega)
          simp only [c1, Bool.false_eq_true, if_false, d2, Bool.or_false, Bool.not_true, Bool.false_eq_true, if_false, fn_rt, ct_ok, ad, ofO_some, decide_eq_true c2, Bool.true_and, Bool.false_and, Bool.and_true]
          cases os.all Option.isSome <;> rfl
        · have d2 : decide ((os.length : Int) = 1) = false := decide_eq_false (by omega)
          simp only [c1, Bool.false_eq_true, if_false, d2, Bool.or_false, Bool.not_true, Bool.not_false, Bool.false_eq_true, if_false, if_true, fn_rt, ct_ok, decide_eq_false c2, Bool.and_false, Bool.false_and, Option.getD_none]
theorem kNT : kindT ⟨"NoText", none⟩ [("SkinError", none)] = .ok ("NoText+" : Str) := by
  unfold kindT
  rw [if_pos (show ("NoText" : Str) ∈ kNames by decide)]
  kernel_rfl
theorem okNT : okT ("NoText+" : Str) := fun c hc => by
  have : ∀ c, c ∈ ("NoText+" : Str).cps.toList → c < 1114112 := by decide +kernel
  exact this c hc
theorem okE : okT ("" : Str) := fun c hc => by cases hc
theorem told_ok {d x : D} (e : n_read_deed d = .ok x) : n__law_told_text d = .ok x := by
  unfold n__law_told_text
  have q : eqN (eS ("" : Str)) (eS ("" : Str)) = .ok true := by rw [eqS okE okE]; rfl
  simp only [e, ct_ok, tryC_nx, sq_nx, P2, q, if_true, fn_rt]
  rfl
theorem told_ex {d : D} (e : n_read_deed d = .ex ⟨"NoText", none⟩) : n__law_told_text d = .ok (eS ("NoText+" : Str)) := by
  unfold n__law_told_text
  have q : eqN (eS ("NoText+" : Str)) (eS ("" : Str)) = .ok false := by rw [eqS okNT okE]; rfl
  simp only [e, ct_ex, tryC_ex, kNT, ct_ok, sq_nx, P2, q, Bool.false_eq_true, if_false, fn_rt]
theorem told_n {t : Str} (ht : okT t) (hl : t.length ≤ 50000) : n__law_told_text (eS t) = .ok (resT t) := by
  have e := read_n ht hl
  unfold resT
  cases q : readO t with
  | some d => rw [q] at e; exact told_ok e
  | none => rw [q] at e; exact told_ex e
theorem res_sh {t : Str} (ht : okT t) : shD 3 (resT t) := by
  unfold resT readO
  cases e : wo t with
  | nil => exact shS okNT 3
  | cons w r =>
    simp only
    split
    · refine shD_up (k := 2) (by decide) (shD_tup (k := 1) ?_)
      intro x hx
      rcases List.mem_cons.1 hx with rfl | hx
      · exact shS (wo_r e ht).1 1
      · obtain ⟨o, _, rfl⟩ := List.mem_map.1 hx
        cases o with
        | none => exact shD_none 1
        | some i => exact shD_int 1 i
    · exact shS okNT 3
theorem eqD {d : D} {k : Nat} (h : shD k d) (hk : k ≤ 64) : eqN d d = .ok true := eqN_same (shaped_of hk h) (SeqAt.eqv_refl d h.1)
theorem idx_mem {α : Type} {xs : List α} {i : Int} (h0 : 0 ≤ i) (h1 : i < xs.length) : ∃ a, a ∈ xs ∧ idx xs i = .ok a := by
  obtain ⟨k, rfl⟩ := Int.eq_ofNat_of_zero_le h0
  have hk : k < xs.length := by omega
  exact ⟨xs[k], List.getElem_mem hk, idx_at hk⟩
theorem cutS_ok {z : Str} (h : z.length ≤ 100000) (lo hi : Option Int) : cutSN z lo hi = .ok (cutS z lo hi) := by
  unfold cutSN
  rw [if_pos h]
theorem catS_ok {a b : Str} (h : a.length + b.length ≤ 100000) : catS a b = .ok (a ++ b) := by
  unfold catS
  rw [if_pos h]
theorem revS_ok {z : Str} (h : okT z) : okT (revS z) := fun c hc => by
  have hc : c ∈ (Builtin.Str.strSliceIndices none none (-1) z.length).filterMap (z.cps[·]?) := hc
  obtain ⟨i, _, e⟩ := List.mem_filterMap.1 hc
  refine h c ?_
  exact Array.mem_toList_iff.2 (Array.mem_of_getElem? e)
theorem revS_len (z : Str) : (revS z).length ≤ z.length := by
  rw [TL.len_tl]
  show ((Builtin.Str.strSliceIndices none none (-1) z.length).filterMap (z.cps[·]?)).length ≤ _
  refine Nat.le_trans (List.length_filterMap_le ..) ?_
  rw [PyProof.Rows.picked_rev, List.length_map, List.length_range]
  exact Nat.le_refl _
theorem sum_take (f : Str → Nat) : ∀ (l : List Str) (n : Nat), ((l.take n).map f).sum ≤ (l.map f).sum
  | [], n => by simp
  | x :: l, 0 => by simp
  | x :: l, n + 1 => by
    have := sum_take f l n
    simp only [List.take_succ_cons, List.map_cons, List.sum_cons]
    omega
theorem sum_drop (f : Str → Nat) : ∀ (l : List Str) (n : Nat), ((l.drop n).map f).sum ≤ (l.map f).sum
  | [], n => by simp
  | x :: l, 0 => by simp
  | x :: l, n + 1 => by
    have := sum_drop f l n
    simp only [List.drop_succ_cons, List.map_cons, List.sum_cons]
    omega
theorem cutL_mem {l : List Str} {lo hi : Option Int} {w : Str} (h : w ∈ cutL l lo hi) : w ∈ l := List.mem_of_mem_drop (List.mem_of_mem_take h)
theorem cutL_len (l : List Str) (lo hi : Option Int) : (cutL l lo hi).length ≤ l.length := by
  unfold cutL
  rw [List.length_take, List.length_drop]
  omega
theorem cutL_sum (l : List Str) (lo hi : Option Int) : ((cutL l lo hi).map (·.length)).sum ≤ (l.map (·.length)).sum := Nat.le_trans (sum_take _ _ _) (sum_drop _ _ _)
abbrev sg : Str := (" !\"#$&'()*+,-./0123456789:;<=>?@ABCDEFGHIJKLMNOPQRSTUVWXYZ[\\]^_`abcdefghijklmnopqrstuvwxyz{|}~\n" : Str)
theorem sg_len : sg.length = 95 := by decide +kernel
theorem sg_ok : ∀ c, c ∈ sg.cps.toList → c < 1114112 := by decide +kernel
abbrev more7 : List Str := [(" " : Str), ("0" : Str), ("1" : Str), ("-" : Str), ("cut" : Str), ("split" : Str), ("mark" : Str)]
theorem more_ok : ∀ w, w ∈ more7 → okT w ∧ w.length ≤ 5 := fun w h => by
  simp only [more7, List.mem_cons, List.not_mem_nil, or_false] at h
  have all : ∀ z : Str, (z.cps.toList.all (· < 1114112)) = true → okT z := fun z q c hc => by
    have := List.all_eq_true.1 q c hc
    simpa using this
  rcases h with rfl | rfl | rfl | rfl | rfl | rfl | rfl <;> exact ⟨all _ (by decide +kernel), by decide +kernel⟩
theorem rep2 (x : Str) : repN x (2 : Int) = .ok [x, x] := by
  unfold repN
  rw [if_pos ⟨⟨by decide, by decide⟩, by decide⟩]
  rfl
theorem bent_n (s : Int × Int) {t : Str} (ht : okT t) (hl : t.length ≤ 3000) : ∃ t' s', n__law_bent (bg s) t more7 = .ok (t', bg s') ∧ okT t' ∧ t'.length ≤ 4 * t.length + 14 := by
  have l0 : lenS sg = .ok (95 : Int) := by unfold lenS; rw [sg_len]; rfl
  obtain ⟨r0, s1, a0, b0, t0⟩ := take_n s 95 (by decide) (by decide)
  obtain ⟨i0, rfl⟩ := Int.eq_ofNat_of_zero_le a0
  have hi : i0 < sg.cps.toList.length := by rw [← TL.len_tl, sg_len]; omega
  have ix : idxS sg (i0 : Int) = .ok ⟨#[sg.cps.toList[i0]]⟩ := by
    unfold idxS
    rw [if_pos (by rw [sg_len]; decide), atI_nat (List.getElem?_eq_getElem hi)]
    rfl
  have oz : okT ⟨#[sg.cps.toList[i0]]⟩ := okT_one (sg_ok _ (List.getElem_mem hi))
  obtain ⟨r1, s2, a1, b1, t1⟩ := take_n s1 7 (by decide) (by decide)
  obtain ⟨m, mm, em⟩ := idx_mem (xs := more7) a1 b1
  have om := more_ok m mm
  obtain ⟨r2, s3, a2, b2, t2⟩ := take_n s2 2 (by decide) (by decide)
  obtain ⟨x, mx, ex⟩ := idx_mem (xs := [(⟨#[sg.cps.toList[i0]]⟩ : Str), m]) a2 b2
  have ox : okT x ∧ x.length ≤ 5 := by
    rcases List.mem_cons.1 mx with rfl | q
    · exact ⟨oz, by show 1 ≤ 5; decide⟩
    · rw [List.mem_singleton.1 q]; exact om
  have l1 : lenS t = .ok (t.length : Int) := by unfold lenS; rw [if_pos (by omega)]
  obtain ⟨r3, s4, a3, b3, t3⟩ := take_n s3 ((t.length : Int) + 1) (by omega) (by omega)
  obtain ⟨r4, s5, a4, b4, t4⟩ := take_n s4 8 (by decide) (by decide)
  have l7 : ((more7.length : Nat) : Int) = 7 := rfl
  have c := fun lo hi => cutS_ok (z := t) (by omega) lo hi
  have cl := fun lo hi => cutS_length t lo hi
  have oc := fun lo hi => okT_cut ht lo hi
  have l0 : lenS (" !\"#$&'()*+,-./0123456789:;<=>?@ABCDEFGHIJKLMNOPQRSTUVWXYZ[\\]^_`abcdefghijklmnopqrstuvwxyz{|}~\n" : Str) = .ok (95 : Int) := l0
  have ix : idxS (" !\"#$&'()*+,-./0123456789:;<=>?@ABCDEFGHIJKLMNOPQRSTUVWXYZ[\\]^_`abcdefghijklmnopqrstuvwxyz{|}~\n" : Str) (i0 : Int) = .ok ⟨#[sg.cps.toList[i0]]⟩ := ix
  unfold n__law_bent
  simp only [l0, ct_ok, t0, P2, ix, l7, t1, em, t2, ex, l1, t3, t4]
  by_cases c1 : r4 < 2
  · have q1 := catS_ok (a := cutS t none (some r3)) (b := x) (by have := cl none (some r3); omega)
    have q2 := catS_ok (a := cutS t none (some r3) ++ x) (b := cutS t (some (r3 + r4)) none) (by have := cl none (some r3); have := cl (some (r3 + r4)) none; rw [len_cat]; omega)
    refine ⟨_, s5, by simp only [decide_eq_true c1, if_true, c, ct_ok, q1, q2, fn_rt], okT_cat (okT_cat (oc none (some r3)) ox.1) (oc (some (r3 + r4)) none), ?_⟩
    rw [len_cat, len_cat]
    have := cl none (some r3); have := cl (some (r3 + r4)) none
    omega
  by_cases c2 : r4 = 2
  · have q1 := catS_ok (a := cutS t none (some r3)) (b := cutS t (some (r3 + 1)) none) (by have := cl none (some r3); have := cl (some (r3 + 1)) none; omega)
    refine ⟨_, s5, by simp only [decide_eq_false c1, decide_eq_true c2, Bool.false_eq_true, if_false, if_true, c, ct_ok, q1, fn_rt], okT_cat (oc none (some r3)) (oc (some (r3 + 1)) none), ?_⟩
    rw [len_cat]
    have := cl none (some r3); have := cl (some (r3 + 1)) none
    omega
  by_cases c3 : r4 = 3
  · have q1 := catS_ok (a := cutS t none (some (r3 + 1))) (b := cutS t (some r3) none) (by have := cl none (some (r3 + 1)); have := cl (some r3) none; omega)
    refine ⟨_, s5, by simp only [decide_eq_false c1, decide_eq_false c2, decide_eq_true c3, Bool.false_eq_true, if_false, if_true, c, ct_ok, q1, fn_rt], okT_cat (oc none (some (r3 + 1))) (oc (some r3) none), ?_⟩
    rw [len_cat]
    have := cl none (some (r3 + 1)); have := cl (some r3) none
    omega
  by_cases c4 : r4 = 4
  · have rl := revS_len (cutS t (some r3) (some (r3 + 2)))
    have cl2 := cl (some r3) (some (r3 + 2))
    have rv : revN (cutS t (some r3) (some (r3 + 2))) = .ok (revS (cutS t (some r3) (some (r3 + 2)))) := by
      unfold revN
      rw [if_pos ⟨by omega, by omega⟩]
    have q1 := catS_ok (a := cutS t none (some r3)) (b := revS (cutS t (some r3) (some (r3 + 2)))) (by have := cl none (some r3); omega)
    have q2 := catS_ok (a := cutS t none (some r3) ++ revS (cutS t (some r3) (some (r3 + 2)))) (b := cutS t (some (r3 + 2)) none) (by have := cl none (some r3); have := cl (some (r3 + 2)) none; rw [len_cat]; omega)
    refine ⟨_, s5, by simp only [decide_eq_false c1, decide_eq_false c2, decide_eq_false c3, decide_eq_true c4, Bool.false_eq_true, if_false, if_true, c, ct_ok, rv, q1, q2, fn_rt], okT_cat (okT_cat (oc none (some r3)) (revS_ok (oc (some r3) (some (r3 + 2))))) (oc (some (r3 + 2)) none), ?_⟩
    rw [len_cat, len_cat]
    have := cl none (some r3); have := cl (some (r3 + 2)) none
    omega
  · have sp := splitN_ok (t := t) (by omega)
    have ws := wo_sum t
    have wp : 1 ≤ (wo t).length := PyProof.Rows.split_pos t (" " : Str)
    obtain ⟨r5, s6, a5, b5, t5⟩ := take_n s5 ((wo t).length : Int) (by omega) (by omega)
    obtain ⟨w2, m2, e2⟩ := idx_mem (xs := wo t) a5 b5
    obtain ⟨r6, s7, a6, b6, t6⟩ := take_n s6 ((wo t).length : Int) (by omega) (by omega)
    obtain ⟨w3, m3, e3⟩ := idx_mem (xs := wo t) a6 b6
    obtain ⟨so, ms, es⟩ := idx_mem (xs := [[], [w2, w2], [w3]]) (i := r4 - 5) (by omega) (by show r4 - 5 < 3; omega)
    have hso : (∀ w, w ∈ so → w ∈ wo t) ∧ so.length ≤ 2 ∧ (so.map (·.length)).sum ≤ 2 * t.length := by
      have := wo_len m2
      have := wo_len m3
      simp only [List.mem_cons, List.not_mem_nil, or_false] at ms
      rcases ms with rfl | rfl | rfl
      · exact ⟨fun w h => (List.not_mem_nil h).elim, by simp, by simp⟩
      · exact ⟨fun w h => by simp only [List.mem_cons, List.not_mem_nil, or_false, or_self] at h; rw [h]; exact m2, by simp, by simp; omega⟩
      · exact ⟨fun w h => by rw [List.mem_singleton.1 h]; exact m3, by simp, by simp; omega⟩
    have k1 := cutL_len (wo t) none (some r5)
    have k2 := cutL_len (wo t) (some (r5 + 1)) none
    have v1 := cutL_sum (wo t) none (some r5)
    have v2 := cutL_sum (wo t) (some (r5 + 1)) none
    have g1 : catG (cutL (wo t) none (some r5)) so = .ok () := cat_ok (by omega)
    have g2 : catG (cutL (wo t) none (some r5) ++ so) (cutL (wo t) (some (r5 + 1)) none) = .ok () := cat_ok (by rw [List.length_append]; omega)
    have sm : ((cutL (wo t) none (some r5) ++ so ++ cutL (wo t) (some (r5 + 1)) none).map (·.length)).sum ≤ 4 * t.length + 4 - (2 * (wo t).length + 2) ∧ (cutL (wo t) none (some r5) ++ so ++ cutL (wo t) (some (r5 + 1)) none).length ≤ 2 * (wo t).length + 2 := by
      rw [List.map_append, List.map_append, List.sum_append, List.sum_append, List.length_append, List.length_append]
      omega
    have jn : joinN (" " : Str) (cutL (wo t) none (some r5) ++ so ++ cutL (wo t) (some (r5 + 1)) none) = .ok (Txt.join (" " : Str) (cutL (wo t) none (some r5) ++ so ++ cutL (wo t) (some (r5 + 1)) none)) := by
      unfold joinN
      rw [if_pos]
      unfold joinG
      rw [show ((" " : Str)).length = 1 from rfl]
      omega
    refine ⟨_, s7, by simp only [decide_eq_false c1, decide_eq_false c2, decide_eq_false c3, decide_eq_false c4, Bool.false_eq_true, if_false, sp, ct_ok, t5, P2, e2, rep2, t6, e3, es, g1, g2, jn, fn_rt], okT_join (ws := cutL (wo t) none (some r5) ++ so ++ cutL (wo t) (some (r5 + 1)) none) fun w hw => ?_, ?_⟩
    · rcases List.mem_append.1 hw with hw | hw
      · rcases List.mem_append.1 hw with hw | hw
        · exact wo_ok ht (cutL_mem hw)
        · exact wo_ok ht (hso.1 w hw)
      · exact wo_ok ht (cutL_mem hw)
    · have := len_join (cutL (wo t) none (some r5) ++ so ++ cutL (wo t) (some (r5 + 1)) none)
      have := wo_sum t
      omega
theorem pow9 : powN 10 9 = .ok 1000000000 := by
  unfold powN
  rw [if_pos (by decide +kernel)]
  rfl
theorem draw_n (s : Int × Int) (xs : List Int) (hl : xs.length ≤ 10) : ∃ a s', 0 ≤ a ∧ a < 1000000000 ∧ ((n__law_take (bg s) (400 : Int)).ct (P2 fun r2 bag2 =>
 (powN (10 : Int) (9 : Int)).ct fun n0 =>
 (n__law_take bag2 n0).ct (P2 fun r3 bag3 =>
 (powN (10 : Int) (9 : Int)).ct fun n1 =>
 (n__law_take bag3 (4 : Int)).ct (P2 fun r4 bag4 =>
 (idx [r2, r3, (0 : Int), (n1 - (1 : Int))] r4).ct fun a0 =>
 (appN xs a0).ct fun numbers1 =>
 .nx (bag4, numbers1)))) : Ct ((List Int) × (List Int)) ((List Int) × (List Int)) Bool) = .nx (bg s', xs ++ [a]) := by
  obtain ⟨r2, s1, a2, b2, t2⟩ := take_n s 400 (by decide) (by decide)
  obtain ⟨r3, s2, a3, b3, t3⟩ := take_n s1 1000000000 (by decide) (by decide)
  obtain ⟨r4, s3, a4, b4, t4⟩ := take_n s2 4 (by decide) (by decide)
  obtain ⟨a, ma, ea⟩ := idx_mem (xs := [r2, r3, (0 : Int), ((1000000000 : Int) - (1 : Int))]) a4 b4
  have ap : appN xs a = .ok (xs ++ [a]) := by
    unfold appN
    rw [if_pos (by omega)]
  refine ⟨a, s3, ?_, ?_, ?_⟩
  · simp only [List.mem_cons, List.not_mem_nil, or_false] at ma; omega
  · simp only [List.mem_cons, List.not_mem_nil, or_false] at ma; omega
  · simp only [t2, ct_ok, P2, pow9, t3, t4, ea, ap]
def wor (a : Int) : Str := Str.ofString (toString a)
theorem w15_ok : ∀ w, w ∈ w15 → okT w ∧ w.length ≤ 6 ∧ 32 ∉ w.cps.toList := fun w h => by
  have all : ∀ z : Str, (z.cps.toList.all (fun c => decide (c < 1114112) && !decide (c = 32))) = true → okT z ∧ 32 ∉ z.cps.toList := fun z q => ⟨fun c hc => by
    have := List.all_eq_true.1 q c hc
    simp at this
    omega, fun hc => by
    have := List.all_eq_true.1 q 32 hc
    simp at this⟩
  simp only [w15, List.mem_cons, List.not_mem_nil, or_false] at h
  rcases h with rfl | rfl | rfl | rfl | rfl | rfl | rfl | rfl | rfl | rfl | rfl | rfl | rfl | rfl | rfl <;> exact ⟨(all _ (by decide +kernel)).1, by decide +kernel, (all _ (by decide +kernel)).2⟩
/-- the text of a word and numbers -/
def dtx (w : Str) (ns : List Int) : Str := Txt.join (" " : Str) (w :: ns.map wor)
theorem str_n {a : Int} (h0 : 0 ≤ a) (h1 : a < 1000000000) : strIN a = .ok (wor a) := by
  unfold strIN
  rw [if_pos]
  · rfl
  · have : a.natAbs < 2 ^ 1920 := Nat.lt_of_lt_of_le (show a.natAbs < 2 ^ 30 by omega) (Nat.pow_le_pow_right (by decide) (by decide))
    by_cases z : a.natAbs = 0
    · rw [z]; decide
    · exact (Nat.log2_lt z).2 this
theorem strs_n {ns : List Int} (h : ∀ a, a ∈ ns → 0 ≤ a ∧ a < 1000000000) (hl : ns.length ≤ 100) : lcP (fun number0 => ((strIN number0).ct fun z0 => .rt z0 : Ct Unit Unit Str)) ns = .ok (ns.map wor) := lcP_map _ (by omega) fun a ha => by rw [str_n (h a ha).1 (h a ha).2, ct_ok]
theorem join_small {ws : List Str} (h : ∀ w, w ∈ ws → w.length ≤ 9) (hl : ws.length ≤ 100) : joinN (" " : Str) ws = .ok (Txt.join (" " : Str) ws) ∧ (ws.map (·.length)).sum ≤ 9 * ws.length := by
  have : (ws.map (·.length)).sum ≤ 9 * ws.length := by
    clear hl
    induction ws with
    | nil => simp
    | cons x r ih =>
      have := ih fun w hw => h w (List.mem_cons_of_mem _ hw)
      have := h x (List.mem_cons_self ..)
      simp only [List.map_cons, List.sum_cons, List.length_cons]
      omega
  refine ⟨?_, this⟩
  unfold joinN
  rw [if_pos]
  unfold joinG
  rw [show ((" " : Str)).length = 1 from rfl]
  omega
theorem dtx_facts {w : Str} {ns : List Int} (hw : w ∈ w15) (h : ∀ a, a ∈ ns → 0 ≤ a ∧ a < 1000000000) (hl : ns.length ≤ 2) : okT (dtx w ns) ∧ (dtx w ns).length ≤ 30 ∧ joinN (" " : Str) ([w] ++ ns.map wor) = .ok (dtx w ns) ∧ wo (dtx w ns) = w :: ns.map wor := by
  have W := w15_ok w hw
  have N := fun a (ha : a ∈ ns) => numO_num (h a ha).1 (h a ha).2
  have l9 : ∀ x, x ∈ w :: ns.map wor → x.length ≤ 9 := fun x hx => by
    rcases List.mem_cons.1 hx with rfl | hx
    · omega
    · obtain ⟨a, ha, rfl⟩ := List.mem_map.1 hx
      exact (N a ha).2.2.1
  have J := join_small l9 (by simp; omega)
  refine ⟨okT_join fun x hx => ?_, ?_, J.1, ?_⟩
  · rcases List.mem_cons.1 hx with rfl | hx
    · exact W.1
    · obtain ⟨a, ha, rfl⟩ := List.mem_map.1 hx
      exact (N a ha).2.1
  · have := len_join (w :: ns.map wor)
    have := J.2
    simp only [List.length_cons, List.length_map] at this
    unfold dtx
    have e : (w :: ns.map wor).length = ns.length + 1 := by simp
    omega
  · refine TL.split_join (s := 32) (S := []) rfl (by decide +kernel) (by simp) fun x hx => ?_
    rcases List.mem_cons.1 hx with rfl | hx
    · exact W.2.2
    · obtain ⟨a, ha, rfl⟩ := List.mem_map.1 hx
      exact (N a ha).2.2.2
theorem dtx_res {w : Str} {ns : List Int} (hw : w ∈ w15) (h : ∀ a, a ∈ ns → 0 ≤ a ∧ a < 1000000000) (hl : ns.length = if memB w LW.c_TWOS = true then 2 else 1) : resT (dtx w ns) = .tuple (eS w :: ns.map eI) := by
  have hl2 : ns.length ≤ 2 := by rw [hl]; split <;> decide
  have F := dtx_facts hw h hl2
  have m : (ns.map wor).map numO = ns.map some := by
    rw [List.map_map]
    exact List.map_congr_left fun a ha => (numO_num (h a ha).1 (h a ha).2).1
  have m15 : (memB w LW.c_ONES || memB w LW.c_TWOS) = true := by rw [← mem15]; simpa using hw
  have g : good w (ns.map some) = true := by
    unfold good
    rw [List.length_map]
    have : (ns.map some).all Option.isSome = true := by rw [List.all_map]; exact List.all_eq_true.2 fun _ _ => rfl
    rw [this, Bool.true_and]
    cases q : memB w LW.c_TWOS with
    | true =>
      rw [q, if_pos rfl] at hl
      rw [decide_eq_true hl]
      simp
    | false =>
      rw [q, if_neg (by decide)] at hl
      rw [q, Bool.or_false] at m15
      rw [decide_eq_true hl, m15]
      rfl
  unfold resT readO
  rw [F.2.2.2]
  simp only [m, g, if_true, Option.getD_some]
  rw [List.map_map]
  rfl
theorem deed_n {w : Str} {ns : List Int} (d : Dd) (ew : d.w = w) (en : d.ns = ns) (hw : w ∈ w15) (h : ∀ a, a ∈ ns → 0 ≤ a ∧ a < 1000000000) (hl : ns.length ≤ 2) (hp : 1 ≤ ns.length) : n_deed_text d = .ok (dtx w ns) := by
  have W := w15_ok w hw
  have N := fun a (ha : a ∈ ns) => numO_num (h a ha).1 (h a ha).2
  have l9 : ∀ x, x ∈ ns.map wor → x.length ≤ 9 := fun x hx => by
    obtain ⟨a, ha, rfl⟩ := List.mem_map.1 hx
    exact (N a ha).2.2.1
  have J := join_small l9 (by simp; omega)
  have jl := len_join (ns.map wor)
  have J2 := J.2
  rw [List.length_map] at jl J2
  have e1 : n_numbers_text ns = .ok (Txt.join (" " : Str) (ns.map wor)) := by
    unfold n_numbers_text
    simp only [strs_n h (by omega), ct_ok, J.1, fn_rt]
  have lw := W.2.1
  have q1 : catS w (" " : Str) = .ok (w ++ (" " : Str)) := catS_ok (by show w.length + 1 ≤ 100000; omega)
  have q2 : catS (w ++ (" " : Str)) (Txt.join (" " : Str) (ns.map wor)) = .ok (w ++ (" " : Str) ++ Txt.join (" " : Str) (ns.map wor)) := catS_ok (by rw [len_cat]; show w.length + 1 + _ ≤ 100000; omega)
  have e2 : w ++ (" " : Str) ++ Txt.join (" " : Str) (ns.map wor) = dtx w ns := by
    unfold dtx
    rw [TL.join_eq, TL.join_eq]
    cases ns with
    | nil => exact absurd hp (by decide)
    | cons a r => rfl
  unfold n_deed_text
  simp only [ew, en, q1, ct_ok, e1, q2, e2, fn_rt]
theorem ofAll {z : Str} (q : (z.cps.toList.all (· < 1114112)) = true) : okT z := fun c hc => by
  have := List.all_eq_true.1 q c hc
  simpa using this
theorem noT {t : Str} (h : okT t) (l : t.length ≤ 50000) (e : (readO t).isNone = true) : n__law_told_text (eS t) = .ok (eS ("NoText+" : Str)) := by
  rw [told_n h l]
  unfold resT
  rw [Option.isNone_iff_eq_none.1 e]
  rfl
theorem noD {d : D} (h : isStrD d = false) : n__law_told_text d = .ok (eS ("NoText+" : Str)) := told_ex (by
  unfold n_read_deed
  simp only [h, Bool.not_false, if_true, fn_ex])
theorem things_n : ∀ d, d ∈ [(eU ()), (eI (7 : Int)), (eB true), (PyData.list []), (PyData.tuple [(eS ("cut 1 2" : Str))]), (PyData.list [(eS ("cut" : Str))]), (eS ("" : Str)), (eS ("cut" : Str)), (eS ("mark 1 a" : Str)), (eS ("undo" : Str)), (eS ("split 1 " : Str)), (eS (" split 1" : Str))] → n__law_told_text d = .ok (eS ("NoText+" : Str)) := fun d h => by
  simp only [List.mem_cons, List.not_mem_nil, or_false] at h
  rcases h with rfl | rfl | rfl | rfl | rfl | rfl | rfl | rfl | rfl | rfl | rfl | rfl
  · exact noD rfl
  · exact noD rfl
  · exact noD rfl
  · exact noD rfl
  · exact noD rfl
  · exact noD rfl
  all_goals exact noT (ofAll (by decide +kernel)) (by decide +kernel) (by decide +kernel)
theorem ded_n {w : Str} {ns : List Int} (hl : ns.length = 1 ∨ ns.length = 2) : ∃ d : Dd, ofO (dAdd ((eTs eS) [w]) ((eTs eI) ns)) = .ok (.tuple (eS w :: ns.map eI)) ∧ unQ (.tuple (eS w :: ns.map eI)) = .ok d ∧ d.w = w ∧ d.ns = ns := by
  match ns, hl with
  | [a], _ => exact ⟨⟨w, a, none⟩, rfl, rfl, rfl, rfl⟩
  | [a, b], _ => exact ⟨⟨w, a, some b⟩, rfl, rfl, rfl, rfl⟩
  | [], h => simp at h
  | _ :: _ :: _ :: _, h => simp at h
theorem law_n (ns : List Int) (h : ns.length ≤ 63) : n_law ns = .ok true := by
  suffices H : ∃ r, n_law ns = .ok r ∧ r = true by
    obtain ⟨r, a, b⟩ := H
    rw [a, b]
  unfold n_law
  refine W_fn ?_
  obtain ⟨N, hN, hN2⟩ : ∃ N : Nat, 1 + imin (ns.length : Int) 30 = (N : Int) ∧ N ≤ 31 := by
    unfold imin
    split
    · exact ⟨31, rfl, by omega⟩
    · exact ⟨1 + ns.length, by omega, by omega⟩
  simp only [hN, rngN_k (show N ≤ 1000000 by omega), ct_ok]
  refine W_cut (fun _ => True) ?_ (fun _ _ => ?_)
  · refine W_for (fun _ _ => True) trivial ?_ (fun _ _ => trivial)
    rintro i a _ hi _
    obtain ⟨hi1, rfl⟩ := range_at hi
    obtain ⟨s, hb⟩ := bag_n ns i (by omega)
    simp only [hb, ct_ok, words_n]
    refine W_cut (fun _ => True) ?_ (fun _ _ => trivial)
    refine W_for (fun _ b => ∃ s, b = bg s) ⟨s, rfl⟩ ?_ (fun _ _ => trivial)
    rintro j w _ hj ⟨s, rfl⟩
    have hw : w ∈ w15 := List.mem_of_getElem? hj
    have mt : memB w [("cut" : Str), ("part" : Str), ("sew" : Str)] = memB w LW.c_TWOS := rfl
    obtain ⟨k, hk, ek⟩ : ∃ k : Nat, (1 : Int) + b2i (memB w LW.c_TWOS) = (k : Int) ∧ k = if memB w LW.c_TWOS = true then 2 else 1 := by
      cases memB w LW.c_TWOS with
      | true => exact ⟨2, rfl, rfl⟩
      | false => exact ⟨1, rfl, rfl⟩
    have k2 : k ≤ 2 := by rw [ek]; split <;> decide
    have k1 : 1 ≤ k := by rw [ek]; split <;> decide
    simp only [mt, hk, rngN_k (show k ≤ 1000000 by omega), ct_ok]
    refine W_cut (fun st => ∃ (s : Int × Int) (xs : List Int), st = (bg s, xs) ∧ xs.length = k ∧ ∀ a, a ∈ xs → 0 ≤ a ∧ a < 1000000000) ?_ ?_
    · refine W_for (fun n st => ∃ (s : Int × Int) (xs : List Int), st = (bg s, xs) ∧ xs.length = n ∧ ∀ a, a ∈ xs → 0 ≤ a ∧ a < 1000000000) ⟨s, [], rfl, rfl, fun a h => by cases h⟩ ?_ ?_
      · rintro n a _ hn ⟨s, xs, rfl, hx, hq⟩
        have hn' := (range_at hn).1
        obtain ⟨b, s2, b0, b1, e⟩ := draw_n s xs (by omega)
        refine Eq.mpr (congrArg (fun m => W m _) e) ?_
        rw [W_nx]
        exact ⟨s2, xs ++ [b], rfl, by simp [hx], fun a ha => by
          rcases List.mem_append.1 ha with ha | ha
          · exact hq a ha
          · rw [List.mem_singleton.1 ha]; exact ⟨b0, b1⟩⟩
      · rintro _ ⟨s, xs, rfl, hx, hq⟩
        exact ⟨s, xs, rfl, by simpa using hx, hq⟩
    · rintro _ ⟨s, xs, rfl, hx, hq⟩
      have F := dtx_facts hw hq (by omega)
      have R := dtx_res hw hq (by rw [hx, ek])
      obtain ⟨d, d1, d2, d3, d4⟩ := ded_n (w := w) (ns := xs) (by omega)
      have d5 := deed_n d d3 d4 hw hq (by omega) (by omega)
      have tn := told_n F.1 (by omega)
      rw [R] at tn
      have sh := res_sh F.1
      rw [R] at sh
      have g : catG [w] (xs.map wor) = .ok () := cat_ok (by simp; omega)
      have q1 : eqN (eS (dtx w xs)) (eS (dtx w xs)) = .ok true := by rw [eqS F.1 F.1]; simp
      have q2 := eqD sh (by decide)
      obtain ⟨r7, s2, a7, b7, t7⟩ := take_n s 3 (by decide) (by decide)
      obtain ⟨m, hm⟩ := Int.eq_ofNat_of_zero_le a7
      subst hm
      have rg : rngN ((1 : Int) + (m : Int)) = .ok (nI (List.range (1 + m))) := by
        rw [show (1 : Int) + (m : Int) = ((1 + m : Nat) : Int) by omega]
        exact rngN_k (by omega)
      simp only [P2, strs_n hq (by omega), ct_ok, g, F.2.2.1, d1, d2, d5, q1, Bool.not_true, Bool.false_eq_true, if_false, tn, q2, fn_rt, t7, rg]
      refine W_cut (fun st => ∃ s t, st = (bg s, t) ∧ okT t ∧ t.length ≤ 50000) ?_ ?_
      · refine W_for (fun n st => ∃ s t, st = (bg s, t) ∧ okT t ∧ t.length + 5 ≤ 35 * 4 ^ n * 2) ⟨s2, dtx w xs, rfl, F.1, by have := F.2.1; omega⟩ ?_ ?_
        · rintro n a _ hn ⟨s, t, rfl, ht, hl⟩
          have hn' := (range_at hn).1
          have h4 : 4 ^ n ≤ 16 := Nat.le_trans (Nat.pow_le_pow_right (by decide) (show n ≤ 2 by omega)) (by decide)
          obtain ⟨t', s', e, o', l'⟩ := bent_n s ht (by omega)
          have e : n__law_bent (bg s) t [(" " : Str), ("0" : Str), ("1" : Str), ("-" : Str), ("cut" : Str), ("split" : Str), ("mark" : Str)] = .ok (t', bg s') := e
          simp only [P2, e, ct_ok, W_nx]
          exact ⟨s', t', rfl, o', by rw [Nat.pow_succ]; omega⟩
        · rintro _ ⟨s, t, rfl, ht, hl⟩
          refine ⟨s, t, rfl, ht, ?_⟩
          have h4 : 4 ^ (nI (List.range (1 + m))).length ≤ 64 := by
            rw [nI_len, List.length_range]
            exact Nat.le_trans (Nat.pow_le_pow_right (by decide) (show 1 + m ≤ 3 by omega)) (by decide)
          omega
      · rintro _ ⟨s, t, rfl, ht, hl⟩
        have q := eqD (res_sh ht) (by decide)
        simp only [P2, told_n ht hl, lread_n ht hl, ct_ok, q, Bool.not_true, Bool.false_eq_true, if_false, W_nx]
        exact ⟨s, rfl⟩
  · refine W_cut (fun _ => True) ?_ (fun _ _ => by simp only [W_rt])
    refine W_for (fun _ _ => True) trivial ?_ (fun _ _ => trivial)
    rintro i d _ hi _
    have e := things_n d (List.mem_of_getElem? hi)
    have q : eqN (eS ("NoText+" : Str)) (eS ("NoText+" : Str)) = .ok true := by rw [eqS okNT okNT]; simp
    simp only [e, ct_ok, q, Bool.not_true, Bool.false_eq_true, if_false, W_nx]
theorem law_true (ns : List Int) (h : ns.length ≤ 63) : ∃ outs, f_law [.v (scriptD ns)] = .ok (.bool true) outs := ⟨_, RF_ok (rf_law ns) (law_n ns h)⟩
end K44
set_option Elab.async false
set_option linter.all false
set_option maxRecDepth 100000
set_option maxHeartbeats 4000000
open PySem PySem.W PySem.Calls PyProof.Rows
set_option maxRecDepth 100000 in
set_option maxHeartbeats 0 in
theorem PySem.Challenge.cw_halfseams_k44_deeds_as_texts_holds : PySem.Challenge.rw_halfseams_k44_deeds_as_texts.Holds := by
  w_on; o_law
  refine HandSHeadRun.head_any (r := (OpenLaw.row PySem.Challenge.rw_halfseams_k44_deeds_as_texts)) (q := view (OpenLaw.row PySem.Challenge.rw_halfseams_k44_deeds_as_texts).prog [35]) (H := K44.hk) (ob := K44.ob) (M := 100000) (loose := K44.loose) (d := HandSHeadRun.topDef (OpenLaw.row PySem.Challenge.rw_halfseams_k44_deeds_as_texts).prog 35) (kwd := []) K44.ob_eq
    (by kernel_rfl) (fun s => by kernel_rfl) K44.run (by kernel_rfl) (by kernel_rfl) (by kernel_rfl) (by rfl) (by first | assumption | decide +kernel) (by decide +kernel) ⟨rfl, rfl, rfl, rfl, rfl, by decide +kernel⟩ ?hw ?hc
  case hw => w_witness2
  case hc =>
    refine DL.walk_ofR (l := PySem.Challenge.rw_halfseams_k44_deeds_as_texts) (n := 63) (k := 5) (F := K44.f_law) rfl (by decide) (by kernel_rfl) ⟨rfl, by decide, by decide⟩ (by kernel_rfl) K44.law_true ?C
    intro w mg h Y G
    obtain ⟨K, KX, c, e⟩ := Y
    have T := K44.txt KX G c e
    obtain ⟨fd, F⟩ := T.d_law
    exact ⟨K, fd, KX, T.g_law, fun s v => L2.FunD.bindsA (ps := ["script"]) F (fun _ _ _ _ _ _ us hl => match us, hl with | [_], _ => rfl) s [v] rfl, fun base _ _ => K44.law_fn T F⟩
