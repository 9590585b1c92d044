import PyProof.Rows.All
import Wide.All
import OpenK.AllK
import Wide.FinOn
import PySem.Challenge.RW_halfseams_k52_refusals_apart
import HandS.ForMost
import HandS.ExcCtx
import HandS.HotCalls
import HandS.ExcIs
import HandS.ExcField
import HandS.ExcInit
import HandS.ForExc
import HandS.IsInst
import HandS.Wide
import HandS.Conv
import HandS.More
import HandS.TupAny
import HandS.CallSlots
import HandS.HeadHook1
import HandS.SortInts
import HandS.Strs
import HandS.Style
import HandS.HeadHook2
import HandS.HeadHook3
import HandS.HeadHook4
import HandS.Head0
import HandS.Head1
import HandS.Head2
import KE.KExcIs
import KE.KDictCopyH
import HandS.Dict
import KE.KeyNested
import HandS.ExcValue
import HandS.Deep
import HandS.StrSplit
import HandS.StrMore
import HandS.NoneIn
import HandS.Zip
import HandS.TupMul
import HandS.Defaults
import HandS.HeadEnd
import HandS.CallLocal
import KE.GoesEnum
import KE.KDictSum
import HandS.SetFor
import HandS.Steps
import PyProof.DictUpdate
import PyProof.FactsAll.set_1
import PyProof.FactsAll.subtypes_5
import PyProof.SumWalkG
import HandS.ExcOwn
import KE.DataMinMax
import KE.SortData
import HandS.Text
import HandS.Replace
import HandS.RaiseMore
import HandS.TupSets
set_option Elab.async false
set_option linter.all false
set_option maxRecDepth 100000
set_option autoImplicit false
namespace DL
open PySem L2 PySem.Spec PyProof.Rows
def SqN (K : PySem.W.Frag) (H : Hp) (a : Addr) (xs : List V) : Prop :=
  (∃ o : Obj, H a = some (.frz o (.tup xs)) ∧ o.dict = none) ∨
    ∃ (o : Obj) (its : Array Value) (n : Nat), K.lookup a = some o ∧ o.cls = .type "tuple" ∧ o.dict = none ∧ o.data = .seq its n ∧ its.size ≤ sizeLine ∧ Vals xs its.toList
theorem SqN.t {K : PySem.W.Frag} {H : Hp} {a : Addr} {xs : List V} (h : SqN K H a xs) : SqT K H a xs := by
  rcases h with ⟨o, h, _⟩ | ⟨o, its, n, h1, h2, h3, h4, h5, h6⟩
  · exact .inl (.inr ⟨o, h⟩)
  · exact .inr ⟨o, its, n, h1, h2, h4, h5, h6⟩
section
variable {X : Cx}
/-- t + u -/
def rCatF (K : PySem.W.Frag) : R2 := fun x y H Q => ∃ a b xs ys, x = .ref a ∧ y = .ref b ∧ SqT K H a xs ∧ SqT K H b ys ∧ xs.length + ys.length ≤ sizeLine ∧
  (xs = [] → Q (.ref b) H) ∧ (xs ≠ [] → ys = [] → Q (.ref a) H) ∧ (xs ≠ [] → ys ≠ [] → ∀ (p : Addr) (o : Obj), H p = none → o.dict = none → Q (.ref p) (upd H p (.frz o (.tup (xs ++ ys)))))
theorem op_catF : OpR X (binaryOp .Add) (rCatF X.K) := by
  intro pins s σ H x y v u Q I rx ry h
  obtain ⟨a, b, xs, ys, rfl, rfl, ha, hb, hz, q0, q1, q2⟩ := h
  cases rx
  cases ry
  obtain ⟨its, r1, p1, _⟩ := I.tuple ha
  obtain ⟨its2, r2, p2, _⟩ := I.tuple hb
  by_cases hx : xs = []
  · subst hx
    cases r1
    exact cat_tup0 p1 p2 ⟨.ref b, H, I, rfl, q0 rfl⟩
  · refine HT.cat_tup p1 p2 (fun z => hx (r1.nil_iff.mp z)) (fun z => ⟨.ref a, H, I, rfl, q1 hx (r2.nil_iff.mp z)⟩) (fun z => ?_) (by rw [← r1.length, ← r2.length]; exact hz)
    refine ⟨.ref s.heap.objs.size, _, I.laid (t' := s.toks) (o := .frz { cls := .type "tuple", data := .seq (its ++ its2).toArray } (.tup (xs ++ ys))) (fun b ob q => Heap.get?_push_of_some _ q) (Nat.le_refl _) ?_, rfl, q2 hx (fun w => z (r2.nil_iff.mpr w)) _ _ (I.hok.fresh (Nat.le_refl _)) rfl⟩
    exact ⟨Heap.get?_push_size _ rfl, by rw [List.length_append]; exact hz, _, r1.append r2, IsTup.new _ _⟩
/-- t[lo:hi] -/
def rSlF (K : PySem.W.Frag) : V → Option Int → Option Int → Hp → VK → Prop := fun x lo hi H Q => ∃ a xs, x = .ref a ∧ SqT K H a xs ∧
  (HT.sIx xs.length 0 lo = 0 ∧ HT.sIx xs.length xs.length hi = xs.length → Q (.ref a) H) ∧ (¬ (HT.sIx xs.length 0 lo = 0 ∧ HT.sIx xs.length xs.length hi = xs.length) → ∀ (p : Addr) (o : Obj), H p = none → o.dict = none → Q (.ref p) (upd H p (.frz o (.tup (cutV xs lo hi)))))
theorem sl_tupF : SlR X (rSlF X.K) := by
  intro pins s σ H x v vl vu lo hi sl Q I rx hs pl pu h
  obtain ⟨a, xs, rfl, hx, q1, q2⟩ := h
  cases rx
  obtain ⟨its, r, ht, hz⟩ := I.tuple hx
  have hlen : its.toArray.size = xs.length := by rw [List.size_toArray]; exact r.length.symm
  refine ⟨"tuple", _, PyProof.Rows.slot_tuple_getitem.lookup, ht.typeIs, ?_⟩
  by_cases hw : HT.sIx xs.length 0 lo = 0 ∧ HT.sIx xs.length xs.length hi = xs.length
  · exact getItem_tuple_whole ht hs pl pu (by rw [hlen]; exact hw) ⟨.ref a, H, I, rfl, q1 hw⟩
  · refine HT.getItem_tuple_cut ht hs pl pu (by rw [hlen]; exact hw) ?_ (by rw [hlen]; exact hz)
    rw [hlen]
    refine ⟨.ref s.heap.objs.size, _, I.laid (t' := s.toks) (o := .frz { cls := .type "tuple", data := .seq (List.take (HT.sIx xs.length xs.length hi - HT.sIx xs.length 0 lo) (List.drop (HT.sIx xs.length 0 lo) its.toArray.toList)).toArray } (.tup (cutV xs lo hi))) (fun b ob q => Heap.get?_push_of_some _ q) (Nat.le_refl _) ?_, rfl, q2 hw _ _ (I.hok.fresh (Nat.le_refl _)) rfl⟩
    exact ⟨Heap.get?_push_size _ rfl, Nat.le_trans (cutV_length xs lo hi) hz, _, (r.drop (HT.sIx xs.length 0 lo)).take (HT.sIx xs.length xs.length hi - HT.sIx xs.length 0 lo), IsTup.new _ _⟩
end
end DL
set_option Elab.async false
set_option linter.all false
set_option maxRecDepth 100000
set_option autoImplicit false
namespace DL
open PySem L2 PySem.Spec PyProof.Rows
def obsB (n : Nat) (fa : List He.Fa) (fn : List He.DefD) (ex : PySem.W.Frag → Bool) (g : Addr → Option Obj) : He.AlD × Bool := (fun K : PySem.W.Frag => (He.obsD fa fn K, ex K)) (He.frG g (PySem.mainGlobals :: PySem.cStatics :: List.range n))
def hookB (n : Nat) (fa : List He.Fa) (fn : List He.DefD) (ex : PySem.W.Frag → Bool) : PySem.W.Hook where
  α := He.AlD × Bool
  obs := fun s => obsB n fa fn ex s.heap.get?
  val := fun _ => (He.valD fn, true)
  says := fun _ h => ∃ K : PySem.W.Frag, K.In h ∧ He.SaysD fa fn K ∧ ex K = true
  of := fun _ _ e => ⟨_, He.frG_in, congrArg (fun z : He.AlD × Bool => z.1) e, congrArg (fun z : He.AlD × Bool => z.2) e⟩
  keeps := fun _ _ _ ⟨K, hK, c⟩ k => ⟨K, PySem.W.Frag.In.keeps hK k, c⟩
theorem obsB_eq {n : Nat} {fa : List He.Fa} {fn : List He.DefD} {ex : PySem.W.Frag → Bool} {g : Addr → Option Obj} {s : Shared} (h : ∀ a, g a = s.heap.get? a) : obsB n fa fn ex g = (hookB n fa fn ex).obs s := by
  have e : g = s.heap.get? := funext h
  rw [e] <;> rfl
def defD (x : Str) (st : Stmt) : He.DefD := ⟨(x, none), x, x, defArgs st, defBody st, defScope st, [], []⟩
def exiB (K : PySem.W.Frag) (C : Addr) : Bool :=
  (PySem.W.clsIn K C).isSome && (decide (PySem.W.findIn K (.ref C) "__getattribute__" = some (some (.builtin "BaseException.__getattribute__"))) && (decide (PySem.W.findIn K (.ref C) "__getattr__" = some none) &&
    (decide (PySem.W.subIn K (.ref C) (.type "BaseException") = some true) && (decide (PySem.W.findIn K (.ref C) "__class__" = some (some (.builtin "object.__class__"))) &&
      (decide (PySem.W.specialIn K (.builtin "object.__class__") "__get__" = some (some (.builtin "getset_descriptor.__get__"))) && (decide (PySem.W.takesIn K (.builtin "object.__class__") = some true) && decide (PySem.W.mroIn K C (.type "object") = some true)))))))
def kNames : List Str := ["Harm", "NoHalf", "NoMarks", "NoPlain", "NoRim", "NoRow", "NoSkin", "NoText", "NothingLeft", "TooMany", "Unfit", "Unlike"]
def mtC (n c : Str) : Bool := n == ("SkinError" : Str) || c == n
def kxB (K : PySem.W.Frag) : Bool := kNames.all fun c => exiB K (He.ga K c) && (kNames.all (fun n => decide (PySem.W.kitOne K (.ref (He.ga K c)) (.ref (He.ga K n)) = some (c == n))) && (decide (PySem.W.kitOne K (.ref (He.ga K c)) (.type "ValueError") = some true) &&
  ((("SkinError" : Str) :: kNames).all (fun n => decide (PySem.W.exmOne K (.ref (He.ga K c)) (.ref (He.ga K n)) = some (mtC n c))) && (xfB K (He.ga K c) && (decide (PySem.W.findIn K (.ref (He.ga K c)) "word" = some none) && decide (PySem.W.findIn K (.ref (He.ga K c)) "half" = some none))))))
def oexB (K : PySem.W.Frag) (C : Addr) : Bool := match K.lookup C with
  | some ⟨.type "type", _, .cls cd, sl⟩ => (match cd.mro, sl.toList with
    | .ref C' :: bm, [_, _, _, _, some (.builtin n), _] => C' == C && (n == "ValueError.__new__" && (!cd.hasDel && (cd.hasDict && PySem.HandSPX.refsVE bm)))
    | _, _ => false)
  | _ => false
def exfB (K : PySem.W.Frag) (x y f : Str) : Bool :=
  oexB K (He.ga K x) && (decide (PySem.W.findIn K (.ref (He.ga K x)) "__setattr__" = some (some (.builtin "object.__setattr__"))) && (decide (PySem.W.subIn K (.ref (He.ga K x)) (.type "BaseException") = some true) && (decide (PySem.W.typeIn K (.ref (He.ga K x)) = some (.type "type")) &&
    (PySem.W.keepIn K (.ref (He.ga K x)) && (decide (PySem.W.findIn K (.ref (He.ga K x)) "__init__" = some (some (.ref (He.ma K (He.ga K x) "__init__")))) && (decide (PySem.W.typeIn K (.ref (He.ma K (He.ga K x) "__init__")) = some (.type "function")) &&
      (decide (PySem.W.findIn K (.ref (He.ga K x)) f = some none) && (decide (PySem.W.specialIn K (.ref (He.ga K y)) "__getattribute__" = some (some (.builtin "type.__getattribute__"))) && (PySem.W.readsIn K (He.ga K y) (.type "type") && (match PySem.W.findCls K (.ref (He.ga K y)) (.type "type") "__init__" with
        | some (.val (.builtin n)) => decide (n = "ValueError.__init__")
        | _ => false))))))))))
def clsBody (s : Stmt) : List Stmt := match s with
  | .ClassDef _ _ _ b _ _ _ _ _ _ _ => b
  | _ => []
end DL
set_option Elab.async false
set_option linter.all false
set_option maxRecDepth 100000
set_option autoImplicit false
namespace DL
open PySem
def vxB (K : PySem.W.Frag) : Bool := kNames.all fun c => (["int", "bool", "str", "tuple", "list"] : List String).all (fun T => decide (PySem.W.kitOne K (.ref (He.ga K c)) (.type T) = some false)) && decide (PySem.W.kitOne K (.ref (He.ga K c)) (.ref (He.ga K "SkinError")) = some true)
end DL
set_option Elab.async false
set_option linter.all false
set_option maxRecDepth 100000
set_option maxHeartbeats 4000000
namespace K52
open PySem L2 DL
def topS (i : Nat) : Stmt := PySem.Challenge.pw_halfseams_k52_refusals_apart.main.body.getD i (.Pass ⟨0, 0, 0, 0⟩)
abbrev s__law_bag : Stmt := topS 15
abbrev N__law_bag : List Str := ["script", "k", "cell"]
abbrev P__law_bag : List Str := ["script", "k"]
abbrev s__law_take : Stmt := topS 16
abbrev N__law_take : List Str := ["bag", "many", "found"]
abbrev P__law_take : List Str := ["bag", "many"]
abbrev s__law_kinds : Stmt := topS 17
abbrev N__law_kinds : List Str := ["e", "some", "words", "k"]
abbrev P__law_kinds : List Str := ["e"]
abbrev s_law : Stmt := topS 18
abbrev N_law : List Str := ["script", "bag", "number", "word", "some", "words", "one"]
abbrev P_law : List Str := ["script"]
abbrev si_Harm : Stmt := (clsBody (topS 13)).getD 0 (.Pass ⟨0, 0, 0, 0⟩)
abbrev NI_Harm : List Str := ["self", "word"]
abbrev si_NoSkin : Stmt := (clsBody (topS 12)).getD 0 (.Pass ⟨0, 0, 0, 0⟩)
abbrev NI_NoSkin : List Str := ["self", "half"]
def fn : List He.DefD := [defD "_law_bag" s__law_bag, defD "_law_take" s__law_take, defD "_law_kinds" s__law_kinds, defD "law" s_law, ⟨("Harm", some "__init__"), "__init__", "Harm.__init__", defArgs si_Harm, defBody si_Harm, defScope si_Harm, [], []⟩, ⟨("NoSkin", some "__init__"), "__init__", "NoSkin.__init__", defArgs si_NoSkin, defBody si_NoSkin, defScope si_NoSkin, [], []⟩]
def fa : List He.Fa := [.glo "_law_bag", .glo "_law_take", .glo "_law_kinds", .glo "law", .free "ValueError", .free "bool", .free "isinstance", .free "len", .free "range", .glo "NoHalf", .glo "NoMarks", .glo "NoPlain", .glo "NoRim", .glo "NoRow", .glo "NoText", .glo "NothingLeft", .glo "TooMany", .glo "Unfit", .glo "Unlike", .exc "NoHalf", .exc "NoMarks", .exc "NoPlain", .exc "NoRim", .exc "NoRow", .exc "NoText", .exc "NothingLeft", .exc "TooMany", .exc "Unfit", .exc "Unlike", .glo "Harm", .glo "NoHalf", .glo "NoMarks", .glo "NoPlain", .glo "NoRim", .glo "NoRow", .glo "NoSkin", .glo "NoText", .glo "NothingLeft", .glo "TooMany", .glo "Unfit", .glo "Unlike", .glo "SkinError"]
def exB (K : PySem.W.Frag) : Bool := kxB K && (vxB K && (exfB K "Harm" "SkinError" "word" && (exfB K "NoSkin" "SkinError" "half" && (true))))
abbrev Rw : PySem.W.OpenRow := PySem.W.OpenLaw.row PySem.Challenge.rw_halfseams_k52_refusals_apart
abbrev hk : PySem.W.Hook := hookB 800 fa fn exB
def ob (s : PySem.W.SharedT) : He.AlD × Bool := obsB 800 fa fn exB (HandSHeadRun.getT s)
theorem ob_eq (s : PySem.W.SharedT) : ob s = hk.obs s.abs := obsB_eq (HandSHeadRun.getT_eq s)
def loose : List Str := (["SkinError", "NoHalf", "NoRim", "Unlike", "TooMany", "NoPlain", "NoMarks", "NothingLeft", "Unfit", "NoText", "NoRow", "NoSkin", "Harm", "_law_bag", "_law_take", "_law_kinds"] : List Str)
theorem run (w : World) : HandSHeadRun.RunEq Rw (PySem.W.view Rw.prog [18]) hk ob 100000 loose w := by
  intro os
  kernel_rfl
end K52
set_option Elab.async false
set_option linter.all false
set_option maxRecDepth 100000
set_option autoImplicit false
namespace DL
open PySem L2
abbrev LV (kvs : List (Leaf × V)) (vs : List (Leaf × Value)) : Prop := Paired (fun (p : Leaf × V) (q : Leaf × Value) => p.1 = q.1 ∧ RelV p.2 q.2) kvs vs
/-- such a dict as a thing that is held -/
def hoLf (a : Addr) (kvs : List (Leaf × V)) : HO := .ext fun h => kvs.length ≤ sizeLine ∧ (a == sysModules) = false ∧ ∃ vs, LV kvs vs ∧ ∀ P w, h.DictOf (leafKind P w) a vs
def valLf (kvs : List (Leaf × V)) (k : Leaf) : Option V := (kvs.find? fun kv => kv.1 = k).map (·.2)
theorem LV.val {kvs : List (Leaf × V)} {vs : List (Leaf × Value)} (h : LV kvs vs) (k : Leaf) : RelO (valLf kvs k) (valueAt vs k) := by
  induction h with
  | nil => exact True.intro
  | @cons p q l1 l2 r t ih =>
    unfold valLf valueAt at ih ⊢
    rw [List.find?_cons, List.find?_cons, r.1]
    by_cases c : q.1 = k
    · simp only [c, decide_true]
      exact r.2
    · simp only [c, decide_false]
      exact ih
end DL
set_option Elab.async false
set_option linter.all false
set_option maxRecDepth 100000
set_option autoImplicit false
set_option maxHeartbeats 4000000
namespace DL
open PySem L2 PySem.Spec PyProof.Rows
/-- an entry: the pair, where its tuple stands, what it holds -/
abbrev QE := (Int × Int) × Addr × Int
def qK (k : Int × Int) : List Key := [.inl k.1, .inl k.2]
theorem qK_inj {a b : Int × Int} (h : qK a = qK b) : a = b := by
  unfold qK at h
  simp only [List.cons.injEq, Sum.inl.injEq, and_true] at h
  exact Prod.ext h.1 h.2
abbrev QV (xs : List QE) (vs : List (List Key × Addr × Value)) : Prop := Paired (fun (p : QE) (q : List Key × Addr × Value) => q.1 = qK p.1 ∧ q.2.1 = p.2.1 ∧ RelV (.int p.2.2) q.2.2) xs vs
def RawQ (h : Heap) (a : Addr) (xs : List QE) : Prop := xs.length ≤ sizeLine ∧ (a == sysModules) = false ∧ ∃ vs, QV xs vs ∧ ∃ o es ep, h.get? a = some o ∧ o.ExactDict ∧ o.data = .dict es ep ∧ (∀ (P : Program) (w : World), es.toList = vs.map (entryOfKey (tupleKind (mixKind P w)))) ∧ (vs.map (·.1)).Nodup
def hoQ (a : Addr) (xs : List QE) : HO := .ext fun h => RawQ h a xs
def valQ (xs : List QE) (k : Int × Int) : Option Int := (xs.find? fun x => decide (x.1 = k)).map (·.2.2)
def putQ (xs : List QE) (k : Int × Int) (b : Addr) (v : Int) : List QE := if (valQ xs k).isSome then xs.map (fun x => if x.1 = k then (x.1, x.2.1, v) else x) else xs ++ [(k, b, v)]
theorem QV.val {xs : List QE} {vs : List (List Key × Addr × Value)} (r : QV xs vs) (k : Int × Int) : RelO ((valQ xs k).map V.int) ((atKey vs (qK k)).map (·.2)) := by
  induction r with
  | nil => exact True.intro
  | @cons p q ps qs h t ih =>
    obtain ⟨h1, _, h2⟩ := h
    unfold valQ atKey at ih ⊢
    rw [List.find?_cons, List.find?_cons]
    by_cases e : p.1 = k
    · have e' : q.1 = qK k := by rw [h1, e]
      simp only [e, e', decide_true, Option.map_some]
      exact h2
    · have e' : ¬ q.1 = qK k := fun z => e (qK_inj (h1.symm.trans z))
      simp only [e, e', decide_false]
      exact ih
theorem QV.put {xs : List QE} {vs : List (List Key × Addr × Value)} (r : QV xs vs) (k : Int × Int) {b : Addr} {v : Int} {u : Value} (rv : RelV (.int v) u) : QV (putQ xs k b v) (storedH vs (qK k) b u) := by
  have e : (valQ xs k).isSome = (atKey vs (qK k)).isSome := by
    have := (r.val k).isSome_eq
    rwa [Option.isSome_map, Option.isSome_map] at this
  unfold putQ storedH
  rw [e]
  by_cases q : (atKey vs (qK k)).isSome = true
  · rw [if_pos q, if_pos q]
    clear q e
    induction r with
    | nil => exact .nil
    | @cons p q ps qs h t ih =>
      rw [List.map_cons, List.map_cons]
      refine .cons ?_ ih
      obtain ⟨h1, h2, h3⟩ := h
      unfold putAt
      by_cases e : p.1 = k
      · rw [if_pos e, if_pos (by rw [h1, e])]; exact ⟨h1, h2, rv⟩
      · rw [if_neg e, if_neg (fun z => e (qK_inj (h1.symm.trans z)))]; exact ⟨h1, h2, h3⟩
  · rw [if_neg q, if_neg q]; exact Paired.snoc r ⟨rfl, rfl, rv⟩
theorem putQ_mem {xs : List QE} {k : Int × Int} {b : Addr} {v : Int} {x : QE} (h : x ∈ putQ xs k b v) : (∃ y, y ∈ xs ∧ y.1 = x.1 ∧ y.2.1 = x.2.1) ∨ (x.1 = k ∧ x.2.1 = b) := by
  unfold putQ at h
  by_cases q : (valQ xs k).isSome = true
  · rw [if_pos q] at h
    obtain ⟨y, hy, rfl⟩ := List.mem_map.1 h
    refine .inl ⟨y, hy, ?_⟩
    by_cases e : y.1 = k
    · rw [if_pos e]; exact ⟨rfl, rfl⟩
    · rw [if_neg e]; exact ⟨rfl, rfl⟩
  · rw [if_neg q] at h
    rcases List.mem_append.1 h with h | h
    · exact .inl ⟨x, h, rfl, rfl⟩
    · rw [List.mem_singleton] at h
      subst h
      exact .inr ⟨rfl, rfl⟩
section
variable {X : Cx} {pins : List (Addr × Obj)} {σ : L2.St} {H : Hp} {s : Shared} {a b : Addr} {u : Value} {A : Around} {E : Value → Shared → Prop} {xs : List QE} {k : Int × Int}
/-- the keys' tuples stand -/
def QKs (K : PySem.W.Frag) (H : Hp) (xs : List QE) : Prop := ∀ x, x ∈ xs → SqN K H x.2.1 [.int x.1.1, .int x.1.2]
theorem QKs.put {K : PySem.W.Frag} (h : QKs K H xs) (hb : SqN K H b [.int k.1, .int k.2]) (v : Int) : QKs K H (putQ xs k b v) := fun x hx => by
  rcases putQ_mem hx with ⟨y, hy, e1, e2⟩ | ⟨e1, e2⟩
  · rw [← e1, ← e2]; exact h y hy
  · rw [e1, e2]; exact hb
end
end DL
set_option Elab.async false
set_option linter.all false
set_option maxRecDepth 100000
set_option autoImplicit false
set_option maxHeartbeats 4000000
namespace DL
open PySem L2 PySem.Spec PyProof.Rows
mutual
/-- no text in it -/
def ntB : NestedKey → Bool
  | .none => true
  | .num _ => true
  | .text _ => false
  | .tup ks => ntA ks
def ntA : List NestedKey → Bool
  | [] => true
  | k :: ks => ntB k && ntA ks
end
def okK (k : NestedKey) : Bool := ntB k && decide (k.depth ≤ 8)
mutual
/-- the key stands at v -/
def NsV (K : PySem.W.Frag) (H : Hp) : NestedKey → V → Prop
  | .none, v => v = .non
  | .num i, v => v = .int i
  | .text _, _ => False
  | .tup ks, v => ∃ b vs, v = .ref b ∧ SqN K H b vs ∧ NsA K H ks vs
def NsA (K : PySem.W.Frag) (H : Hp) : List NestedKey → List V → Prop
  | [], [] => True
  | k :: ks, v :: vs => NsV K H k v ∧ NsA K H ks vs
  | _, _ => False
end
mutual
theorem NsV.upN {K : PySem.W.Frag} {H H' : Hp} (f : ∀ a xs, SqN K H a xs → SqN K H' a xs) : ∀ (k : NestedKey) (v : V), NsV K H k v → NsV K H' k v
  | .none, v, h => by simp only [NsV] at h ⊢; exact h
  | .num i, v, h => by simp only [NsV] at h ⊢; exact h
  | .text _, _, h => by simp only [NsV] at h
  | .tup ks, v, h => by
    simp only [NsV] at h ⊢
    obtain ⟨b, vs, e, s, q⟩ := h
    exact ⟨b, vs, e, f b vs s, NsA.upN f ks vs q⟩
theorem NsA.upN {K : PySem.W.Frag} {H H' : Hp} (f : ∀ a xs, SqN K H a xs → SqN K H' a xs) : ∀ (ks : List NestedKey) (vs : List V), NsA K H ks vs → NsA K H' ks vs
  | [], [], _ => by simp only [NsA]
  | k :: ks, v :: vs, h => by
    simp only [NsA] at h ⊢
    exact ⟨NsV.upN f k v h.1, NsA.upN f ks vs h.2⟩
  | [], _ :: _, h => by simp only [NsA] at h
  | _ :: _, [], h => by simp only [NsA] at h
end
/-- an entry: the key, where its tuple stands, what it holds -/
abbrev GE := NestedKey × Addr × Int
abbrev GV (xs : List GE) (vs : List (NestedKey × Addr × Value)) : Prop := Paired (fun (p : GE) (q : NestedKey × Addr × Value) => q.1 = p.1 ∧ q.2.1 = p.2.1 ∧ RelV (.int p.2.2) q.2.2) xs vs
def RawG (h : Heap) (a : Addr) (xs : List GE) : Prop := xs.length ≤ sizeLine ∧ (a == sysModules) = false ∧ (∀ x, x ∈ xs → okK x.1 = true) ∧ ∃ vs, GV xs vs ∧ ∃ o es ep, h.get? a = some o ∧ o.ExactDict ∧ o.data = .dict es ep ∧ (∀ (P : Program) (w : World), es.toList = vs.map (entryOfKey (nestedKind P w))) ∧ (vs.map (·.1)).Nodup
def hoG (a : Addr) (xs : List GE) : HO := .ext fun h => RawG h a xs
def valG (xs : List GE) (k : NestedKey) : Option Int := (xs.find? fun x => decide (x.1 = k)).map (·.2.2)
def putG (xs : List GE) (k : NestedKey) (b : Addr) (v : Int) : List GE := if (valG xs k).isSome then xs.map (fun x => if x.1 = k then (x.1, x.2.1, v) else x) else xs ++ [(k, b, v)]
theorem GV.val {xs : List GE} {vs : List (NestedKey × Addr × Value)} (r : GV xs vs) (k : NestedKey) : RelO ((valG xs k).map V.int) ((atKey vs k).map (·.2)) := by
  induction r with
  | nil => exact True.intro
  | @cons p q ps qs h t ih =>
    obtain ⟨h1, _, h2⟩ := h
    unfold valG atKey at ih ⊢
    rw [List.find?_cons, List.find?_cons]
    by_cases e : p.1 = k
    · have e' : q.1 = k := by rw [h1, e]
      simp only [e, e', decide_true, Option.map_some]
      exact h2
    · have e' : ¬ q.1 = k := fun z => e (h1.symm.trans z)
      simp only [e, e', decide_false]
      exact ih
theorem GV.put {xs : List GE} {vs : List (NestedKey × Addr × Value)} (r : GV xs vs) (k : NestedKey) {b : Addr} {v : Int} {u : Value} (rv : RelV (.int v) u) : GV (putG xs k b v) (storedH vs k b u) := by
  have e : (valG xs k).isSome = (atKey vs k).isSome := by
    have := (r.val k).isSome_eq
    rwa [Option.isSome_map, Option.isSome_map] at this
  unfold putG storedH
  rw [e]
  by_cases q : (atKey vs k).isSome = true
  · rw [if_pos q, if_pos q]
    clear q e
    induction r with
    | nil => exact .nil
    | @cons p q ps qs h t ih =>
      rw [List.map_cons, List.map_cons]
      refine .cons ?_ ih
      obtain ⟨h1, h2, h3⟩ := h
      unfold putAt
      by_cases e : p.1 = k
      · rw [if_pos e, if_pos (by rw [h1, e])]; exact ⟨h1, h2, rv⟩
      · rw [if_neg e, if_neg (fun z => e (h1.symm.trans z))]; exact ⟨h1, h2, h3⟩
  · rw [if_neg q, if_neg q]; exact Paired.snoc r ⟨rfl, rfl, rv⟩
theorem putG_mem {xs : List GE} {k : NestedKey} {b : Addr} {v : Int} {x : GE} (h : x ∈ putG xs k b v) : (∃ y, y ∈ xs ∧ y.1 = x.1 ∧ y.2.1 = x.2.1) ∨ (x.1 = k ∧ x.2.1 = b) := by
  unfold putG at h
  by_cases q : (valG xs k).isSome = true
  · rw [if_pos q] at h
    obtain ⟨y, hy, rfl⟩ := List.mem_map.1 h
    refine .inl ⟨y, hy, ?_⟩
    by_cases e : y.1 = k
    · rw [if_pos e]; exact ⟨rfl, rfl⟩
    · rw [if_neg e]; exact ⟨rfl, rfl⟩
  · rw [if_neg q] at h
    rcases List.mem_append.1 h with h | h
    · exact .inl ⟨x, h, rfl, rfl⟩
    · rw [List.mem_singleton] at h
      subst h
      exact .inr ⟨rfl, rfl⟩
section
variable {X : Cx} {pins : List (Addr × Obj)} {σ : L2.St} {H : Hp} {s : Shared} {a b : Addr} {u : Value} {A : Around} {E : Value → Shared → Prop} {xs : List GE} {k : NestedKey}
/-- the keys' tuples stand -/
def GKs (K : PySem.W.Frag) (H : Hp) (xs : List GE) : Prop := ∀ x, x ∈ xs → NsV K H x.1 (.ref x.2.1)
theorem GKs.put {K : PySem.W.Frag} (h : GKs K H xs) (hb : NsV K H k (.ref b)) (v : Int) : GKs K H (putG xs k b v) := fun x hx => by
  rcases putG_mem hx with ⟨y, hy, e1, e2⟩ | ⟨e1, e2⟩
  · rw [← e1, ← e2]; exact h y hy
  · rw [e1, e2]; exact hb
end
end DL
set_option Elab.async false
set_option linter.all false
set_option maxRecDepth 100000
set_option autoImplicit false
namespace DL
open PySem L2
abbrev D := PyData
/-- a whole number or None -/
def oiV : Option Int → V
  | none => .non
  | some i => .int i
abbrev LO := List (Leaf × Option Int)
def oV (kvs : LO) : List (Leaf × V) := kvs.map fun kv => (kv.1, oiV kv.2)
/-- a thing of the def's own that is changed in place, with what it holds: data that stands still; a dict with None among its keys; a list; a dict with texts as keys; an object of an own class; anything at all, none of it one's own -/
inductive Tr where
  | d (x : D)
  | n (kvs : LO)
  | l (xs : List Tr)
  | k (kvs : List (Str × Tr))
  | o (c : Str) (fs : List (Str × Tr))
  | w
  | q (kvs : List ((Int × Int) × Int))
  | f (kvs : List (NestedKey × Int))
/-- what a slot holds: nothing known, data that stands still, a list of the def's own that is changed in place, a parameter's list that is changed in place, a dict of the def's own, a dict with None among its keys that stands, a def, an exception, a thing of its own (or a parameter's) that is changed in place -/
inductive Sl where
  | no
  | v (d : D)
  | l (xs : List D)
  | p (xs : List D)
  | m (kvs : List (D × D))
  | n (kvs : List (Leaf × Option Int))
  | f (x : Str)
  | a (b : Addr) (d : Option Addr) (f : Option (Str × PyData))
  | t (x : Tr)
  | u (x : Tr)
abbrev DEnv := List Sl
def Sl.own : Sl → Bool
  | .l _ => true
  | .p _ => true
  | .m _ => true
  | .t _ => true
  | .u _ => true
  | _ => false
/-- owns one thing -/
def Sl.lst : Sl → Bool
  | .l _ => true
  | .p _ => true
  | .m _ => true
  | _ => false
/-- a parameter that is changed -/
def Sl.pk : Sl → Nat
  | .p _ => 1
  | .u _ => 2
  | _ => 0
/-- an exception: its class's name, its field with its value -/
structure Xc where
  c : Str
  f : Option (Str × D)
inductive Rs (α : Type) where
  | ok (a : α) (env : DEnv)
  | ex (x : Xc) (env : DEnv)
  | stuck
abbrev DE := DEnv → Rs D
abbrev DT := DEnv → Rs Bool
abbrev DA := DEnv → Rs (List D)
def Rs.bind {α β : Type} (r : Rs α) (f : α → DEnv → Rs β) : Rs β := match r with
  | .ok a env => f a env
  | .ex x env => .ex x env
  | .stuck => .stuck
theorem bind_ok {α β : Type} (a : α) (env : DEnv) (f : α → DEnv → Rs β) : (Rs.ok a env).bind f = f a env := rfl
/-- an answer that may lack, in place -/
def put {α : Type} (o : Option α) (env : DEnv) : Rs α := match o with
  | some a => .ok a env
  | none => .stuck
structure I62 (i : Int) : Prop where
  lo : -(2 ^ 62) ≤ i
  hi : i < 2 ^ 62
noncomputable instance (i : Int) : Decidable (I62 i) := Classical.propDecidable _
theorem i62_of {i : Int} (h : -1000000 ≤ i) (h2 : i ≤ 1000000) : I62 i := ⟨by omega, by omega⟩
def Ex (G H : Hp) : Prop := ∀ a o, G a = some o → H a = some o
theorem Ex.refl (H : Hp) : Ex H H := fun _ _ h => h
theorem Ex.trans {H H1 H2 : Hp} (a : Ex H H1) (b : Ex H1 H2) : Ex H H2 := fun x o h => b x o (a x o h)
theorem Ex.new {H : Hp} {p : Addr} {o : HO} (h : H p = none) : Ex H (upd H p o) := fun a u e => by
  rw [upd_ne (ne_of_none e h)]; exact e
theorem Ex.none {G H : Hp} {a : Addr} (e : Ex G H) (h : H a = none) : G a = none := by
  cases q : G a with
  | none => rfl
  | some o => rw [e a o q] at h; cases h
theorem Ex.both {G H : Hp} {p : Addr} {o : HO} (e : Ex G H) : Ex (upd G p o) (upd H p o) := fun a u h => by
  by_cases hp : a = p
  · subst hp; rw [upd_same] at h ⊢; exact h
  · rw [upd_ne hp] at h ⊢; exact e a u h
theorem Ex.rd {H H' : Hp} {a : Addr} {u : HO} (e : Ex H H') (h : Rd H a u) : Rd H' a u := by
  rcases h with h | ⟨o, h⟩
  · exact Or.inl (e a _ h)
  · exact Or.inr ⟨o, e a _ h⟩
theorem Ex.l {K : PySem.W.Frag} {H H' : Hp} {a : Addr} {xs : List V} (e : Ex H H') (h : SqL K H a xs) : SqL K H' a xs := by
  rcases h with h | h
  · exact Or.inl (e.rd h)
  · exact Or.inr h
theorem Ex.n {K : PySem.W.Frag} {H H' : Hp} {a : Addr} {xs : List V} (e : Ex H H') (h : SqN K H a xs) : SqN K H' a xs := by
  rcases h with ⟨o, h, hd⟩ | h
  · exact .inl ⟨o, e _ _ h, hd⟩
  · exact .inr h
theorem Ex.t {K : PySem.W.Frag} {H H' : Hp} {a : Addr} {xs : List V} (e : Ex H H') (h : SqT K H a xs) : SqT K H' a xs := by
  rcases h with h | h
  · exact Or.inl (e.rd h)
  · exact Or.inr h
/-- a list to be read: tracked, known (the script), or written at the top just so -/
def RL (K : PySem.W.Frag) (G : Hp) (a : Addr) (xs : List V) : Prop := Rd G a (.lst xs) ∨ ∃ (its : Array Value) (n : Nat), K.lookup a = some { cls := .type "list", data := .seq its n } ∧ its.size ≤ sizeLine ∧ Vals xs its.toList
theorem Ex.rl {K : PySem.W.Frag} {G G' : Hp} {a : Addr} {xs : List V} (e : Ex G G') (h : RL K G a xs) : RL K G' a xs := by
  rcases h with h | h
  · exact .inl (e.rd h)
  · exact .inr h
theorem RL.sq {K : PySem.W.Frag} {G : Hp} {a : Addr} {xs : List V} (h : RL K G a xs) : SqL K G a xs := by
  rcases h with h | ⟨its, n, h1, h2, h3⟩
  · exact .inl h
  · exact .inr ⟨_, its, n, h1, rfl, rfl, rfl, h2, h3⟩
theorem RL.of {K : PySem.W.Frag} {G : Hp} {a : Addr} {xs : List V} (h : G a = some (.lst xs)) : RL K G a xs := .inl (.inl h)
/-- a key as data -/
def kD : Key → D
  | .inl i => .int i
  | .inr x => .str x
structure ExI (K : PySem.W.Frag) (C : Addr) : Prop where
  cl : (PySem.W.clsIn K C).isSome = true
  ga : PySem.W.findIn K (.ref C) "__getattribute__" = some (some (.builtin "BaseException.__getattribute__"))
  gt : PySem.W.findIn K (.ref C) "__getattr__" = some none
  sb : PySem.W.subIn K (.ref C) (.type "BaseException") = some true
  ca : PySem.W.findIn K (.ref C) "__class__" = some (some (.builtin "object.__class__"))
  gn : PySem.W.specialIn K (.builtin "object.__class__") "__get__" = some (some (.builtin "getset_descriptor.__get__"))
  tk : PySem.W.takesIn K (.builtin "object.__class__") = some true
  mr : PySem.W.mroIn K C (.type "object") = some true
/-- types of Python's own that none of them is of -/
def isTs : List String := ["int", "bool", "str", "tuple", "list"]
structure ExK (K : PySem.W.Frag) (C : Addr) : Prop where
  i : ExI K C
  no : ∀ T, T ∈ isTs → PySem.W.kitOne K (.ref C) (.type T) = some false
def xkV : Key → V
  | .inl i => .int i
  | .inr x => .str x
/-- an exception of the class at C stands at a, its field with its value -/
def XO (G : Hp) (a C : Addr) : Option (Str × Key) → Prop
  | none => G a = some (ExO (.ref C) a)
  | some (n, k) => ∃ dx, G a = some (exo a C (some dx)) ∧ G dx = some (exd dx [(n, xkV k)])
theorem XO.up {G H : Hp} {a C : Addr} {f : Option (Str × Key)} (h : XO G a C f) (e : Ex G H) : XO H a C f := by
  cases f with
  | none => exact e _ _ h
  | some p => obtain ⟨dx, h1, h2⟩ := h; exact ⟨dx, e _ _ h1, e _ _ h2⟩
def xfD : Option (Str × Key) → List D
  | none => []
  | some (n, k) => [.str n, kD k]
def excD (c : Str) (f : Option (Str × Key)) : D := .dict [(.none, .tuple (.str c :: xfD f))]
mutual
/-- data that stands still, by a value: lists are tracked ones (or the script), tuples may be written ones -/
inductive Dv (K : PySem.W.Frag) (G : Hp) : V → PyData → Prop
  | non : Dv K G .non .none
  | bl (b : Bool) : Dv K G (.bl b) (.bool b)
  | int (i : Int) : Dv K G (.int i) (.int i)
  | str (x : Str) : Dv K G (.str x) (.str x)
  | lst {a : Addr} {xs : List V} {ds : List PyData} : RL K G a xs → DvAll K G xs ds → Dv K G (.ref a) (.list ds)
  | tup {a : Addr} {xs : List V} {ds : List PyData} : SqN K G a xs → DvAll K G xs ds → Dv K G (.ref a) (.tuple ds)
  | dct {a : Addr} {xs : List (Key × V)} {ds : List (PyData × PyData)} : Rd G a (.dK xs) → DvKv K G xs ds → Dv K G (.ref a) (.dict ds)
  | exc {a : Addr} {c : Str} {f : Option (Str × Key)} : ExK K (He.ga K c) → XO G a (He.ga K c) f → Dv K G (.ref a) (.dict [(.none, .tuple (.str c :: xfD f))])
inductive DvKv (K : PySem.W.Frag) (G : Hp) : List (Key × V) → List (PyData × PyData) → Prop
  | nil : DvKv K G [] []
  | cons {k : Key} {v : V} {d : D} {xs : List (Key × V)} {ys : List (D × D)} : Dv K G v d → DvKv K G xs ys → DvKv K G ((k, v) :: xs) ((kD k, d) :: ys)
inductive DvAll (K : PySem.W.Frag) (G : Hp) : List V → List PyData → Prop
  | nil : DvAll K G [] []
  | cons {v : V} {vs : List V} {d : PyData} {ds : List PyData} : Dv K G v d → DvAll K G vs ds → DvAll K G (v :: vs) (d :: ds)
end
mutual
theorem Dv.mono {K : PySem.W.Frag} {G G' : Hp} (e : Ex G G') : ∀ (d : D) (v : V), Dv K G v d → Dv K G' v d
  | .none, _, h => by cases h; exact .non
  | .bool b, _, h => by cases h; exact .bl b
  | .int i, _, h => by cases h; exact .int i
  | .str x, _, h => by cases h; exact .str x
  | .list ds, _, h => by
    cases h with
    | lst a b => exact .lst (e.rl a) (Dv.monoAll e ds _ b)
  | .tuple ds, _, h => by
    cases h with
    | tup a b => exact .tup (e.n a) (Dv.monoAll e ds _ b)
  | .dict ds, _, h => by
    cases h with
    | dct a b => exact .dct (e.rd a) (Dv.monoKv e ds _ b)
    | exc a b => exact .exc a (b.up e)
theorem Dv.monoKv {K : PySem.W.Frag} {G G' : Hp} (e : Ex G G') : ∀ (ds : List (D × D)) (vs : List (Key × V)), DvKv K G vs ds → DvKv K G' vs ds
  | [], _, h => by cases h; exact .nil
  | (_, d) :: ds, _, h => by
    cases h with
    | cons a b => exact .cons (Dv.mono e d _ a) (Dv.monoKv e ds _ b)
theorem Dv.monoAll {K : PySem.W.Frag} {G G' : Hp} (e : Ex G G') : ∀ (ds : List D) (vs : List V), DvAll K G vs ds → DvAll K G' vs ds
  | [], _, h => by cases h; exact .nil
  | d :: ds, _, h => by
    cases h with
    | cons a b => exact .cons (Dv.mono e d _ a) (Dv.monoAll e ds _ b)
end
theorem Dv.up {K : PySem.W.Frag} {G G' : Hp} {d : D} {v : V} (h : Dv K G v d) (e : Ex G G') : Dv K G' v d := Dv.mono e d v h
theorem DvKv.up {K : PySem.W.Frag} {G G' : Hp} {d : List (D × D)} {v : List (Key × V)} (h : DvKv K G v d) (e : Ex G G') : DvKv K G' v d := Dv.monoKv e d v h
theorem DvAll.up {K : PySem.W.Frag} {G G' : Hp} {d : List D} {v : List V} (h : DvAll K G v d) (e : Ex G G') : DvAll K G' v d := Dv.monoAll e d v h
section
variable {K : PySem.W.Frag} {G : Hp}
theorem DvAll.length : ∀ {vs : List V} {ds : List D}, DvAll K G vs ds → vs.length = ds.length
  | _, _, .nil => rfl
  | _, _, .cons _ t => by rw [List.length_cons, List.length_cons, DvAll.length t]
theorem DvAll.get : ∀ {vs : List V} {ds : List D} {i : Nat} {d : D}, DvAll K G vs ds → ds[i]? = some d → ∃ v, vs[i]? = some v ∧ Dv K G v d
  | _, _, _, _, .nil, e => by simp at e
  | _, _, 0, _, .cons r _, e => by simp at e; subst e; exact ⟨_, rfl, r⟩
  | _, _, i + 1, d, .cons _ t, e => by
    obtain ⟨u, h1, h2⟩ := DvAll.get (i := i) (d := d) t (by simpa using e)
    exact ⟨u, by simpa using h1, h2⟩
theorem DvAll.append : ∀ {xs ys : List V} {us ws : List D}, DvAll K G xs us → DvAll K G ys ws → DvAll K G (xs ++ ys) (us ++ ws)
  | _, _, _, _, .nil, s => s
  | _, _, _, _, .cons r t, s => .cons r (DvAll.append t s)
theorem DvAll.take : ∀ {xs : List V} {us : List D} (n : Nat), DvAll K G xs us → DvAll K G (xs.take n) (us.take n)
  | _, _, 0, _ => .nil
  | _, _, _ + 1, .nil => .nil
  | _, _, n + 1, .cons r t => .cons r (DvAll.take n t)
theorem DvAll.drop : ∀ {xs : List V} {us : List D} (n : Nat), DvAll K G xs us → DvAll K G (xs.drop n) (us.drop n)
  | _, _, 0, r => r
  | _, _, _ + 1, .nil => .nil
  | _, _, n + 1, .cons _ t => DvAll.drop n t
theorem DvAll.set {x : V} {u : D} (r : Dv K G x u) : ∀ {xs : List V} {us : List D} (i : Nat), DvAll K G xs us → DvAll K G (xs.set i x) (us.set i u)
  | _, _, _, .nil => .nil
  | _, _, 0, .cons _ t => .cons r t
  | _, _, i + 1, .cons q t => .cons q (DvAll.set r i t)
theorem DvAll.eraseIdx : ∀ {xs : List V} {us : List D} (i : Nat), DvAll K G xs us → DvAll K G (xs.eraseIdx i) (us.eraseIdx i)
  | _, _, _, .nil => .nil
  | _, _, 0, .cons _ t => t
  | _, _, i + 1, .cons q t => .cons q (DvAll.eraseIdx i t)
theorem DvAll.one {v : V} {d : D} (h : Dv K G v d) : DvAll K G [v] [d] := .cons h .nil
theorem DvAll.inv1 {vs : List V} {d : D} (h : DvAll K G vs [d]) : ∃ v, vs = [v] ∧ Dv K G v d := by
  cases h with
  | cons a b => cases b; exact ⟨_, rfl, a⟩
theorem DvAll.of_ints : ∀ (ns : List Int), DvAll K G (ns.map V.int) (ns.map PyData.int)
  | [] => .nil
  | n :: ns => .cons (.int n) (DvAll.of_ints ns)
end
mutual
theorem Dv.dp {K : PySem.W.Frag} {G H : Hp} (e : Ex G H) : ∀ (d : D) (v : V), d.canLay0 = true → Dv K G v d → Dp K H v d
  | .none, _, _, h => by cases h; exact .non
  | .bool b, _, _, h => by cases h; exact .bl b
  | .int i, _, _, h => by cases h; exact .int i
  | .str x, _, _, h => by cases h; exact .str x
  | .list ds, _, c, h => by
    cases h with
    | lst a b => exact .lst (e.rl a).sq (Dv.dpAll e ds _ (by simpa [PyData.canLay0] using c) b)
  | .tuple ds, _, c, h => by
    cases h with
    | tup a b => exact .tup (e.n a).t (Dv.dpAll e ds _ (by simpa [PyData.canLay0] using c) b)
  | .dict _, _, c, _ => by simp [PyData.canLay0] at c
theorem Dv.dpAll {K : PySem.W.Frag} {G H : Hp} (e : Ex G H) : ∀ (ds : List D) (vs : List V), PyData.canLayAll0 ds = true → DvAll K G vs ds → DpAll K H vs ds
  | [], _, _, h => by cases h; exact .nil
  | d :: ds, _, c, h => by
    have c' : d.canLay0 = true ∧ PyData.canLayAll0 ds = true := by simpa [PyData.canLayAll0] using c
    cases h with
    | cons a b => exact .cons (Dv.dp e d _ c'.1 a) (Dv.dpAll e ds _ c'.2 b)
end
/-- an exception's field stands -/
def XD (K : PySem.W.Frag) (G : Hp) (d : Option Addr) (f : Option (Str × D)) : Prop := match f with
  | none => d = none
  | some (n, x) => ∃ a v, d = some a ∧ G a = some (.xd [(n, v)]) ∧ Dv K G v x
theorem XD.up {K : PySem.W.Frag} {G G' : Hp} {d : Option Addr} {f : Option (Str × D)} (h : XD K G d f) (e : Ex G G') : XD K G' d f := by
  cases f with
  | none => exact h
  | some p => obtain ⟨a, v, h1, h2, h3⟩ := h; exact ⟨a, v, h1, e _ _ h2, h3.up e⟩
def adr : V → List Addr
  | .ref a => [a]
  | _ => []
def lstOf (H : Hp) : V → List V
  | .ref a => match H a with
    | some (.lst vs) => vs
    | _ => []
  | _ => []
def dkOf (H : Hp) : V → List V
  | .ref a => match H a with
    | some (.dK kvs) => kvs.map (·.2)
    | _ => []
  | _ => []
def insOf (H : Hp) : V → List V
  | .ref a => match H a with
    | some (.ins _ _ fs) => fs.map (·.2)
    | _ => []
  | _ => []
def dxOf (H : Hp) : V → List Addr
  | .ref a => match H a with
    | some (.ins _ dx _) => [dx]
    | _ => []
  | _ => []
mutual
/-- the addresses that a thing takes up -/
def reach (H : Hp) : V → Tr → List Addr
  | _, .d _ => []
  | v, .n _ => adr v
  | v, .l xs => adr v ++ reachL H (lstOf H v) xs
  | v, .k kvs => adr v ++ reachK H (dkOf H v) kvs
  | v, .o _ fs => adr v ++ (dxOf H v ++ reachK H (insOf H v) fs)
  | _, .w => []
  | v, .q _ => adr v
  | v, .f _ => adr v
def reachL (H : Hp) : List V → List Tr → List Addr
  | v :: vs, t :: ts => reach H v t ++ reachL H vs ts
  | _, _ => []
def reachK (H : Hp) : List V → List (Str × Tr) → List Addr
  | v :: vs, (_, t) :: ts => reach H v t ++ reachK H vs ts
  | _, _ => []
end
mutual
/-- a thing stands at v -/
def TreeAt (K : PySem.W.Frag) (G H : Hp) : V → Tr → Prop
  | v, .d x => Dv K G v x
  | v, .n kvs => ∃ a, v = .ref a ∧ H a = some (hoLf a (oV kvs))
  | v, .l xs => ∃ a vs, v = .ref a ∧ H a = some (.lst vs) ∧ TreesAt K G H vs xs
  | v, .k kvs => ∃ a ws, v = .ref a ∧ H a = some (.dK ws) ∧ ws.map (·.1) = kvs.map (fun p => Sum.inr p.1) ∧ TreesK K G H (ws.map (·.2)) kvs
  | v, .o c fs => ∃ a dx ws, v = .ref a ∧ H a = some (.ins (He.ga K c) dx ws) ∧ H dx = some (.own a) ∧ ws.map (·.1) = fs.map (·.1) ∧ TreesK K G H (ws.map (·.2)) fs
  | _, .w => True
  | v, .q kvs => ∃ a xs, v = .ref a ∧ H a = some (hoQ a xs) ∧ QKs K G xs ∧ kvs = xs.map fun x => (x.1, x.2.2)
  | v, .f kvs => ∃ a xs, v = .ref a ∧ H a = some (hoG a xs) ∧ GKs K G xs ∧ kvs = xs.map fun x => (x.1, x.2.2)
def TreesAt (K : PySem.W.Frag) (G H : Hp) : List V → List Tr → Prop
  | [], [] => True
  | v :: vs, t :: ts => TreeAt K G H v t ∧ TreesAt K G H vs ts
  | _, _ => False
def TreesK (K : PySem.W.Frag) (G H : Hp) : List V → List (Str × Tr) → Prop
  | [], [] => True
  | v :: vs, (_, t) :: ts => TreeAt K G H v t ∧ TreesK K G H vs ts
  | _, _ => False
end
section
variable {K : PySem.W.Frag} {G H : Hp}
mutual
theorem tree_all : ∀ (t : Tr) (v : V), TreeAt K G H v t → ∀ a, a ∈ reach H v t → H a ≠ none
  | .w, v, h, a, ha => by simp [reach] at ha
  | .q kvs, v, h, a, ha => by
    simp only [TreeAt] at h
    obtain ⟨b, xs, rfl, hb, _⟩ := h
    simp only [reach, adr, List.mem_singleton] at ha
    subst ha
    rw [hb]; exact fun z => nomatch z
  | .f kvs, v, h, a, ha => by
    simp only [TreeAt] at h
    obtain ⟨b, xs, rfl, hb, _⟩ := h
    simp only [reach, adr, List.mem_singleton] at ha
    subst ha
    rw [hb]; exact fun z => nomatch z
  | .d x, v, h, a, ha => by simp [reach] at ha
  | .n kvs, v, h, a, ha => by
    simp only [TreeAt] at h
    obtain ⟨b, rfl, hb⟩ := h
    simp only [reach, adr, List.mem_singleton] at ha
    subst ha
    rw [hb]; exact fun z => nomatch z
  | .l xs, v, h, a, ha => by
    simp only [TreeAt] at h
    obtain ⟨b, vs, rfl, hb, ht⟩ := h
    simp only [reach, adr, lstOf, hb, List.mem_append, List.mem_singleton] at ha
    rcases ha with rfl | ha
    · rw [hb]; exact fun z => nomatch z
    · exact trees_all xs vs ht a ha
  | .k kvs, v, h, a, ha => by
    simp only [TreeAt] at h
    obtain ⟨b, ws, rfl, hb, _, ht⟩ := h
    simp only [reach, adr, dkOf, hb, List.mem_append, List.mem_singleton] at ha
    rcases ha with rfl | ha
    · rw [hb]; exact fun z => nomatch z
    · exact treesK_all kvs _ ht a ha
  | .o c fs, v, h, a, ha => by
    simp only [TreeAt] at h
    obtain ⟨b, dx, ws, rfl, hb, hd, _, ht⟩ := h
    simp only [reach, adr, insOf, dxOf, hb, List.mem_append, List.mem_singleton] at ha
    rcases ha with rfl | rfl | ha
    · rw [hb]; exact fun z => nomatch z
    · rw [hd]; exact fun z => nomatch z
    · exact treesK_all fs _ ht a ha
theorem trees_all : ∀ (ts : List Tr) (vs : List V), TreesAt K G H vs ts → ∀ a, a ∈ reachL H vs ts → H a ≠ none
  | [], [], _, a, ha => by simp [reachL] at ha
  | [], _ :: _, h, a, ha => by simp [reachL] at ha
  | _ :: _, [], h, a, ha => by simp [reachL] at ha
  | t :: ts, v :: vs, h, a, ha => by
    simp only [TreesAt] at h
    simp only [reachL, List.mem_append] at ha
    rcases ha with ha | ha
    · exact tree_all t v h.1 a ha
    · exact trees_all ts vs h.2 a ha
theorem treesK_all : ∀ (ts : List (Str × Tr)) (vs : List V), TreesK K G H vs ts → ∀ a, a ∈ reachK H vs ts → H a ≠ none
  | [], [], _, a, ha => by simp [reachK] at ha
  | [], _ :: _, h, a, ha => by simp [reachK] at ha
  | _ :: _, [], h, a, ha => by simp [reachK] at ha
  | (x, t) :: ts, v :: vs, h, a, ha => by
    simp only [TreesK] at h
    simp only [reachK, List.mem_append] at ha
    rcases ha with ha | ha
    · exact tree_all t v h.1 a ha
    · exact treesK_all ts vs h.2 a ha
end
variable {G' H' : Hp}
mutual
/-- where nothing of it is changed -/
theorem tree_keep (e : Ex G G') : ∀ (t : Tr) (v : V), TreeAt K G H v t → (∀ a, a ∈ reach H v t → H' a = H a) → TreeAt K G' H' v t ∧ reach H' v t = reach H v t
  | .w, v, h, _ => by simp only [TreeAt, reach, and_self]
  | .q kvs, v, h, k => by
    simp only [TreeAt] at h ⊢
    obtain ⟨b, xs, rfl, hb, hk, hx⟩ := h
    have := k b (by simp [reach, adr])
    exact ⟨⟨b, xs, rfl, by rw [this]; exact hb, fun x m => e.n (hk x m), hx⟩, by simp only [reach, adr]⟩
  | .f kvs, v, h, k => by
    simp only [TreeAt] at h ⊢
    obtain ⟨b, xs, rfl, hb, hk, hx⟩ := h
    have := k b (by simp [reach, adr])
    exact ⟨⟨b, xs, rfl, by rw [this]; exact hb, fun x m => (hk x m).upN fun _ _ h => e.n h, hx⟩, by simp only [reach, adr]⟩
  | .d x, v, h, _ => by
    simp only [TreeAt] at h ⊢
    exact ⟨h.up e, rfl⟩
  | .n kvs, v, h, k => by
    simp only [TreeAt] at h ⊢
    obtain ⟨b, rfl, hb⟩ := h
    have := k b (by simp [reach, adr])
    exact ⟨⟨b, rfl, by rw [this]; exact hb⟩, by simp only [reach, adr]⟩
  | .l xs, v, h, k => by
    simp only [TreeAt] at h ⊢
    obtain ⟨b, vs, rfl, hb, ht⟩ := h
    simp only [reach, adr, lstOf, hb, List.mem_append, List.mem_singleton] at k
    have kb := k b (.inl rfl)
    obtain ⟨h1, h2⟩ := trees_keep e xs vs ht fun a ha => k a (.inr ha)
    exact ⟨⟨b, vs, rfl, by rw [kb]; exact hb, h1⟩, by simp only [reach, adr, lstOf, kb, hb, h2]⟩
  | .k kvs, v, h, k => by
    simp only [TreeAt] at h ⊢
    obtain ⟨b, ws, rfl, hb, hk, ht⟩ := h
    simp only [reach, adr, dkOf, hb, List.mem_append, List.mem_singleton] at k
    have kb := k b (.inl rfl)
    obtain ⟨h1, h2⟩ := treesK_keep e kvs _ ht fun a ha => k a (.inr ha)
    exact ⟨⟨b, ws, rfl, by rw [kb]; exact hb, hk, h1⟩, by simp only [reach, adr, dkOf, kb, hb, h2]⟩
  | .o c fs, v, h, k => by
    simp only [TreeAt] at h ⊢
    obtain ⟨b, dx, ws, rfl, hb, hd, hk, ht⟩ := h
    simp only [reach, adr, insOf, dxOf, hb, List.mem_append, List.mem_singleton] at k
    have kb := k b (.inl rfl)
    have kd := k dx (.inr (.inl rfl))
    obtain ⟨h1, h2⟩ := treesK_keep e fs _ ht fun a ha => k a (.inr (.inr ha))
    exact ⟨⟨b, dx, ws, rfl, by rw [kb]; exact hb, by rw [kd]; exact hd, hk, h1⟩, by simp only [reach, adr, insOf, dxOf, kb, hb, h2]⟩
theorem trees_keep (e : Ex G G') : ∀ (ts : List Tr) (vs : List V), TreesAt K G H vs ts → (∀ a, a ∈ reachL H vs ts → H' a = H a) → TreesAt K G' H' vs ts ∧ reachL H' vs ts = reachL H vs ts
  | [], [], _, _ => by simp [TreesAt, reachL]
  | [], _ :: _, h, _ => by simp [TreesAt] at h
  | _ :: _, [], h, _ => by simp [TreesAt] at h
  | t :: ts, v :: vs, h, k => by
    simp only [TreesAt] at h ⊢
    simp only [reachL, List.mem_append] at k
    obtain ⟨a1, a2⟩ := tree_keep e t v h.1 fun a ha => k a (.inl ha)
    obtain ⟨b1, b2⟩ := trees_keep e ts vs h.2 fun a ha => k a (.inr ha)
    exact ⟨⟨a1, b1⟩, by simp only [reachL, a2, b2]⟩
theorem treesK_keep (e : Ex G G') : ∀ (ts : List (Str × Tr)) (vs : List V), TreesK K G H vs ts → (∀ a, a ∈ reachK H vs ts → H' a = H a) → TreesK K G' H' vs ts ∧ reachK H' vs ts = reachK H vs ts
  | [], [], _, _ => by simp [TreesK, reachK]
  | [], _ :: _, h, _ => by simp [TreesK] at h
  | _ :: _, [], h, _ => by simp [TreesK] at h
  | (x, t) :: ts, v :: vs, h, k => by
    simp only [TreesK] at h ⊢
    simp only [reachK, List.mem_append] at k
    obtain ⟨a1, a2⟩ := tree_keep e t v h.1 fun a ha => k a (.inl ha)
    obtain ⟨b1, b2⟩ := treesK_keep e ts vs h.2 fun a ha => k a (.inr ha)
    exact ⟨⟨a1, b1⟩, by simp only [reachK, a2, b2]⟩
end
end
/-- a thing of one's own stands at a slot's value -/
def TSl (K : PySem.W.Frag) (G H : Hp) (T : Tr) (o : Option V) : Prop := ∃ v, o = some v ∧ TreeAt K G H v T ∧ (reach H v T).Nodup ∧ ∀ a, a ∈ reach H v T → G a = none
/-- what a slot's word says of its value -/
def RS (K : PySem.W.Frag) (G H : Hp) (s : Sl) (o : Option V) : Prop := match s with
  | .no => True
  | .v d => ∃ v, o = some v ∧ Dv K G v d
  | .l xs => ∃ a vs, o = some (.ref a) ∧ H a = some (.lst vs) ∧ G a = none ∧ DvAll K G vs xs
  | .p xs => ∃ a vs, o = some (.ref a) ∧ H a = some (.lst vs) ∧ G a = none ∧ DvAll K G vs xs
  | .m kvs => ∃ a vs, o = some (.ref a) ∧ H a = some (.dK vs) ∧ G a = none ∧ DvKv K G vs kvs
  | .n kvs => ∃ a, o = some (.ref a) ∧ G a = some (hoLf a (kvs.map fun kv => (kv.1, oiV kv.2)))
  | .f x => o = some (.ref (He.ga K x))
  | .a b d f => o = some (.ref b) ∧ XD K G d f
  | .t T => TSl K G H T o
  | .u T => TSl K G H T o
/-- what a slot owns -/
def OwnS (H : Hp) (s : Sl) (o : Option V) (a : Addr) : Prop := match s with
  | .l _ => o = some (.ref a)
  | .p _ => o = some (.ref a)
  | .m _ => o = some (.ref a)
  | .t T => ∃ v, o = some v ∧ a ∈ reach H v T
  | .u T => ∃ v, o = some v ∧ a ∈ reach H v T
  | _ => False
/-- slot i owns the object at a -/
def OwnAt (env : DEnv) (σ : St) (H : Hp) (i : Nat) (a : Addr) : Prop := ∃ s o, env[i]? = some s ∧ σ[i]? = some o ∧ OwnS H s o a
def Own (env : DEnv) (σ : St) (H : Hp) (a : Addr) : Prop := ∃ i, OwnAt env σ H i a
theorem OwnS.lst {H : Hp} {s : Sl} {a : Addr} (h : s.lst = true) : OwnS H s (some (.ref a)) a := by cases s <;> first | rfl | cases h
theorem OwnS.own {H : Hp} {s : Sl} {o : Option V} {a : Addr} (h : OwnS H s o a) : s.own = true := by cases s <;> first | rfl | exact h.elim
theorem OwnAt.of {env : DEnv} {σ : St} {H : Hp} {i : Nat} {a : Addr} {s : Sl} (e : env[i]? = some s) (h : s.lst = true) (o : σ[i]? = some (some (.ref a))) : OwnAt env σ H i a := ⟨s, _, e, o, OwnS.lst h⟩
/-- a slot where nothing of its own is changed -/
theorem RS.move {K : PySem.W.Frag} {G H G' H' : Hp} {s : Sl} {o : Option V} (h : RS K G H s o) (e : Ex G G') (k : ∀ a, OwnS H s o a → H' a = H a) (g : ∀ a, OwnS H s o a → G' a = none) : RS K G' H' s o ∧ ∀ a, OwnS H' s o a ↔ OwnS H s o a := by
  cases s with
  | no => exact ⟨trivial, fun _ => Iff.rfl⟩
  | v d => obtain ⟨v, q, h⟩ := h; exact ⟨⟨v, q, h.up e⟩, fun _ => Iff.rfl⟩
  | l xs => obtain ⟨a, vs, q, h1, h2, h3⟩ := h; exact ⟨⟨a, vs, q, by rw [k a q]; exact h1, g a q, h3.up e⟩, fun _ => Iff.rfl⟩
  | p xs => obtain ⟨a, vs, q, h1, h2, h3⟩ := h; exact ⟨⟨a, vs, q, by rw [k a q]; exact h1, g a q, h3.up e⟩, fun _ => Iff.rfl⟩
  | m xs => obtain ⟨a, vs, q, h1, h2, h3⟩ := h; exact ⟨⟨a, vs, q, by rw [k a q]; exact h1, g a q, h3.up e⟩, fun _ => Iff.rfl⟩
  | n xs => obtain ⟨a, q, h1⟩ := h; exact ⟨⟨a, q, e _ _ h1⟩, fun _ => Iff.rfl⟩
  | f x => exact ⟨h, fun _ => Iff.rfl⟩
  | a x _ _ => exact ⟨⟨h.1, h.2.up e⟩, fun _ => Iff.rfl⟩
  | t T =>
    obtain ⟨v, rfl, h1, h2, h3⟩ := h
    obtain ⟨k1, k2⟩ := tree_keep (K := K) e T v h1 fun a ha => k a ⟨v, rfl, ha⟩
    refine ⟨⟨v, rfl, k1, by rw [k2]; exact h2, fun a ha => g a ⟨v, rfl, by rw [← k2]; exact ha⟩⟩, fun a => ?_⟩
    show (∃ w, some v = some w ∧ a ∈ reach H' w T) ↔ ∃ w, some v = some w ∧ a ∈ reach H w T
    constructor <;> (rintro ⟨w, q, hw⟩; cases q; exact ⟨v, rfl, by first | (rw [← k2]; exact hw) | (rw [k2]; exact hw)⟩)
  | u T =>
    obtain ⟨v, rfl, h1, h2, h3⟩ := h
    obtain ⟨k1, k2⟩ := tree_keep (K := K) e T v h1 fun a ha => k a ⟨v, rfl, ha⟩
    refine ⟨⟨v, rfl, k1, by rw [k2]; exact h2, fun a ha => g a ⟨v, rfl, by rw [← k2]; exact ha⟩⟩, fun a => ?_⟩
    show (∃ w, some v = some w ∧ a ∈ reach H' w T) ↔ ∃ w, some v = some w ∧ a ∈ reach H w T
    constructor <;> (rintro ⟨w, q, hw⟩; cases q; exact ⟨v, rfl, by first | (rw [← k2]; exact hw) | (rw [k2]; exact hw)⟩)
/-- what is owned is there -/
theorem RS.there {K : PySem.W.Frag} {G H : Hp} {s : Sl} {o : Option V} (h : RS K G H s o) {a : Addr} (w : OwnS H s o a) : H a ≠ none ∧ G a = none := by
  have one : ∀ {b : Addr} {u : HO}, o = some (.ref b) → H b = some u → G b = none → o = some (.ref a) → H a ≠ none ∧ G a = none := fun {b u} e1 e2 e3 e4 => by
    rw [e1] at e4
    cases e4
    exact ⟨fun z => (by rw [z] at e2; cases e2), e3⟩
  cases s with
  | no => exact w.elim
  | v d => exact w.elim
  | n d => exact w.elim
  | f d => exact w.elim
  | a _ _ _ => exact w.elim
  | l xs => obtain ⟨b, vs, e1, e2, e3, _⟩ := h; exact one e1 e2 e3 w
  | p xs => obtain ⟨b, vs, e1, e2, e3, _⟩ := h; exact one e1 e2 e3 w
  | m xs => obtain ⟨b, vs, e1, e2, e3, _⟩ := h; exact one e1 e2 e3 w
  | t T =>
    obtain ⟨v, rfl, h1, _, h3⟩ := h
    obtain ⟨v', q, w⟩ := w
    cases q
    exact ⟨tree_all T v h1 a w, h3 a w⟩
  | u T =>
    obtain ⟨v, rfl, h1, _, h3⟩ := h
    obtain ⟨v', q, w⟩ := w
    cases q
    exact ⟨tree_all T v h1 a w, h3 a w⟩
structure Rel (K : PySem.W.Frag) (env : DEnv) (σ : St) (G H : Hp) : Prop where
  ex : Ex G H
  len : env.length = σ.length
  slot : ∀ (i : Nat) (s : Sl) (o : Option V), env[i]? = some s → σ[i]? = some o → RS K G H s o
  dist : ∀ (i j : Nat) (a : Addr), OwnAt env σ H i a → OwnAt env σ H j a → i = j
structure Fr (env : DEnv) (σ : St) (G H : Hp) (env' : DEnv) (σ' : St) (G' H' : Hp) : Prop where
  gg : Ex G G'
  keep : ∀ a o, H a = some o → ¬ Own env σ H a → H' a = some o
  dom : ∀ a, H' a = none → H a = none
  fresh : ∀ a, G' a ≠ none → G a ≠ none ∨ H a = none ∨ Own env σ H a
  own : ∀ a, Own env' σ' H' a → Own env σ H a ∨ H a = none
  par : ∀ (i : Nat) (s : Sl), env'[i]? = some s → s.pk ≠ 0 → σ'[i]? = σ[i]? ∧ ∃ s0, env[i]? = some s0 ∧ s0.pk = s.pk
theorem Fr.refl (env : DEnv) (σ : St) (G H : Hp) : Fr env σ G H env σ G H :=
  ⟨Ex.refl _, fun _ _ h _ => h, fun _ h => h, fun _ h => .inl h, fun _ h => .inl h, fun _ s h _ => ⟨rfl, s, h, rfl⟩⟩
theorem Fr.trans {e0 e1 e2 : DEnv} {s0 s1 s2 : St} {G0 G1 G2 H0 H1 H2 : Hp} (x : Fr e0 s0 G0 H0 e1 s1 G1 H1) (y : Fr e1 s1 G1 H1 e2 s2 G2 H2) : Fr e0 s0 G0 H0 e2 s2 G2 H2 where
  gg := x.gg.trans y.gg
  keep := fun a o h n => y.keep a o (x.keep a o h n) fun q => by
    rcases x.own a q with q | q
    · exact n q
    · rw [q] at h; cases h
  dom := fun a h => x.dom a (y.dom a h)
  fresh := fun a h => by
    rcases y.fresh a h with q | q | q
    · exact x.fresh a q
    · exact .inr (.inl (x.dom a q))
    · rcases x.own a q with q | q
      · exact .inr (.inr q)
      · exact .inr (.inl q)
  own := fun a h => by
    rcases y.own a h with q | q
    · exact x.own a q
    · exact .inr (x.dom a q)
  par := fun i s h n => by
    obtain ⟨a, t, b, c⟩ := y.par i s h n
    obtain ⟨a2, t2, b2, c2⟩ := x.par i t b (by rw [c]; exact n)
    exact ⟨a.trans a2, t2, b2, c2.trans c⟩
theorem OwnAt.there {K : PySem.W.Frag} {env : DEnv} {σ : St} {G H : Hp} (R : Rel K env σ G H) {i : Nat} {a : Addr} (h : OwnAt env σ H i a) : H a ≠ none ∧ G a = none := by
  obtain ⟨s, o, e, q, w⟩ := h
  exact (R.slot i s o e q).there w
theorem Own.there {K : PySem.W.Frag} {env : DEnv} {σ : St} {G H : Hp} (R : Rel K env σ G H) {a : Addr} (h : Own env σ H a) : H a ≠ none ∧ G a = none := let ⟨_, q⟩ := h; q.there R
/-- what is owned stays owned where nothing of it is changed -/
theorem OwnAt.move {K : PySem.W.Frag} {env : DEnv} {σ : St} {G H G' H' : Hp} (R : Rel K env σ G H) {i : Nat} (e : Ex G G') (k : ∀ b, OwnAt env σ H i b → H' b = H b) (g : ∀ b, OwnAt env σ H i b → G' b = none) {a : Addr} : OwnAt env σ H' i a ↔ OwnAt env σ H i a := by
  constructor
  · rintro ⟨s, o, e1, e2, w⟩
    exact ⟨s, o, e1, e2, (((R.slot i s o e1 e2).move e (fun b hb => k b ⟨s, o, e1, e2, hb⟩) (fun b hb => g b ⟨s, o, e1, e2, hb⟩)).2 a).1 w⟩
  · rintro ⟨s, o, e1, e2, w⟩
    exact ⟨s, o, e1, e2, (((R.slot i s o e1 e2).move e (fun b hb => k b ⟨s, o, e1, e2, hb⟩) (fun b hb => g b ⟨s, o, e1, e2, hb⟩)).2 a).2 w⟩
/-- all slots stand where nothing of theirs is changed -/
theorem Rel.move {K : PySem.W.Frag} {env : DEnv} {σ : St} {G H G' H' : Hp} (R : Rel K env σ G H) (ex : Ex G' H') (e : Ex G G') (k : ∀ a, Own env σ H a → H' a = H a) (g : ∀ a, Own env σ H a → G' a = none) : Rel K env σ G' H' ∧ ∀ i a, OwnAt env σ H' i a ↔ OwnAt env σ H i a := by
  have m : ∀ i a, OwnAt env σ H' i a ↔ OwnAt env σ H i a := fun i a => OwnAt.move R e (fun b h => k b ⟨i, h⟩) fun b h => g b ⟨i, h⟩
  exact ⟨⟨ex, R.len, fun i s o e1 e2 => ((R.slot i s o e1 e2).move e (fun a w => k a ⟨i, s, o, e1, e2, w⟩) fun a w => g a ⟨i, s, o, e1, e2, w⟩).1, fun i j a x y => R.dist i j a ((m i a).1 x) ((m j a).1 y)⟩, m⟩
/-- only new things that stand still come -/
structure Grow (G H G' H' : Hp) : Prop where
  gg : Ex G G'
  hh : Ex H H'
  ex : Ex G' H'
  fresh : ∀ a, G' a ≠ none → G a ≠ none ∨ H a = none
theorem Grow.refl {G H : Hp} (e : Ex G H) : Grow G H G H := ⟨Ex.refl _, Ex.refl _, e, fun _ h => .inl h⟩
theorem Grow.one {G H : Hp} {p : Addr} {o : HO} (e : Ex G H) (h : H p = none) : Grow G H (upd G p o) (upd H p o) :=
  ⟨Ex.new (e.none h), Ex.new h, e.both, fun a q => by
    by_cases hp : a = p
    · subst hp; exact .inr h
    · rw [upd_ne hp] at q; exact .inl q⟩
theorem Grow.trans {G H G1 H1 G2 H2 : Hp} (a : Grow G H G1 H1) (b : Grow G1 H1 G2 H2) : Grow G H G2 H2 :=
  ⟨a.gg.trans b.gg, a.hh.trans b.hh, b.ex, fun x q => by
    rcases b.fresh x q with z | z
    · exact a.fresh x z
    · exact .inr (a.hh.none z)⟩
theorem Grow.nn {G H G' H' : Hp} (g : Grow G H G' H') {a : Addr} (h1 : H a ≠ none) (h2 : G a = none) : G' a = none := by
  cases q : G' a with
  | none => rfl
  | some z =>
    rcases g.fresh a (by rw [q]; exact fun z => by cases z) with y | y
    · exact absurd h2 y
    · exact absurd y h1
theorem Grow.hs {G H G' H' : Hp} (g : Grow G H G' H') {a : Addr} (h1 : H a ≠ none) : H' a = H a := by
  cases q : H a with
  | none => exact absurd q h1
  | some o => exact g.hh _ _ q
theorem RS.grow {K : PySem.W.Frag} {G H G' H' : Hp} (g : Grow G H G' H') {s : Sl} {o : Option V} (h : RS K G H s o) : RS K G' H' s o :=
  (h.move g.gg (fun a w => g.hs (h.there w).1) fun a w => g.nn (h.there w).1 (h.there w).2).1
theorem Rel.growO {K : PySem.W.Frag} {env : DEnv} {σ : St} {G H G' H' : Hp} (R : Rel K env σ G H) (g : Grow G H G' H') : Rel K env σ G' H' ∧ ∀ i a, OwnAt env σ H' i a ↔ OwnAt env σ H i a :=
  R.move g.ex g.gg (fun _ w => g.hs (w.there R).1) fun _ w => g.nn (w.there R).1 (w.there R).2
theorem Rel.grow {K : PySem.W.Frag} {env : DEnv} {σ : St} {G H G' H' : Hp} (R : Rel K env σ G H) (g : Grow G H G' H') : Rel K env σ G' H' := (R.growO g).1
theorem Grow.fr {K : PySem.W.Frag} {env : DEnv} {σ : St} {G H G' H' : Hp} (g : Grow G H G' H') (R : Rel K env σ G H) : Fr env σ G H env σ G' H' :=
  ⟨g.gg, fun a o h _ => g.hh a o h, fun a h => g.hh.none h, fun a h => (g.fresh a h).elim .inl fun z => .inr (.inl z), fun a h => .inl (let ⟨i, w⟩ := h; ⟨i, ((R.growO g).2 i a).1 w⟩), fun _ s h _ => ⟨rfl, s, h, rfl⟩⟩
/-- one slot is put otherwise -/
theorem Rel.put {K : PySem.W.Frag} {env : DEnv} {σ σ' : St} {G H G' H' : Hp} {i : Nat} {s1 : Sl} {o1 : Option V} (R : Rel K env σ G H) (li : i < env.length) (hl : σ'.length = σ.length) (hs : σ'[i]? = some o1) (hn : ∀ j, j ≠ i → σ'[j]? = σ[j]?) (ex : Ex G' H') (e : Ex G G')
    (k : ∀ j a, j ≠ i → OwnAt env σ H j a → H' a = H a ∧ G' a = none) (n : RS K G' H' s1 o1) (d : ∀ a, OwnS H' s1 o1 a → ∀ j, j ≠ i → ¬ OwnAt env σ H j a) :
    Rel K (env.set i s1) σ' G' H' ∧ (∀ a, OwnAt (env.set i s1) σ' H' i a ↔ OwnS H' s1 o1 a) ∧ ∀ j a, j ≠ i → (OwnAt (env.set i s1) σ' H' j a ↔ OwnAt env σ H j a) := by
  have m : ∀ a, OwnAt (env.set i s1) σ' H' i a ↔ OwnS H' s1 o1 a := fun a => by
    constructor
    · rintro ⟨s, o, e1, e2, w⟩
      rw [List.getElem?_set_self li] at e1
      rw [hs] at e2
      cases e1; cases e2
      exact w
    · exact fun w => ⟨_, _, List.getElem?_set_self li, hs, w⟩
  have m2 : ∀ j a, j ≠ i → (OwnAt (env.set i s1) σ' H' j a ↔ OwnAt env σ H j a) := fun j a ne => by
    rw [← OwnAt.move R (i := j) e (fun b h => (k j b ne h).1) (fun b h => (k j b ne h).2)]
    constructor
    · rintro ⟨s, o, e1, e2, w⟩
      rw [List.getElem?_set_ne (Ne.symm ne)] at e1
      rw [hn j ne] at e2
      exact ⟨s, o, e1, e2, w⟩
    · rintro ⟨s, o, e1, e2, w⟩
      exact ⟨s, o, by rw [List.getElem?_set_ne (Ne.symm ne)]; exact e1, by rw [hn j ne]; exact e2, w⟩
  refine ⟨⟨ex, by rw [List.length_set, hl]; exact R.len, fun j s o e1 e2 => ?_, fun j l a x y => ?_⟩, m, m2⟩
  · by_cases z : j = i
    · subst z
      rw [List.getElem?_set_self li] at e1
      rw [hs] at e2
      cases e1; cases e2
      exact n
    · rw [List.getElem?_set_ne (Ne.symm z)] at e1
      rw [hn j z] at e2
      exact ((R.slot j s o e1 e2).move e (fun a w => (k j a z ⟨s, o, e1, e2, w⟩).1) fun a w => (k j a z ⟨s, o, e1, e2, w⟩).2).1
  · by_cases z : j = i
    · subst z
      by_cases z2 : l = j
      · exact z2.symm
      · exact absurd ((m2 l a z2).1 y) (d a ((m a).1 x) l z2)
    · by_cases z2 : l = i
      · subst z2
        exact absurd ((m2 j a z).1 x) (d a ((m a).1 y) j z)
      · exact R.dist j l a ((m2 j a z).1 x) ((m2 l a z2).1 y)
theorem Fr.put {K : PySem.W.Frag} {env : DEnv} {σ σ' : St} {G H G' H' : Hp} {i : Nat} {s1 : Sl} {o1 : Option V} (R : Rel K env σ G H) (li : i < env.length) (hs : σ'[i]? = some o1) (hn : ∀ j, j ≠ i → σ'[j]? = σ[j]?) (e : Ex G G')
    (k : ∀ j a, j ≠ i → OwnAt env σ H j a → H' a = H a ∧ G' a = none) (keep : ∀ a o, H a = some o → ¬ Own env σ H a → H' a = some o) (dom : ∀ a, H' a = none → H a = none) (fresh : ∀ a, G' a ≠ none → G a ≠ none ∨ H a = none ∨ Own env σ H a)
    (own : ∀ a, OwnS H' s1 o1 a → Own env σ H a ∨ H a = none) (par : s1.pk ≠ 0 → σ'[i]? = σ[i]? ∧ ∃ s0, env[i]? = some s0 ∧ s0.pk = s1.pk) : Fr env σ G H (env.set i s1) σ' G' H' := by
  refine ⟨e, keep, dom, fresh, fun a ⟨j, w⟩ => ?_, fun j s h n => ?_⟩
  · obtain ⟨s, o, e1, e2, w⟩ := w
    by_cases z : j = i
    · subst z
      rw [List.getElem?_set_self li] at e1
      rw [hs] at e2
      cases e1; cases e2
      exact own a w
    · rw [List.getElem?_set_ne (Ne.symm z)] at e1
      rw [hn j z] at e2
      exact .inl ⟨j, (OwnAt.move R (i := j) e (fun b h => (k j b z h).1) (fun b h => (k j b z h).2)).1 ⟨s, o, e1, e2, w⟩⟩
  · by_cases z : j = i
    · subst z
      rw [List.getElem?_set_self li] at h
      cases h
      exact par n
    · rw [List.getElem?_set_ne (Ne.symm z)] at h
      exact ⟨hn j z, s, h, rfl⟩
/-- an exception by data -/
def XRel (K : PySem.W.Frag) (mg : Str → Option Value) (x : Xc) (cls : Value) (dd : Option Addr) (G H : Hp) : Prop :=
  mg x.c = some cls ∧ XD K G dd x.f
section
variable (K : PySem.W.Frag) (mg : Str → Option Value) (W : WX)
def RunX (env : DEnv) (σ : St) (G H : Hp) (x : Xc) (env' : DEnv) : Prop :=
  ∀ cls dd G' H', XRel K mg x cls dd G' H' → Rel K env' σ G' H' → Fr env σ G H env' σ G' H' → W cls dd σ H'
def RunE (env : DEnv) (σ : St) (G H : Hp) (r : Rs D) (Q : VK) : Prop := match r with
  | .ok d env' => ∀ v G' H', Rel K env' σ G' H' → Dv K G' v d → Fr env σ G H env' σ G' H' → Q v H'
  | .ex x env' => RunX K mg W env σ G H x env'
  | .stuck => False
def RunT (env : DEnv) (σ : St) (G H : Hp) (r : Rs Bool) (Q : Bool → Hp → Prop) : Prop := match r with
  | .ok b env' => ∀ G' H', Rel K env' σ G' H' → Fr env σ G H env' σ G' H' → Q b H'
  | .ex x env' => RunX K mg W env σ G H x env'
  | .stuck => False
def RunA (env : DEnv) (σ : St) (G H : Hp) (r : Rs (List D)) (Q : List V → Hp → Prop) : Prop := match r with
  | .ok ds env' => ∀ vs G' H', Rel K env' σ G' H' → DvAll K G' vs ds → Fr env σ G H env' σ G' H' → Q vs H'
  | .ex x env' => RunX K mg W env σ G H x env'
  | .stuck => False
/-- a list that nobody else holds -/
def RunL (env : DEnv) (σ : St) (G H : Hp) (r : Rs (List D)) (Q : VK) : Prop := match r with
  | .ok ds env' => ∀ a vs G' H', Rel K env' σ G' H' → H' a = some (.lst vs) → G' a = none → H a = none → ¬ Own env' σ H' a → DvAll K G' vs ds → Fr env σ G H env' σ G' H' → Q (.ref a) H'
  | .ex x env' => RunX K mg W env σ G H x env'
  | .stuck => False
def rdE (de : DE) : TE := fun σ H Q => ∃ env G, Rel K env σ G H ∧ RunE K mg W env σ G H (de env) Q
def rdT (de : DT) : TT := fun σ H Q => ∃ env G, Rel K env σ G H ∧ RunT K mg W env σ G H (de env) Q
def rdA (de : DA) : TA := fun σ H Q => ∃ env G, Rel K env σ G H ∧ RunA K mg W env σ G H (de env) Q
def rdL (de : DA) : TE := fun σ H Q => ∃ env G, Rel K env σ G H ∧ RunL K mg W env σ G H (de env) Q
end
section
variable {K : PySem.W.Frag} {mg : Str → Option Value} {W : WX} {env env1 : DEnv} {σ : St} {G H G1 H1 : Hp}
theorem RunX.shift {x : Xc} {env' : DEnv} (h : RunX K mg W env σ G H x env') (f : Fr env σ G H env1 σ G1 H1) : RunX K mg W env1 σ G1 H1 x env' :=
  fun cls dd G' H' a b c => h cls dd G' H' a b (f.trans c)
theorem RunE.shift {r : Rs D} {Q : VK} (h : RunE K mg W env σ G H r Q) (f : Fr env σ G H env1 σ G1 H1) : RunE K mg W env1 σ G1 H1 r Q := by
  cases r with
  | ok d e => exact fun v G' H' a b c => h v G' H' a b (f.trans c)
  | ex x e => exact RunX.shift h f
  | stuck => exact h
theorem RunT.shift {r : Rs Bool} {Q : Bool → Hp → Prop} (h : RunT K mg W env σ G H r Q) (f : Fr env σ G H env1 σ G1 H1) : RunT K mg W env1 σ G1 H1 r Q := by
  cases r with
  | ok d e => exact fun G' H' a c => h G' H' a (f.trans c)
  | ex x e => exact RunX.shift h f
  | stuck => exact h
theorem RunA.shift {r : Rs (List D)} {Q : List V → Hp → Prop} (h : RunA K mg W env σ G H r Q) (f : Fr env σ G H env1 σ G1 H1) : RunA K mg W env1 σ G1 H1 r Q := by
  cases r with
  | ok d e => exact fun v G' H' a b c => h v G' H' a b (f.trans c)
  | ex x e => exact RunX.shift h f
  | stuck => exact h
theorem RunL.shift {r : Rs (List D)} {Q : VK} (h : RunL K mg W env σ G H r Q) (f : Fr env σ G H env1 σ G1 H1) : RunL K mg W env1 σ G1 H1 r Q := by
  cases r with
  | ok d e => exact fun a vs G' H' R h1 h2 h3 h4 h5 h6 => h a vs G' H' R h1 h2 (f.dom a h3) h4 h5 (f.trans h6)
  | ex x e => exact RunX.shift h f
  | stuck => exact h
/-- an expression, then the rest -/
theorem E_then {de : DE} {β : Type} {f : D → DEnv → Rs β} {R : VK} (hR : Rel K env σ G H) {P : DEnv → St → Hp → Hp → Rs β → Prop}
    (h : P env σ G H ((de env).bind f)) (hx : ∀ x e, P env σ G H (.ex x e) → RunX K mg W env σ G H x e) (hst : ¬ P env σ G H .stuck)
    (hsh : ∀ e1 G1 H1 r, P env σ G H r → Fr env σ G H e1 σ G1 H1 → P e1 σ G1 H1 r)
    (k : ∀ d e1 v G1 H1, de env = .ok d e1 → Rel K e1 σ G1 H1 → Dv K G1 v d → Fr env σ G H e1 σ G1 H1 → P e1 σ G1 H1 (f d e1) → R v H1) : rdE K mg W de σ H R := by
  refine ⟨env, G, hR, ?_⟩
  cases q : de env with
  | ok d e1 =>
    rw [q] at h
    exact fun v G1 H1 a b c => k d e1 v G1 H1 q a b c (hsh _ _ _ _ h c)
  | ex x e => rw [q] at h; exact hx x e h
  | stuck => rw [q] at h; exact (hst h).elim
theorem E_thenE {de : DE} {f : D → DEnv → Rs D} {Q R : VK} (hR : Rel K env σ G H) (h : RunE K mg W env σ G H ((de env).bind f) Q)
    (k : ∀ d e1 v G1 H1, de env = .ok d e1 → Rel K e1 σ G1 H1 → Dv K G1 v d → Fr env σ G H e1 σ G1 H1 → RunE K mg W e1 σ G1 H1 (f d e1) Q → R v H1) : rdE K mg W de σ H R :=
  E_then hR (P := fun e s G H r => RunE K mg W e s G H r Q) h (fun _ _ z => z) (fun z => z) (fun _ _ _ _ a b => a.shift b) k
theorem E_thenT {de : DE} {f : D → DEnv → Rs Bool} {Q : Bool → Hp → Prop} {R : VK} (hR : Rel K env σ G H) (h : RunT K mg W env σ G H ((de env).bind f) Q)
    (k : ∀ d e1 v G1 H1, de env = .ok d e1 → Rel K e1 σ G1 H1 → Dv K G1 v d → Fr env σ G H e1 σ G1 H1 → RunT K mg W e1 σ G1 H1 (f d e1) Q → R v H1) : rdE K mg W de σ H R :=
  E_then hR (P := fun e s G H r => RunT K mg W e s G H r Q) h (fun _ _ z => z) (fun z => z) (fun _ _ _ _ a b => a.shift b) k
theorem E_thenA {de : DE} {f : D → DEnv → Rs (List D)} {Q : List V → Hp → Prop} {R : VK} (hR : Rel K env σ G H) (h : RunA K mg W env σ G H ((de env).bind f) Q)
    (k : ∀ d e1 v G1 H1, de env = .ok d e1 → Rel K e1 σ G1 H1 → Dv K G1 v d → Fr env σ G H e1 σ G1 H1 → RunA K mg W e1 σ G1 H1 (f d e1) Q → R v H1) : rdE K mg W de σ H R :=
  E_then hR (P := fun e s G H r => RunA K mg W e s G H r Q) h (fun _ _ z => z) (fun z => z) (fun _ _ _ _ a b => a.shift b) k
theorem E_thenL {de : DE} {f : D → DEnv → Rs (List D)} {Q R : VK} (hR : Rel K env σ G H) (h : RunL K mg W env σ G H ((de env).bind f) Q)
    (k : ∀ d e1 v G1 H1, de env = .ok d e1 → Rel K e1 σ G1 H1 → Dv K G1 v d → Fr env σ G H e1 σ G1 H1 → RunL K mg W e1 σ G1 H1 (f d e1) Q → R v H1) : rdE K mg W de σ H R :=
  E_then hR (P := fun e s G H r => RunL K mg W e s G H r Q) h (fun _ _ z => z) (fun z => z) (fun _ _ _ _ a b => a.shift b) k
theorem A_then {de : DA} {β : Type} {f : List D → DEnv → Rs β} {R : List V → Hp → Prop} (hR : Rel K env σ G H) {P : DEnv → St → Hp → Hp → Rs β → Prop}
    (h : P env σ G H ((de env).bind f)) (hx : ∀ x e, P env σ G H (.ex x e) → RunX K mg W env σ G H x e) (hst : ¬ P env σ G H .stuck)
    (hsh : ∀ e1 G1 H1 r, P env σ G H r → Fr env σ G H e1 σ G1 H1 → P e1 σ G1 H1 r)
    (k : ∀ d e1 v G1 H1, de env = .ok d e1 → Rel K e1 σ G1 H1 → DvAll K G1 v d → Fr env σ G H e1 σ G1 H1 → P e1 σ G1 H1 (f d e1) → R v H1) : rdA K mg W de σ H R := by
  refine ⟨env, G, hR, ?_⟩
  cases q : de env with
  | ok d e1 =>
    rw [q] at h
    exact fun v G1 H1 a b c => k d e1 v G1 H1 q a b c (hsh _ _ _ _ h c)
  | ex x e => rw [q] at h; exact hx x e h
  | stuck => rw [q] at h; exact (hst h).elim
theorem A_thenE {de : DA} {f : List D → DEnv → Rs D} {Q : VK} {R : List V → Hp → Prop} (hR : Rel K env σ G H) (h : RunE K mg W env σ G H ((de env).bind f) Q)
    (k : ∀ d e1 v G1 H1, de env = .ok d e1 → Rel K e1 σ G1 H1 → DvAll K G1 v d → Fr env σ G H e1 σ G1 H1 → RunE K mg W e1 σ G1 H1 (f d e1) Q → R v H1) : rdA K mg W de σ H R :=
  A_then hR (P := fun e s G H r => RunE K mg W e s G H r Q) h (fun _ _ z => z) (fun z => z) (fun _ _ _ _ a b => a.shift b) k
theorem A_thenA {de : DA} {f : List D → DEnv → Rs (List D)} {Q R : List V → Hp → Prop} (hR : Rel K env σ G H) (h : RunA K mg W env σ G H ((de env).bind f) Q)
    (k : ∀ d e1 v G1 H1, de env = .ok d e1 → Rel K e1 σ G1 H1 → DvAll K G1 v d → Fr env σ G H e1 σ G1 H1 → RunA K mg W e1 σ G1 H1 (f d e1) Q → R v H1) : rdA K mg W de σ H R :=
  A_then hR (P := fun e s G H r => RunA K mg W e s G H r Q) h (fun _ _ z => z) (fun z => z) (fun _ _ _ _ a b => a.shift b) k
theorem A_thenL {de : DA} {f : List D → DEnv → Rs (List D)} {Q : VK} {R : List V → Hp → Prop} (hR : Rel K env σ G H) (h : RunL K mg W env σ G H ((de env).bind f) Q)
    (k : ∀ d e1 v G1 H1, de env = .ok d e1 → Rel K e1 σ G1 H1 → DvAll K G1 v d → Fr env σ G H e1 σ G1 H1 → RunL K mg W e1 σ G1 H1 (f d e1) Q → R v H1) : rdA K mg W de σ H R :=
  A_then hR (P := fun e s G H r => RunL K mg W e s G H r Q) h (fun _ _ z => z) (fun z => z) (fun _ _ _ _ a b => a.shift b) k
theorem RunE.grow {d : D} {Q : VK} (h : RunE K mg W env σ G H (.ok d env) Q) (R : Rel K env σ G H) {v : V} (g : Grow G H G1 H1) (dp : Dv K G1 v d) : Q v H1 := h v G1 H1 (R.grow g) dp (g.fr R)
end
theorem pe_imp {X : Cx} {e : Expr} {t t' : TE} (h : PE X e t) (k : ∀ σ H Q, t' σ H Q → t σ H Q) : PE X e t' := ⟨fun pins s σ H Q I w => h.run pins s σ H Q I (k σ H Q w)⟩
theorem pt_imp {X : Cx} {e : Expr} {t t' : TT} (h : PT X e t) (k : ∀ σ H Q, t' σ H Q → t σ H Q) : PT X e t' := ⟨fun pins s σ H Q I w => h.run pins s σ H Q I (k σ H Q w)⟩
theorem pa_imp {X : Cx} {e : List Expr} {t t' : TA} (h : PA X e t) (k : ∀ σ H Q, t' σ H Q → t σ H Q) : PA X e t' := ⟨fun pos pins s σ H Q I w => h.run pos pins s σ H Q I (k σ H Q w)⟩
theorem ps_imp {X : Cx} {e : Stmt} {t t' : TS} (h : PS X e t) (k : ∀ D σ H, t' D σ H → t D σ H) : PS X e t' := ⟨fun pins s σ H D I w => h.run pins s σ H D I (k D σ H w)⟩
theorem pss_imp {X : Cx} {e : List Stmt} {t t' : TS} (h : PSs X e t) (k : ∀ D σ H, t' D σ H → t D σ H) : PSs X e t' := ⟨fun pins s σ H D I w => h.run pins s σ H D I (k D σ H w)⟩
abbrev CE (X : Cx) (W : WX) (e : Expr) (de : DE) : Prop := PE X e (rdE X.K X.mg W de)
abbrev CT (X : Cx) (W : WX) (e : Expr) (de : DT) : Prop := PT X e (rdT X.K X.mg W de)
abbrev CA (X : Cx) (W : WX) (es : List Expr) (de : DA) : Prop := PA X es (rdA X.K X.mg W de)
abbrev CL (X : Cx) (W : WX) (e : Expr) (de : DA) : Prop := PE X e (rdL X.K X.mg W de)
end DL
set_option Elab.async false
set_option linter.all false
set_option maxRecDepth 100000
set_option autoImplicit false
namespace DL
open PySem L2
def eVar (i : Nat) : DE := fun env => match env[i]? with
  | some (.v d) => .ok d env
  | some (.l xs) => .ok (.list xs) (env.set i (.v (.list xs)))
  | some (.m xs) => .ok (.dict xs) (env.set i (.v (.dict xs)))
  | _ => .stuck
def eC (d : D) : DE := fun env => .ok d env
def eBin (f : D → D → Option D) (da db : DE) : DE := fun env => (da env).bind fun x e1 => (db e1).bind fun y e2 => put (f x y) e2
def eCB (f : List D → Option D) (da : DA) : DE := fun env => (da env).bind fun xs e1 => put (f xs) e1
def aNil : DA := fun env => .ok [] env
def aCons (de : DE) (da : DA) : DA := fun env => (de env).bind fun x e1 => (da e1).bind fun xs e2 => .ok (x :: xs) e2
def lLst (da : DA) : DA := fun env => (da env).bind fun xs e1 => if xs.length ≤ 100000 then .ok xs e1 else .stuck
/-- a new list that stands still from now on -/
def eLst (da : DA) : DE := fun env => (da env).bind fun xs e1 => .ok (.list xs) e1
def tTst (de : DE) : DT := fun env => (de env).bind fun d e1 => match d with
  | .bool b => .ok b e1
  | _ => .stuck
def truth : D → Option Bool
  | .none => some false
  | .bool b => some b
  | .int i => some (i != 0)
  | .str x => if x.length ≤ 100000 then some ((x.length : Int) != 0) else none
  | .list xs => some (!xs.isEmpty)
  | .tuple xs => some (!xs.isEmpty)
  | .dict _ => none
def tTru (de : DE) : DT := fun env => (de env).bind fun d e1 => put (truth d) e1
def tNotD (t : DT) : DT := fun env => (t env).bind fun b e1 => .ok (!b) e1
/-- and, or as values, all but the last True or False -/
def eAnd (da db : DE) : DE := fun env => (da env).bind fun x e1 => match x with
  | .bool true => db e1
  | .bool false => .ok (.bool false) e1
  | _ => .stuck
def eNot (da : DE) : DE := fun env => (da env).bind fun x e1 => match x with
  | .bool b => .ok (.bool (!b)) e1
  | _ => .stuck
def OpD (K : PySem.W.Frag) (r : R2) (f : D → D → Option D) : Prop := ∀ (x y : V) (d e z : D) (G H : Hp) (Q : VK), Dv K G x d → Dv K G y e → Ex G H → f d e = some z → (∀ v G' H', Dv K G' v z → Grow G H G' H' → Q v H') → r x y H Q
def CbD (K : PySem.W.Frag) (r : List V → Hp → VK → Prop) (f : List D → Option D) : Prop := ∀ (xs : List V) (ds : List D) (z : D) (G H : Hp) (Q : VK), DvAll K G xs ds → Ex G H → f ds = some z → (∀ v G' H', Dv K G' v z → Grow G H G' H' → Q v H') → r xs H Q
def OlD (K : PySem.W.Frag) (r : R2) (f : D → D → Option (List D)) : Prop := ∀ (x y : V) (d e : D) (zs : List D) (G H : Hp) (Q : VK), Dv K G x d → Dv K G y e → Ex G H → f d e = some zs →
  (∀ a vs, H a = none → DvAll K G vs zs → Q (.ref a) (upd H a (.lst vs))) → r x y H Q
section
variable {K : PySem.W.Frag} {mg : Str → Option Value} {W : WX}
theorem OpD.or {r r' : R2} {f g : D → D → Option D} (h : OpD K r f) (h' : OpD K r' g) : OpD K (fun x y H Q => r x y H Q ∨ r' x y H Q) (fun x y => match f x y with | some z => some z | none => g x y) := by
  intro x y d e z G H Q hx hy ex hf k
  cases q : f d e with
  | some w =>
    simp only [q, Option.some.injEq] at hf
    subst hf
    exact .inl (h x y d e _ G H Q hx hy ex q k)
  | none =>
    simp only [q] at hf
    exact .inr (h' x y d e z G H Q hx hy ex hf k)
theorem CbD.or {r r' : List V → Hp → VK → Prop} {f g : List D → Option D} (h : CbD K r f) (h' : CbD K r' g) : CbD K (fun xs H Q => r xs H Q ∨ r' xs H Q) (fun xs => match f xs with | some z => some z | none => g xs) := by
  intro xs ds z G H Q hx ex hf k
  cases q : f ds with
  | some w =>
    simp only [q, Option.some.injEq] at hf
    subst hf
    exact .inl (h xs ds _ G H Q hx ex q k)
  | none =>
    simp only [q] at hf
    exact .inr (h' xs ds z G H Q hx ex hf k)
/-- the answer where it was asked -/
theorem RunE.put {env : DEnv} {σ : L2.St} {G H : Hp} {o : Option D} {Q : VK} (R : Rel K env σ G H) (h : RunE K mg W env σ G H (put o env) Q)
    : ∃ z, o = some z ∧ ∀ v G' H', Dv K G' v z → Grow G H G' H' → Q v H' := by
  cases o with
  | none => exact h.elim
  | some z => exact ⟨z, rfl, fun v G' H' dv g => h v G' H' (R.grow g) dv (g.fr R)⟩
theorem bin_ok {r : R2} {f : D → D → Option D} (o : OpD K r f) (da db : DE) (σ : L2.St) (H : Hp) (Q : VK) (h : rdE K mg W (eBin f da db) σ H Q) : tOp r (rdE K mg W da) (rdE K mg W db) σ H Q := by
  obtain ⟨env, G, R, h⟩ := h
  refine E_thenE R h fun d e1 v G1 H1 _ R1 dv F1 h1 => E_thenE R1 h1 fun d2 e2 v2 G2 H2 _ R2 dv2 F2 h2 => ?_
  obtain ⟨z, e, k⟩ := RunE.put R2 h2
  exact o v v2 d d2 z G2 H2 Q (dv.up F2.gg) dv2 R2.ex e k
theorem cb_ok {r : List V → Hp → VK → Prop} {f : List D → Option D} (o : CbD K r f) (da : DA) (σ : L2.St) (H : Hp) (Q : VK) (h : rdE K mg W (eCB f da) σ H Q) : tCB r (rdA K mg W da) σ H Q := by
  obtain ⟨env, G, R, h⟩ := h
  refine A_thenE R h fun d e1 v G1 H1 _ R1 dv F1 h1 => ?_
  obtain ⟨z, e, k⟩ := RunE.put R1 h1
  exact o v d z G1 H1 Q dv R1.ex e k
/-- a new list laid: it is nobody's -/
theorem Rel.laid1 {env : DEnv} {σ : L2.St} {G H : Hp} {a : Addr} {o : HO} (R : Rel K env σ G H) (ha : H a = none) : Rel K env σ G (upd H a o) ∧ ∀ i b, OwnAt env σ (upd H a o) i b ↔ OwnAt env σ H i b :=
  R.move (fun b u hb => (by rw [upd_ne (fun z => by subst z; rw [R.ex.none ha] at hb; cases hb)]; exact R.ex b u hb)) (Ex.refl _) (fun b w => upd_ne fun z => (by subst z; exact (w.there R).1 ha)) fun b w => (w.there R).2
theorem RunL.new {env : DEnv} {σ : L2.St} {G H : Hp} {zs : List D} {vs : List V} {Q : VK} {a : Addr} (R : Rel K env σ G H) (h : RunL K mg W env σ G H (.ok zs env) Q) (ha : H a = none) (dv : DvAll K G vs zs) : Q (.ref a) (upd H a (.lst vs)) := by
  have ga : G a = none := R.ex.none ha
  obtain ⟨R2, m⟩ := R.laid1 (o := .lst vs) ha
  refine h a vs G (upd H a (.lst vs)) R2 upd_same ga ha (fun ⟨i, w⟩ => (((m i a).1 w).there R).1 ha) dv
    ⟨Ex.refl _, fun b o hb _ => ?_, fun b hb => ?_, fun b hb => .inl hb, fun b ⟨i, w⟩ => .inl ⟨i, (m i b).1 w⟩, fun i s hi _ => ⟨rfl, s, hi, rfl⟩⟩
  · rw [upd_ne (fun z => by subst z; rw [ha] at hb; cases hb)]
    exact hb
  · by_cases z : b = a
    · subst z; exact ha
    · rw [upd_ne z] at hb; exact hb
def eBinL (f : D → D → Option (List D)) (da db : DE) : DA := fun env => (da env).bind fun x e1 => (db e1).bind fun y e2 => put (f x y) e2
theorem binL_ok {r : R2} {f : D → D → Option (List D)} (o : OlD K r f) (da db : DE) (σ : L2.St) (H : Hp) (Q : VK) (h : rdL K mg W (eBinL f da db) σ H Q) : tOp r (rdE K mg W da) (rdE K mg W db) σ H Q := by
  obtain ⟨env, G, R, h⟩ := h
  refine E_thenL R h fun d e1 v G1 H1 _ R1 dv F1 h1 => E_thenL R1 h1 fun d2 e2 v2 G2 H2 _ R2 dv2 F2 h2 => ?_
  cases q : f d d2 with
  | none => rw [q] at h2; exact h2.elim
  | some zs =>
    rw [q] at h2
    exact o v v2 d d2 zs G2 H2 Q (dv.up F2.gg) dv2 R2.ex q fun a vs ha dz => RunL.new R2 h2 ha dz
/-- a thing of nobody's stands still from now on -/
theorem Rel.still {env : DEnv} {σ : L2.St} {G H : Hp} {a : Addr} {o : HO} (R : Rel K env σ G H) (h1 : H a = some o) (h2 : G a = none) (h4 : ¬ Own env σ H a) : Rel K env σ (upd G a o) H :=
  (R.move (fun b u hb => by
    by_cases z : b = a
    · subst z; rw [upd_same] at hb; rw [h1]; exact hb
    · rw [upd_ne z] at hb; exact R.ex b u hb) (Ex.new h2) (fun _ _ => rfl) fun b w => by rw [upd_ne fun z => (by subst z; exact h4 w)]; exact (w.there R).2).1
/-- a list of nobody's becomes data that stands still -/
theorem RunL.of {env : DEnv} {σ : L2.St} {G H : Hp} {r : Rs (List D)} {Q : VK} (h' : RunE K mg W env σ G H (r.bind fun xs e1 => .ok (.list xs) e1) Q) : RunL K mg W env σ G H r Q := by
  cases r with
  | stuck => exact h'
  | ex x e => exact h'
  | ok ds e1 =>
    intro a vs G' H' R' h1 h2 h3 h4 dv F
    refine h' (.ref a) (upd G' a (.lst vs)) H' (R'.still h1 h2 h4) (.lst (.of upd_same) (dv.up (Ex.new h2)))
      ⟨F.gg.trans (Ex.new h2), F.keep, F.dom, fun b hb => ?_, F.own, F.par⟩
    · by_cases z : b = a
      · subst z; exact .inr (.inl h3)
      · rw [upd_ne z] at hb; exact F.fresh b hb
theorem L_to_E {da : DA} (σ : L2.St) (H : Hp) (Q : VK) (h : rdE K mg W (eLst da) σ H Q) : rdL K mg W da σ H Q := by
  obtain ⟨env, G, R, h⟩ := h
  exact ⟨env, G, R, RunL.of h⟩
end
theorem freezeO {K : PySem.W.Frag} {env : DEnv} {σ : L2.St} {G H : Hp} {i : Nat} {s0 : Sl} {d0 : D} {a : Addr} {o0 : HO} (R : Rel K env σ G H) (hi : env[i]? = some s0) (hs0 : s0.lst = true)
    (ho : σ[i]? = some (some (.ref a))) (h1 : H a = some o0) (h2 : G a = none) (dv : Dv K (upd G a o0) (.ref a) d0) :
    Rel K (env.set i (.v d0)) σ (upd G a o0) H ∧ Fr env σ G H (env.set i (.v d0)) σ (upd G a o0) H := by
  have li : i < env.length := (List.getElem?_eq_some_iff.mp hi).1
  have owns : OwnAt env σ H i a := .of hi hs0 ho
  have k : ∀ j b, j ≠ i → OwnAt env σ H j b → H b = H b ∧ upd G a o0 b = none := fun j b ne w => ⟨rfl, by
    rw [upd_ne fun z => by subst z; exact ne (R.dist j i b w owns)]
    exact (w.there R).2⟩
  refine ⟨(R.put (s1 := .v d0) li rfl ho (fun _ _ => rfl) (fun b o hb => ?_) (Ex.new h2) k ⟨_, rfl, dv⟩ fun _ w => w.elim).1,
    Fr.put (s1 := .v d0) (o1 := some (.ref a)) R li ho (fun _ _ => rfl) (Ex.new h2) k (fun b o hb _ => hb) (fun b hb => hb) (fun b hb => ?_) (fun _ w => w.elim) fun z => absurd rfl z⟩
  · by_cases z : b = a
    · subst z; rw [upd_same] at hb; rw [h1]; exact hb
    · rw [upd_ne z] at hb; exact R.ex b o hb
  · by_cases z : b = a
    · subst z; exact .inr (.inr ⟨i, owns⟩)
    · rw [upd_ne z] at hb; exact .inl hb
theorem freeze {K : PySem.W.Frag} {env : DEnv} {σ : L2.St} {G H : Hp} {i : Nat} {xs : List D} (R : Rel K env σ G H) (hi : env[i]? = some (.l xs)) :
    ∃ a vs, σ[i]? = some (some (.ref a)) ∧ Rel K (env.set i (.v (.list xs))) σ (upd G a (.lst vs)) H ∧ Dv K (upd G a (.lst vs)) (.ref a) (.list xs) ∧ Fr env σ G H (env.set i (.v (.list xs))) σ (upd G a (.lst vs)) H := by
  have li2 : i < σ.length := by rw [← R.len]; exact (List.getElem?_eq_some_iff.mp hi).1
  have ho : σ[i]? = some σ[i] := List.getElem?_eq_getElem li2
  obtain ⟨a, vs, e, h1, h2, h3⟩ := R.slot i _ _ hi ho
  rw [e] at ho
  have dv : Dv K (upd G a (.lst vs)) (.ref a) (.list xs) := .lst (.of upd_same) (h3.up (Ex.new h2))
  obtain ⟨r1, r2⟩ := freezeO R hi rfl ho h1 h2 dv
  exact ⟨a, vs, ho, r1, dv, r2⟩
theorem freezeM {K : PySem.W.Frag} {env : DEnv} {σ : L2.St} {G H : Hp} {i : Nat} {xs : List (D × D)} (R : Rel K env σ G H) (hi : env[i]? = some (.m xs)) :
    ∃ a vs, σ[i]? = some (some (.ref a)) ∧ Rel K (env.set i (.v (.dict xs))) σ (upd G a (.dK vs)) H ∧ Dv K (upd G a (.dK vs)) (.ref a) (.dict xs) ∧ Fr env σ G H (env.set i (.v (.dict xs))) σ (upd G a (.dK vs)) H := by
  have li2 : i < σ.length := by rw [← R.len]; exact (List.getElem?_eq_some_iff.mp hi).1
  have ho : σ[i]? = some σ[i] := List.getElem?_eq_getElem li2
  obtain ⟨a, vs, e, h1, h2, h3⟩ := R.slot i _ _ hi ho
  rw [e] at ho
  have dv : Dv K (upd G a (.dK vs)) (.ref a) (.dict xs) := .dct (.inl upd_same) (h3.up (Ex.new h2))
  obtain ⟨r1, r2⟩ := freezeO R hi rfl ho h1 h2 dv
  exact ⟨a, vs, ho, r1, dv, r2⟩
section
variable {X : Cx} {W : WX} {a b e : Expr} {da db : DE} {pos : Pos}
theorem var_ok {K : PySem.W.Frag} {mg : Str → Option Value} {i : Nat} (σ : L2.St) (H : Hp) (Q : VK) (h : rdE K mg W (eVar i) σ H Q) : tVar i σ H Q := by
  obtain ⟨env, G, R, h⟩ := h
  unfold eVar at h
  cases q : env[i]? with
  | none => rw [q] at h; exact h.elim
  | some s =>
    rw [q] at h
    have li : i < σ.length := by rw [← R.len]; exact (List.getElem?_eq_some_iff.mp q).1
    have ho : σ[i]? = some σ[i] := List.getElem?_eq_getElem li
    cases s with
    | no => exact h.elim
    | p xs => exact h.elim
    | f x => exact h.elim
    | t x => exact h.elim
    | u x => exact h.elim
    | a x _ _ => exact h.elim
    | n _ => exact h.elim
    | m xs =>
      obtain ⟨a, vs, e1, R', dv, F⟩ := freezeM R q
      exact ⟨_, e1, h _ _ _ R' dv F⟩
    | v d =>
      obtain ⟨v, e, dv⟩ := R.slot i _ _ q ho
      rw [e] at ho
      exact ⟨v, ho, h v G H R dv (Fr.refl _ _ _ _)⟩
    | l xs =>
      obtain ⟨a, vs, e1, R', dv, F⟩ := freeze R q
      exact ⟨_, e1, h _ _ _ R' dv F⟩
theorem ce_var (i : Nat) {x : Str} (hN : X.N[i]? = some x := by rfl) (hv : Vis X.env.scope x := by first | exact Or.inl rfl | exact Or.inr (Or.inl rfl) | exact Or.inr (Or.inr rfl)) (hd : (x == ("__debug__" : Str)) = false := by decide)
    (hcd : (x == ("__classdict__" : Str)) = false := by decide) : CE X W (.Name x pos) (eVar i) := pe_imp (pe_var hN hv hd hcd) var_ok
theorem c_ok {K : PySem.W.Frag} {mg : Str → Option Value} {v : V} {d : D} (dv : ∀ G, Dv K G v d) (σ : L2.St) (H : Hp) (Q : VK) (h : rdE K mg W (eC d) σ H Q) : tC v σ H Q := by
  obtain ⟨env, G, R, h⟩ := h
  exact h v G H R (dv G) (Fr.refl _ _ _ _)
theorem ce_int {i : Int} {j : Nat} : CE X W (.Constant (.int i) j pos) (eC (.int i)) := pe_imp pe_int (c_ok fun _ => .int i)
theorem ce_bool {i : Bool} {j : Nat} : CE X W (.Constant (.bool i) j pos) (eC (.bool i)) := pe_imp pe_bl (c_ok fun _ => .bl i)
theorem ce_str {x : Str} {j : Nat} : CE X W (.Constant (.str x) j pos) (eC (.str x)) := pe_imp pe_str (c_ok fun _ => .str x)
theorem ce_bin {op : Operator} {r : R2} {f : D → D → Option D} (ho : OpR X (binaryOp op) r) (o : OpD X.K r f) (ha : CE X W a da) (hb : CE X W b db) : CE X W (.BinOp a op b pos) (eBin f da db) := pe_imp (pe_op ho ha hb) (bin_ok o da db)
theorem cl_bin {op : Operator} {r : R2} {f : D → D → Option (List D)} (ho : OpR X (binaryOp op) r) (o : OlD X.K r f) (ha : CE X W a da) (hb : CE X W b db) : CL X W (.BinOp a op b pos) (eBinL f da db) := pe_imp (pe_op ho ha hb) (binL_ok o da db)
theorem ce_cmp {op : CmpOp} {r : R2} {f : D → D → Option D} (ho : OpR X (compareOp op) r) (o : OpD X.K r f) (ha : CE X W a da) (hb : CE X W b db) (hm : behindInMarks op b = false) : CE X W (.Compare a [op] [b] pos) (eBin f da db) := pe_imp (pe_cmpR ho ha hb hm) (bin_ok o da db)
theorem tst_ok {K : PySem.W.Frag} {mg : Str → Option Value} (de : DE) (σ : L2.St) (H : Hp) (Q : Bool → Hp → Prop) (h : rdT K mg W (tTst de) σ H Q) : rdE K mg W de σ H fun x H' => ∃ k, x = .bl k ∧ Q k H' := by
  obtain ⟨env, G, R, h⟩ := h
  refine E_thenT R h fun d e1 v G1 H1 _ R1 dv F1 h1 => ?_
  cases dv with
  | bl b => exact ⟨b, rfl, h1 G1 H1 R1 (Fr.refl _ _ _ _)⟩
  | non => exact h1.elim
  | int i => exact h1.elim
  | str i => exact h1.elim
  | lst _ _ => exact h1.elim
  | tup _ _ => exact h1.elim
  | dct _ _ => exact h1.elim
  | exc _ _ => exact h1.elim
theorem ct_cmp {op : CmpOp} {r : R2} {f : D → D → Option D} (ho : OpR X (compareOp op) r) (o : OpD X.K r f) (ha : CE X W a da) (hb : CE X W b db) (hm : behindInMarks op b = false) : CT X W (.Compare a [op] [b] pos) (tTst (eBin f da db)) :=
  pt_imp (pt_cmpR ho ha hb hm) fun σ H Q h => bin_ok o da db σ H _ (tst_ok _ σ H Q h)
/-- an expression that gives True or False, as a test -/
theorem ct_val {e : Expr} {de : DE} (h : CE X W e de) (he : ∀ whole, isTrue e X.env whole = (do let v ← whole; standAt e.pos; holding [v] (truthy v)) := by intro _; rfl) : CT X W e (tTst de) := pt_imp (pt_val h he) fun σ H Q h => tst_ok _ σ H Q h
theorem tru_okD {K : PySem.W.Frag} {mg : Str → Option Value} (de : DE) (σ : L2.St) (H : Hp) (Q : Bool → Hp → Prop) (h : rdT K mg W (tTru de) σ H Q) : rdE K mg W de σ H fun x H' => ∃ k, TruV K x H' k ∧ Q k H' := by
  obtain ⟨env, G, R, h⟩ := h
  refine E_thenT R h fun d e1 v G1 H1 _ R1 dv F1 h1 => ?_
  cases q : truth d with
  | none => rw [q] at h1; exact h1.elim
  | some k =>
    rw [q] at h1
    refine ⟨k, ?_, h1 G1 H1 R1 (Fr.refl _ _ _ _)⟩
    cases dv with
    | bl b => cases q; rfl
    | non => cases q; rfl
    | int i => cases q; rfl
    | str x =>
      have q' : (if x.length ≤ 100000 then some ((x.length : Int) != 0) else none) = some k := q
      by_cases hz : x.length ≤ 100000
      · rw [if_pos hz] at q'
        cases q'
        exact ⟨Nat.le_trans hz (by decide), rfl⟩
      · rw [if_neg hz] at q'
        cases q'
    | @lst a xs ds g1 g2 =>
      cases q
      refine .inl ⟨_, (R1.ex.rl g1).sq, ?_⟩
      cases g2 <;> rfl
    | @tup a xs ds g1 g2 =>
      cases q
      refine .inr (.inl ⟨_, (R1.ex.n g1).t, ?_⟩)
      cases g2 <;> rfl
    | dct _ _ => cases q
    | exc _ _ => cases q
theorem ct_tru {e : Expr} {de : DE} (h : CE X W e de) (he : ∀ whole, isTrue e X.env whole = (do let v ← whole; standAt e.pos; holding [v] (truthy v)) := by intro _; rfl) : CT X W e (tTru de) := pt_imp (pt_truth h he) fun σ H Q h => tru_okD _ σ H Q h
theorem T_then {K : PySem.W.Frag} {mg : Str → Option Value} {env : DEnv} {σ : L2.St} {G H : Hp} {dt : DT} {β : Type} {f : Bool → DEnv → Rs β} {R : Bool → Hp → Prop} (hR : Rel K env σ G H) {P : DEnv → L2.St → Hp → Hp → Rs β → Prop}
    (h : P env σ G H ((dt env).bind f)) (hx : ∀ x e, P env σ G H (.ex x e) → RunX K mg W env σ G H x e) (hst : ¬ P env σ G H .stuck)
    (hsh : ∀ e1 G1 H1 r, P env σ G H r → Fr env σ G H e1 σ G1 H1 → P e1 σ G1 H1 r)
    (k : ∀ d e1 G1 H1, dt env = .ok d e1 → Rel K e1 σ G1 H1 → Fr env σ G H e1 σ G1 H1 → P e1 σ G1 H1 (f d e1) → R d H1) : rdT K mg W dt σ H R := by
  refine ⟨env, G, hR, ?_⟩
  cases q : dt env with
  | ok d e1 =>
    rw [q] at h
    exact fun G1 H1 a c => k d e1 G1 H1 q a c (hsh _ _ _ _ h c)
  | ex x e => rw [q] at h; exact hx x e h
  | stuck => rw [q] at h; exact (hst h).elim
theorem T_thenT {K : PySem.W.Frag} {mg : Str → Option Value} {env : DEnv} {σ : L2.St} {G H : Hp} {dt : DT} {f : Bool → DEnv → Rs Bool} {Q R : Bool → Hp → Prop} (hR : Rel K env σ G H) (h : RunT K mg W env σ G H ((dt env).bind f) Q)
    (k : ∀ d e1 G1 H1, dt env = .ok d e1 → Rel K e1 σ G1 H1 → Fr env σ G H e1 σ G1 H1 → RunT K mg W e1 σ G1 H1 (f d e1) Q → R d H1) : rdT K mg W dt σ H R :=
  T_then hR (P := fun e s G H r => RunT K mg W e s G H r Q) h (fun _ _ z => z) (fun z => z) (fun _ _ _ _ a b => a.shift b) k
variable {dt du : DT} {rest : List Expr}
theorem ct_not (ha : CT X W a dt) : CT X W (.UnaryOp .Not a pos) (tNotD dt) := pt_imp (pt_not ha) fun σ H Q h => by
  obtain ⟨env, G, R, h⟩ := h
  exact T_thenT R h fun d e1 G1 H1 _ R1 F1 h1 => h1 G1 H1 R1 (Fr.refl _ _ _ _)
theorem ce_one {op : BoolOp} (h : CE X W a da) : CE X W (.BoolOp op [a] pos) da := pe_one h
theorem ce_and (ha : CE X W a da) (hb : CE X W (.BoolOp .And (b :: rest) pos) db) : CE X W (.BoolOp .And (a :: b :: rest) pos) (eAnd da db) := pe_imp (pe_and ha hb) fun σ H Q h => by
  obtain ⟨env, G, R, h⟩ := h
  refine E_thenE R h fun d e1 v G1 H1 _ R1 dv F1 h1 => ?_
  cases dv with
  | bl b =>
    cases b with
    | true => exact ⟨true, rfl, e1, G1, R1, h1⟩
    | false => exact ⟨false, rfl, h1 _ G1 H1 R1 (.bl false) (Fr.refl _ _ _ _)⟩
  | non => exact h1.elim
  | int i => exact h1.elim
  | str i => exact h1.elim
  | lst _ _ => exact h1.elim
  | tup _ _ => exact h1.elim
  | dct _ _ => exact h1.elim
  | exc _ _ => exact h1.elim
theorem ce_not (ha : CE X W a da) : CE X W (.UnaryOp .Not a pos) (eNot da) := pe_imp (pe_not ha) fun σ H Q h => by
  obtain ⟨env, G, R, h⟩ := h
  refine E_thenE R h fun d e1 v G1 H1 _ R1 dv F1 h1 => ?_
  cases dv with
  | bl b => exact ⟨b, rfl, h1 _ G1 H1 R1 (.bl _) (Fr.refl _ _ _ _)⟩
  | non => exact h1.elim
  | int i => exact h1.elim
  | str i => exact h1.elim
  | lst _ _ => exact h1.elim
  | tup _ _ => exact h1.elim
  | dct _ _ => exact h1.elim
  | exc _ _ => exact h1.elim
variable {es : List Expr} {ds : DA}
theorem ca_nil : CA X W [] aNil := pa_imp pa_nil fun σ H Q h => by
  obtain ⟨env, G, R, h⟩ := h
  exact h [] G H R .nil (Fr.refl _ _ _ _)
theorem ca_cons (ha : CE X W e da) (hr : CA X W es ds) (hs : starEach (e :: es) X.env = (false, eval e X.env) :: starEach es X.env := by rfl) : CA X W (e :: es) (aCons da ds) := pa_imp (pa_cons ha hr hs) fun σ H Q h => by
  obtain ⟨env, G, R, h⟩ := h
  exact E_thenA R h fun d e1 v G1 H1 _ R1 dv F1 h1 => A_thenA R1 h1 fun d2 e2 v2 G2 H2 _ R2 dv2 F2 h2 => h2 (v :: v2) G2 H2 R2 (.cons (dv.up F2.gg) dv2) (Fr.refl _ _ _ _)
theorem cl_lst (h : CA X W es ds) : CL X W (.List es pos) (lLst ds) := pe_imp (pe_lst h) fun σ H Q h => by
  obtain ⟨env, G, R, h⟩ := h
  refine A_thenL R h fun d e1 v G1 H1 _ R1 dv F1 h1 => ?_
  split at h1
  · rename_i hz
    exact ⟨by rw [dv.length]; exact Nat.le_trans hz (by decide), fun p hp => RunL.new R1 h1 hp dv⟩
  · exact h1.elim
theorem ce_lst {dl : DA} (h : CL X W e dl) : CE X W e (eLst dl) := pe_imp h fun σ H Q h => L_to_E σ H Q h
theorem ce_cb {r : List V → Hp → VK → Prop} {f : List D → Option D} {id : String} {x : Str} {p : Pos} (o : CbD X.K r f) (hc : CallR X (.builtin id) r) (hg : Gl X x) (hm : X.mg x = none) (hv : bootBuiltins x = some (.builtin id)) (ha : CA X W (e :: es) ds) (hn : x ≠ "__name__" := by decide) (hdb : (x == ("__debug__" : Str)) = false := by decide)
    (he : starEach (e :: es) X.env = (false, eval e X.env) :: starEach es X.env := by rfl) (hpl : (backTo pos (starEach es X.env)).any (·.1) = false := by rfl) : CE X W (.Call (.Name x p) (e :: es) [] pos) (eCB f ds) := pe_imp (pe_callB hc hg hm hv ha hn hdb he hpl) (cb_ok o ds)
end
end DL
set_option Elab.async false
set_option linter.all false
set_option maxRecDepth 100000
set_option autoImplicit false
namespace DL
open PySem L2
/-- how a statement ends -/
inductive Fl where
  | nx (env : DEnv)
  | rt (d : D) (env : DEnv)
  | rl (xs : List D) (env : DEnv)
  | bk (env : DEnv)
  | ct (env : DEnv)
  | ex (x : Xc) (env : DEnv)
  | stuck
abbrev DS := DEnv → Fl
/-- an answer, then a statement's end -/
def Rs.fl {α : Type} (r : Rs α) (f : α → DEnv → Fl) : Fl := match r with
  | .ok a env => f a env
  | .ex x env => .ex x env
  | .stuck => .stuck
theorem fl_ok {α : Type} (a : α) (env : DEnv) (f : α → DEnv → Fl) : (Rs.ok a env).fl f = f a env := rfl
section
variable (K : PySem.W.Frag) (mg : Str → Option Value) (W : WX)
def RunXS (env : DEnv) (σ : L2.St) (G H : Hp) (x : Xc) (env' : DEnv) : Prop :=
  ∀ cls dd σ' G' H', XRel K mg x cls dd G' H' → Rel K env' σ' G' H' → Fr env σ G H env' σ' G' H' → W cls dd σ' H'
def RunS (env : DEnv) (σ : L2.St) (G H : Hp) (r : Fl) (E : Ends) : Prop := match r with
  | .nx e => ∀ σ' G' H', Rel K e σ' G' H' → Fr env σ G H e σ' G' H' → E.nx σ' H'
  | .bk e => ∀ σ' G' H', Rel K e σ' G' H' → Fr env σ G H e σ' G' H' → E.bk σ' H'
  | .ct e => ∀ σ' G' H', Rel K e σ' G' H' → Fr env σ G H e σ' G' H' → E.ct σ' H'
  | .rt d e => ∀ v σ' G' H', Rel K e σ' G' H' → Dv K G' v d → Fr env σ G H e σ' G' H' → E.rt v H'
  | .rl xs e => ∀ a vs σ' G' H', Rel K e σ' G' H' → H' a = some (.lst vs) → G' a = none → H a = none → ¬ Own e σ' H' a → DvAll K G' vs xs → Fr env σ G H e σ' G' H' → E.rt (.ref a) H'
  | .ex x e => RunXS K mg W env σ G H x e
  | .stuck => False
def rdS (ds : DS) : TS := fun E σ H => ∃ env G, Rel K env σ G H ∧ RunS K mg W env σ G H (ds env) E
end
section
variable {K : PySem.W.Frag} {mg : Str → Option Value} {W : WX} {env env1 : DEnv} {σ σ1 : L2.St} {G H G1 H1 : Hp}
theorem RunS.shift {r : Fl} {E : Ends} (h : RunS K mg W env σ G H r E) (f : Fr env σ G H env1 σ1 G1 H1) : RunS K mg W env1 σ1 G1 H1 r E := by
  cases r with
  | nx e => exact fun σ' G' H' a c => h σ' G' H' a (f.trans c)
  | bk e => exact fun σ' G' H' a c => h σ' G' H' a (f.trans c)
  | ct e => exact fun σ' G' H' a c => h σ' G' H' a (f.trans c)
  | rt d e => exact fun v σ' G' H' a b c => h v σ' G' H' a b (f.trans c)
  | rl xs e => exact fun a vs σ' G' H' R h1 h2 h3 h4 h5 h6 => h a vs σ' G' H' R h1 h2 (f.dom a h3) h4 h5 (f.trans h6)
  | ex x e => exact fun cls dd σ' G' H' a b c => h cls dd σ' G' H' a b (f.trans c)
  | stuck => exact h
theorem RunXS.toX {x : Xc} {e : DEnv} (h : RunXS K mg W env σ G H x e) : RunX K mg W env σ G H x e := fun cls dd G' H' a b c => h cls dd σ G' H' a b c
/-- an expression, then the rest of the statement -/
theorem E_thenS {de : DE} {f : D → DEnv → Fl} {E : Ends} {R : VK} (hR : Rel K env σ G H) (h : RunS K mg W env σ G H ((de env).fl f) E)
    (k : ∀ d e1 v G1 H1, de env = .ok d e1 → Rel K e1 σ G1 H1 → Dv K G1 v d → Fr env σ G H e1 σ G1 H1 → RunS K mg W e1 σ G1 H1 (f d e1) E → R v H1) : rdE K mg W de σ H R := by
  refine ⟨env, G, hR, ?_⟩
  cases q : de env with
  | ok d e1 =>
    rw [q] at h
    exact fun v G1 H1 a b c => k d e1 v G1 H1 q a b c (h.shift c)
  | ex x e => rw [q] at h; exact RunXS.toX h
  | stuck => rw [q] at h; exact h.elim
theorem L_thenS {de : DA} {f : List D → DEnv → Fl} {E : Ends} {R : VK} (hR : Rel K env σ G H) (h : RunS K mg W env σ G H ((de env).fl f) E)
    (k : ∀ ds e1 a vs G1 H1, de env = .ok ds e1 → Rel K e1 σ G1 H1 → H1 a = some (.lst vs) → G1 a = none → H a = none → ¬ Own e1 σ H1 a → DvAll K G1 vs ds → Fr env σ G H e1 σ G1 H1 → RunS K mg W env σ G H (f ds e1) E → R (.ref a) H1) : rdL K mg W de σ H R := by
  refine ⟨env, G, hR, ?_⟩
  cases q : de env with
  | ok d e1 =>
    rw [q] at h
    exact fun a vs G1 H1 a1 a2 a3 a4 a5 a6 c => k d e1 a vs G1 H1 q a1 a2 a3 a4 a5 a6 c h
  | ex x e => rw [q] at h; exact RunXS.toX h
  | stuck => rw [q] at h; exact h.elim
theorem T_thenS {dt : DT} {f : Bool → DEnv → Fl} {E : Ends} {R : Bool → Hp → Prop} (hR : Rel K env σ G H) (h : RunS K mg W env σ G H ((dt env).fl f) E)
    (k : ∀ d e1 G1 H1, dt env = .ok d e1 → Rel K e1 σ G1 H1 → Fr env σ G H e1 σ G1 H1 → RunS K mg W e1 σ G1 H1 (f d e1) E → R d H1) : rdT K mg W dt σ H R := by
  refine ⟨env, G, hR, ?_⟩
  cases q : dt env with
  | ok d e1 =>
    rw [q] at h
    exact fun G1 H1 a c => k d e1 G1 H1 q a c (h.shift c)
  | ex x e => rw [q] at h; exact RunXS.toX h
  | stuck => rw [q] at h; exact h.elim
/-- a name gets a value -/
theorem Rel.set {i : Nat} {s s0 : Sl} {v : V} (R : Rel K env σ G H) (hi : env[i]? = some s0) (hp : ∀ xs, s0 ≠ .p xs) (hr : RS K G H s (some v)) (hn : ∀ xs, s ≠ .p xs)
    (ho : s.own = true → ∀ a, OwnS H s (some v) a → ¬ Own env σ H a) : Rel K (env.set i s) (σ.set i (some v)) G H := by
  have li : i < env.length := (List.getElem?_eq_some_iff.mp hi).1
  exact (R.put li (List.length_set ..) (List.getElem?_set_self (by rw [← R.len]; exact li)) (fun j ne => List.getElem?_set_ne (Ne.symm ne)) R.ex (Ex.refl _) (fun j a _ w => ⟨rfl, (w.there R).2⟩) hr fun a w j _ w2 => ho w.own a w ⟨j, w2⟩).1
theorem Fr.set {i : Nat} {s s0 : Sl} {v : V} (R : Rel K env σ G H) (hi : env[i]? = some s0) (hp : ∀ xs, s0 ≠ .p xs) (hn : ∀ xs, s ≠ .p xs) (ho : s.own = false) : Fr env σ G H (env.set i s) (σ.set i (some v)) G H := by
  have li : i < env.length := (List.getElem?_eq_some_iff.mp hi).1
  refine Fr.put (s1 := s) (o1 := some v) R li (List.getElem?_set_self (by rw [← R.len]; exact li)) (fun j ne => List.getElem?_set_ne (Ne.symm ne)) (Ex.refl _) (fun j a _ w => ⟨rfl, (w.there R).2⟩) (fun _ _ h _ => h) (fun _ h => h) (fun _ h => .inl h) (fun a w => ?_) fun z => ?_
  · rw [w.own] at ho; cases ho
  · cases s <;> first | exact absurd rfl z | cases ho
/-- a name gets a thing that is new -/
theorem Fr.setN {env0 : DEnv} {σ0 : L2.St} {G0 H0 : Hp} {i : Nat} {s : Sl} {v : V} (R : Rel K env σ G H) (F : Fr env0 σ0 G0 H0 env σ G H) (li : i < env.length) (hn : ∀ a, OwnS H s (some v) a → H0 a = none) (hs : s.pk = 0) : Fr env0 σ0 G0 H0 (env.set i s) (σ.set i (some v)) G H := by
  refine ⟨F.gg, F.keep, F.dom, F.fresh, fun b ⟨j, t, o, e1, e2, w⟩ => ?_, fun j t hj n => ?_⟩
  · by_cases z : j = i
    · subst z
      rw [List.getElem?_set_self li] at e1
      rw [List.getElem?_set_self (by rw [← R.len]; exact li)] at e2
      cases e1; cases e2
      exact .inr (hn b w)
    · rw [List.getElem?_set_ne (Ne.symm z)] at e1 e2
      exact F.own b ⟨j, t, o, e1, e2, w⟩
  · by_cases z : j = i
    · subst z
      rw [List.getElem?_set_self li] at hj
      cases hj
      exact absurd hs n
    · rw [List.getElem?_set_ne (Ne.symm z)] at hj ⊢
      exact F.par j t hj n
end
/-- a name's slot may be stored to -/
def setV (i : Nat) (s : Sl) (env : DEnv) : Option DEnv := match env[i]? with
  | none => none
  | some (.p _) => none
  | some _ => some (env.set i s)
abbrev DG := D → DEnv → Option DEnv
def gN (i : Nat) : DG := fun d env => setV i (.v d) env
/-- only slots of ws were stored to -/
def Tch (ws : List Nat) (σ σ' : L2.St) : Prop := σ'.length = σ.length ∧ ∀ j : Nat, j ∉ ws → σ'[j]? = σ[j]?
def rdG (K : PySem.W.Frag) (g : DG) (ws : List Nat) : TG := fun v σ H Q => ∃ env G d, Rel K env σ G H ∧ Dv K G v d ∧ ∃ env', g d env = some env' ∧ ∀ σ', Rel K env' σ' G H → Fr env σ G H env' σ' G H → Tch ws σ σ' → Q σ' H
theorem pg_imp {X : Cx} {e : Expr} {t t' : TG} (h : PG X e t) (k : ∀ v σ H Q, t' v σ H Q → t v σ H Q) : PG X e t' := ⟨fun pins s σ H v u Q I r w => h.run pins s σ H v u Q I r (k v σ H Q w)⟩
theorem setV_some {i : Nat} {s : Sl} {env env' : DEnv} (h : setV i s env = some env') : ∃ s0, env[i]? = some s0 ∧ (∀ xs, s0 ≠ .p xs) ∧ env' = env.set i s := by
  unfold setV at h
  cases q : env[i]? with
  | none => rw [q] at h; cases h
  | some s0 =>
    rw [q] at h
    cases s0 with
    | p xs => cases h
    | u d => cases h; exact ⟨_, rfl, fun _ z => (nomatch z), rfl⟩
    | t d => cases h; exact ⟨_, rfl, fun _ z => (nomatch z), rfl⟩
    | no => cases h; exact ⟨_, rfl, fun _ z => (nomatch z), rfl⟩
    | v d => cases h; exact ⟨_, rfl, fun _ z => (nomatch z), rfl⟩
    | l d => cases h; exact ⟨_, rfl, fun _ z => (nomatch z), rfl⟩
    | n _ => cases h; exact ⟨_, rfl, fun _ z => (nomatch z), rfl⟩
    | m d => cases h; exact ⟨_, rfl, fun _ z => (nomatch z), rfl⟩
    | f d => cases h; exact ⟨_, rfl, fun _ z => (nomatch z), rfl⟩
    | a d _ _ => cases h; exact ⟨_, rfl, fun _ z => (nomatch z), rfl⟩
abbrev CG (X : Cx) (e : Expr) (g : DG) (ws : List Nat) : Prop := PG X e (rdG X.K g ws)
section
variable {X : Cx} {W : WX} {pos : Pos}
theorem cg_name {i : Nat} {x : Str} (hN : X.N.Nodup) (hi : X.N[i]? = some x := by rfl) (hx : Loc X.env.scope x := by first | exact Or.inl rfl | exact Or.inr rfl) (hf : X.fn x = true ∨ X.env.scope.names.lookup x = some .local := by first | exact .inl rfl | exact .inr rfl | assumption) : CG X (.Name x pos) (gN i) [i] :=
  pg_imp (pg_name hN hi hx hf) fun v σ H Q h => by
    obtain ⟨env, G, d, R, dv, env', e, k⟩ := h
    obtain ⟨s0, e1, e2, rfl⟩ := setV_some e
    exact k _ (R.set e1 e2 ⟨v, rfl, dv⟩ (fun _ z => nomatch z) fun z => nomatch z) (Fr.set R e1 e2 (fun _ z => nomatch z) rfl) ⟨List.length_set, fun j hj => List.getElem?_set_ne (fun z => hj (by simp [z]))⟩
def sNx : DS := fun env => .nx env
def Fl.seq (r : Fl) (t : DS) : Fl := match r with
  | .nx e => t e
  | r => r
def sSeq (s t : DS) : DS := fun env => (s env).seq t
def sAsg (de : DE) (g : DG) : DS := fun env => (de env).fl fun d e1 => match g d e1 with
  | some e2 => .nx e2
  | none => .stuck
def sAsgL (i : Nat) (dl : DA) : DS := fun env => (dl env).fl fun xs e1 => match setV i (.l xs) e1 with
  | some e2 => .nx e2
  | none => .stuck
def sDrop (de : DE) : DS := fun env => (de env).fl fun _ e1 => .nx e1
def sRet (de : DE) : DS := fun env => (de env).fl fun d e1 => .rt d e1
def sRetL (dl : DA) : DS := fun env => (dl env).fl fun d e1 => .rl d e1
def sIf (t : DT) (s u : DS) : DS := fun env => (t env).fl fun b e1 => if b then s e1 else u e1
abbrev CS (X : Cx) (W : WX) (st : Stmt) (ds : DS) : Prop := PS X st (rdS X.K X.mg W ds)
abbrev CSs (X : Cx) (W : WX) (st : List Stmt) (ds : DS) : Prop := PSs X st (rdS X.K X.mg W ds)
variable {st : Stmt} {rest : List Stmt} {ds du : DS} {e : Expr} {de : DE}
theorem css_nil : CSs X W [] sNx := pss_imp pss_nil fun E σ H h => by
  obtain ⟨env, G, R, h⟩ := h
  exact h σ G H R (Fr.refl _ _ _ _)
theorem css_cons (h1 : CS X W st ds) (h2 : CSs X W rest du) : CSs X W (st :: rest) (sSeq ds du) := pss_imp (pss_cons h1 h2) fun E σ H h => by
  obtain ⟨env, G, R, h⟩ := h
  refine ⟨env, G, R, ?_⟩
  have h' : RunS X.K X.mg W env σ G H ((ds env).seq du) E := h
  cases q : ds env with
  | nx e1 =>
    rw [q] at h'
    exact fun σ' G' H' R' F' => ⟨e1, G', R', h'.shift F'⟩
  | bk e1 => rw [q] at h'; exact h'
  | ct e1 => rw [q] at h'; exact h'
  | rt d e1 => rw [q] at h'; exact h'
  | rl d e1 => rw [q] at h'; exact h'
  | ex d e1 => rw [q] at h'; exact h'
  | stuck => rw [q] at h'; exact h'
theorem css_one (h1 : CS X W st ds) : CSs X W [st] ds := pss_one h1
theorem cs_set {i : Nat} {x : Str} {pos' : Pos} (hN : X.N.Nodup) (he : CE X W e de) (hi : X.N[i]? = some x := by rfl) (hx : Loc X.env.scope x := by first | exact Or.inl rfl | exact Or.inr rfl) (hs : swapsWith e (some (.Name x pos')) pos.line X.env = pure false := by rfl) (hf : X.fn x = true ∨ X.env.scope.names.lookup x = some .local := by first | exact .inl rfl | exact .inr rfl | assumption) :
    CS X W (.Assign [.Name x pos'] e pos) (sAsg de (gN i)) := ps_imp (ps_set hN hi hx he hs hf) fun E σ H h => by
  obtain ⟨env, G, R, h⟩ := h
  refine E_thenS R h fun d e1 v G1 H1 _ R1 dv F1 h1 => ?_
  cases q : gN i d e1 with
  | none => rw [q] at h1; exact h1.elim
  | some e2 =>
    rw [q] at h1
    obtain ⟨s0, a1, a2, rfl⟩ := setV_some q
    exact h1 _ G1 H1 (R1.set a1 a2 ⟨v, rfl, dv⟩ (fun _ z => nomatch z) fun z => nomatch z) (Fr.set R1 a1 a2 (fun _ z => nomatch z) rfl)
theorem setL_ok {K : PySem.W.Frag} {mg : Str → Option Value} {i : Nat} {dl : DA} (E : Ends) (σ : L2.St) (H : Hp) (h : rdS K mg W (sAsgL i dl) E σ H) : tAsg (rdL K mg W dl) (gName i) E σ H := by
  obtain ⟨env, G, R, h⟩ := h
  refine L_thenS R h fun xs e1 a vs G1 H1 _ R1 h1 h2 h3 h4 dv F1 hk => ?_
  cases q : setV i (.l xs) e1 with
  | none => rw [q] at hk; exact hk.elim
  | some e2 =>
    rw [q] at hk
    obtain ⟨s0, a1, a2, rfl⟩ := setV_some q
    have li : i < e1.length := (List.getElem?_eq_some_iff.mp a1).1
    exact hk (σ.set i (some (.ref a))) G1 H1 (R1.set a1 a2 ⟨a, vs, rfl, h1, h2, dv⟩ (fun _ z => nomatch z) fun _ b hb => by cases hb; exact h4) (F1.setN R1 li (fun b hb => by cases hb; exact h3) rfl)
theorem cs_setL {i : Nat} {x : Str} {pos' : Pos} {dl : DA} (hN : X.N.Nodup) (he : CL X W e dl) (hi : X.N[i]? = some x := by rfl) (hx : Loc X.env.scope x := by first | exact Or.inl rfl | exact Or.inr rfl) (hs : swapsWith e (some (.Name x pos')) pos.line X.env = pure false := by rfl) (hf : X.fn x = true ∨ X.env.scope.names.lookup x = some .local := by first | exact .inl rfl | exact .inr rfl | assumption) :
    CS X W (.Assign [.Name x pos'] e pos) (sAsgL i dl) := ps_imp (ps_set hN hi hx he hs hf) setL_ok
theorem cs_drop (he : CE X W e de) (hs : swapsWith e none pos.line X.env = pure false := by rfl) : CS X W (.Expr e pos) (sDrop de) := ps_imp (ps_expr he hs) fun E σ H h => by
  obtain ⟨env, G, R, h⟩ := h
  exact E_thenS R h fun d e1 v G1 H1 _ R1 dv F1 h1 => h1 σ G1 H1 R1 (Fr.refl _ _ _ _)
theorem cs_ret (he : CE X W e de) : CS X W (.Return (some e) pos) (sRet de) := ps_imp (ps_ret he) fun E σ H h => by
  obtain ⟨env, G, R, h⟩ := h
  exact E_thenS R h fun d e1 v G1 H1 _ R1 dv F1 h1 => h1 v σ G1 H1 R1 dv (Fr.refl _ _ _ _)
theorem cs_retL {dl : DA} (he : CL X W e dl) : CS X W (.Return (some e) pos) (sRetL dl) := ps_imp (ps_ret he) fun E σ H h => by
  obtain ⟨env, G, R, h⟩ := h
  exact L_thenS R h fun xs e1 a vs G1 H1 _ R1 h1 h2 h3 h4 dv F1 hk => hk a vs σ G1 H1 R1 h1 h2 h3 h4 dv F1
theorem cs_if {c : Expr} {a b : List Stmt} {dt : DT} (hc : CT X W c dt) (ha : CSs X W a ds) (hb : CSs X W b du) : CS X W (.If c a b pos) (sIf dt ds du) := ps_imp (ps_if hc ha hb) fun E σ H h => by
  obtain ⟨env, G, R, h⟩ := h
  refine T_thenS R h fun d e1 G1 H1 _ R1 F1 h1 => ?_
  cases d with
  | true => exact ⟨e1, G1, R1, h1⟩
  | false => exact ⟨e1, G1, R1, h1⟩
/-- J gives ds, one by one, as long as G stands -/
def WalkD (K : PySem.W.Frag) (J : It) (ds : List D) (G : Hp) : Prop := ∀ (i : Nat) (G' H' : Hp), Ex G G' → Ex G' H' →
  (∀ d, ds[i]? = some d → J.go i H' ∧ ∀ x H'', J.yld i H' x H'' → ∃ G'', Grow G' H' G'' H'' ∧ Dv K G'' x d) ∧ (ds.length ≤ i → J.stop i H')
def RunI (K : PySem.W.Frag) (mg : Str → Option Value) (W : WX) (env : DEnv) (σ : L2.St) (G H : Hp) (r : Rs (List D)) (R : It → Hp → Prop) : Prop := match r with
  | .ok ds env' => ∀ J G' H', Rel K env' σ G' H' → WalkD K J ds G' → Fr env σ G H env' σ G' H' → R J H'
  | .ex x env' => RunX K mg W env σ G H x env'
  | .stuck => False
def rdI (K : PySem.W.Frag) (mg : Str → Option Value) (W : WX) (di : DA) : TI := fun σ H R => ∃ env G, Rel K env σ G H ∧ RunI K mg W env σ G H (di env) R
abbrev CI (X : Cx) (W : WX) (tg e : Expr) (di : DA) : Prop := PI X tg e (rdI X.K X.mg W di)
theorem pi_imp {tg e : Expr} {t t' : TI} (h : PI X tg e t) (k : ∀ σ H R, t' σ H R → t σ H R) : PI X tg e t' := ⟨fun pins s σ H R I w => h.run pins s σ H R I (k σ H R w)⟩
theorem pi_or {tg e : Expr} {t u : TI} (h1 : PI X tg e t) (h2 : PI X tg e u) : PI X tg e (fun σ H R => t σ H R ∨ u σ H R) := ⟨fun pins s σ H R I w => w.elim (fun z => h1.run pins s σ H R I z) fun z => h2.run pins s σ H R I z⟩
end
end DL
set_option Elab.async false
set_option linter.all false
set_option maxRecDepth 100000
set_option autoImplicit false
namespace DL
open PySem L2
def iSeq (de : DE) : DA := fun env => (de env).bind fun d e1 => match d with
  | .list xs => .ok xs e1
  | .tuple xs => .ok xs e1
  | _ => .stuck
def rngD (lo hi : Int) : List D := (List.range (hi - lo).toNat).map fun k => .int (lo + (k : Nat))
def int1 : List D → Option Int
  | [.int j] => some j
  | _ => none
theorem int1_some {ds : List D} {j : Int} (h : int1 ds = some j) : ds = [.int j] := by
  unfold int1 at h
  split at h
  · cases h; rfl
  · cases h
noncomputable def iRng1 (da : DA) : DA := fun env => (da env).bind fun ds e1 => match int1 ds with
  | some j => if I62 j then .ok (rngD 0 j) e1 else .stuck
  | none => .stuck
theorem walk_list {K : PySem.W.Frag} {G : Hp} {a : Addr} {xs : List V} {ds : List D} (h : RL K G a xs) (dv : DvAll K G xs ds) : WalkD K (Itl K a) ds G := fun i G' H' e1 e2 => by
  have hq : SqL K H' a xs := ((e1.trans e2).rl h).sq
  refine ⟨fun d hd => ?_, fun hl => ⟨xs, hq, by rw [dv.length]; exact hl⟩⟩
  obtain ⟨v, hv, dvv⟩ := dv.get hd
  refine ⟨⟨xs, v, hq, hv⟩, fun x H'' ⟨e, y⟩ => ?_⟩
  subst e
  have : x = v := Option.some.inj ((y xs hq).symm.trans hv)
  subst this
  exact ⟨G', Grow.refl e2, dvv.up e1⟩
theorem walk_tup {K : PySem.W.Frag} {G : Hp} {a : Addr} {xs : List V} {ds : List D} (h : SqT K G a xs) (dv : DvAll K G xs ds) : WalkD K (Itt K a) ds G := fun i G' H' e1 e2 => by
  have hq : SqT K H' a xs := (e1.trans e2).t h
  refine ⟨fun d hd => ?_, fun hl => ⟨xs, hq, by rw [dv.length]; exact hl⟩⟩
  obtain ⟨v, hv, dvv⟩ := dv.get hd
  refine ⟨⟨xs, v, hq, hv⟩, fun x H'' ⟨e, y⟩ => ?_⟩
  subst e
  have : x = v := Option.some.inj ((y xs hq).symm.trans hv)
  subst this
  exact ⟨G', Grow.refl e2, dvv.up e1⟩
theorem walk_rng {K : PySem.W.Frag} {G : Hp} (lo hi : Int) : WalkD K (Itr lo (hi - lo).toNat) (rngD lo hi) G := fun i G' H' e1 e2 => by
  have hl : (rngD lo hi).length = (hi - lo).toNat := by simp [rngD]
  refine ⟨fun d hd => ?_, fun hl' => by rw [hl] at hl'; exact hl'⟩
  obtain ⟨h1, h2⟩ := List.getElem?_eq_some_iff.mp hd
  have h1' : i < (hi - lo).toNat := by rw [← hl]; exact h1
  refine ⟨h1', fun x H'' ⟨e, y⟩ => ?_⟩
  subst e
  have ed : d = .int (lo + (i : Nat)) := by rw [← h2]; simp [rngD]
  subst ed
  rw [y]
  exact ⟨G', Grow.refl e2, .int _⟩
section
variable {X : Cx} {W : WX} {pos : Pos} {tg e : Expr} {de : DE}
theorem ci_seq (he : CE X W e de) : CI X W tg e (iSeq de) := pi_imp (pi_or (pi_list he) (pi_tup he)) fun σ H R h => by
  obtain ⟨env, G, R0, h⟩ := h
  have h' : RunI X.K X.mg W env σ G H ((de env).bind fun d e1 => match d with
    | .list xs => .ok xs e1
    | .tuple xs => .ok xs e1
    | _ => .stuck) R := h
  cases q : de env with
  | stuck => rw [q] at h'; exact h'.elim
  | ex x e => rw [q] at h'; exact .inl ⟨env, G, R0, by rw [q]; exact h'⟩
  | ok d e1 =>
    rw [q] at h'
    cases d with
    | list xs =>
      refine .inl ⟨env, G, R0, ?_⟩
      rw [q]
      intro v G1 H1 R1 dv F1
      cases dv with
      | lst a b => exact ⟨_, rfl, ⟨_, (R1.ex.rl a).sq⟩, h' _ G1 H1 R1 (walk_list a b) F1⟩
    | tuple xs =>
      refine .inr ⟨env, G, R0, ?_⟩
      rw [q]
      intro v G1 H1 R1 dv F1
      cases dv with
      | tup a b => exact ⟨_, rfl, ⟨_, (R1.ex.n a).t⟩, h' _ G1 H1 R1 (walk_tup a.t b) F1⟩
    | none => exact h'.elim
    | bool b => exact h'.elim
    | int b => exact h'.elim
    | str b => exact h'.elim
    | dict b => exact h'.elim
theorem A_thenI {K : PySem.W.Frag} {mg : Str → Option Value} {env : DEnv} {σ : L2.St} {G H : Hp} {da : DA} {f : List D → DEnv → Rs (List D)} {R : It → Hp → Prop} {R' : List V → Hp → Prop} (hR : Rel K env σ G H) (h : RunI K mg W env σ G H ((da env).bind f) R)
    (k : ∀ d e1 v G1 H1, da env = .ok d e1 → Rel K e1 σ G1 H1 → DvAll K G1 v d → Fr env σ G H e1 σ G1 H1 → RunI K mg W e1 σ G1 H1 (f d e1) R → R' v H1) : rdA K mg W da σ H R' :=
  A_then hR (P := fun e s G H r => RunI K mg W e s G H r R) h (fun _ _ z => z) (fun z => z) (fun e1 G1 H1 r a b => by
    cases r with
    | ok ds e => exact fun J G' H' x y z => a J G' H' x y (b.trans z)
    | ex x e => exact RunX.shift a b
    | stuck => exact a) k
theorem ci_range1 {a : Expr} {da : DA} {p : Pos} (hm : X.mg "range" = none) (ha : CA X W [a] da) (hg : Gl X "range" := by rfl) (hs : starEach [a] X.env = [(false, eval a X.env)] := by rfl) : CI X W tg (.Call (.Name "range" p) [a] [] pos) (iRng1 da) :=
  pi_imp (pi_range1 hg hm ha hs) fun σ H R h => by
    obtain ⟨env, G, R0, h⟩ := h
    refine A_thenI R0 h fun ds e1 vs G1 H1 q R1 dv F1 h1 => ?_
    cases q2 : int1 ds with
    | none => rw [q2] at h1; exact h1.elim
    | some j =>
      rw [q2] at h1
      have e := int1_some q2
      subst e
      obtain ⟨v, rfl, dv1⟩ := dv.inv1
      obtain rfl : v = .int j := by cases dv1; rfl
      by_cases c : I62 j
      · have h2 : RunI X.K X.mg W e1 σ G1 H1 (if I62 j then .ok (rngD 0 j) e1 else .stuck) R := h1
        rw [if_pos c] at h2
        have w := walk_rng (K := X.K) (G := G1) 0 j
        rw [Int.sub_zero] at w
        exact ⟨j, rfl, c.1, c.2, h2 _ G1 H1 R1 w (Fr.refl _ _ _ _)⟩
      · have h2 : RunI X.K X.mg W e1 σ G1 H1 (if I62 j then .ok (rngD 0 j) e1 else .stuck) R := h1
        rw [if_neg c] at h2
        exact h2.elim
end
def wipeD (env : DEnv) : List Nat → DEnv
  | [] => env
  | v :: vs => (wipeD env vs).set v .no
def mergeD (env0 env : DEnv) : List Nat → DEnv
  | [] => env
  | v :: vs => (mergeD env0 env vs).set v (env0.getD v .no)
def noOwn (env : DEnv) (vs : List Nat) : Bool := vs.all fun i => match env[i]? with
  | some s => !s.own
  | none => false
def compD (g : DG) (t : DT) (e : DE) (vs : List Nat) : List D → DA
  | [] => fun env => .ok [] env
  | d :: ds => fun env => match g d env with
    | none => .stuck
    | some e1 => (t e1).bind fun b e2 => if b then (e e2).bind fun y e3 => (compD g t e vs ds (wipeD e3 vs)).bind fun ys e4 => .ok (y :: ys) e4 else compD g t e vs ds (wipeD e2 vs)
def tYesD : DT := fun env => .ok true env
def lComp (di : DA) (g : DG) (t : DT) (e : DE) (vs : List Nat) : DA := fun env => (di env).bind fun ds e1 =>
  if ds.length ≤ 100000 ∧ noOwn e1 vs = true then match compD g t e vs ds (wipeD e1 vs) with
    | .ok ys e2 => .ok ys (mergeD e1 e2 vs)
    | _ => .stuck
  else .stuck
theorem wipe_get (σ : L2.St) (j : Nat) : ∀ vs : List Nat, (wipe σ vs)[j]? = if j ∈ vs then (σ[j]?).map fun _ => none else σ[j]?
  | [] => by simp [wipe]
  | v :: vs => by
    unfold wipe
    by_cases h : j = v
    · subst h
      rw [if_pos (by simp)]
      by_cases hl : j < (wipe σ vs).length
      · rw [List.getElem?_set_self hl]
        rw [wipe_length] at hl
        rw [List.getElem?_eq_getElem hl]; rfl
      · rw [List.getElem?_eq_none (by simpa using hl)]
        rw [wipe_length] at hl
        rw [List.getElem?_eq_none (by omega)]; rfl
    · rw [List.getElem?_set_ne (Ne.symm h), wipe_get σ j vs]
      by_cases hv : j ∈ vs
      · rw [if_pos hv, if_pos (by simp [hv])]
      · rw [if_neg hv, if_neg (by simp [h, hv])]
theorem wipeD_length (env : DEnv) : ∀ vs : List Nat, (wipeD env vs).length = env.length
  | [] => rfl
  | v :: vs => by unfold wipeD; rw [List.length_set, wipeD_length env vs]
theorem wipeD_get (env : DEnv) (j : Nat) : ∀ vs : List Nat, (wipeD env vs)[j]? = if j ∈ vs then (env[j]?).map fun _ => Sl.no else env[j]?
  | [] => by simp [wipeD]
  | v :: vs => by
    unfold wipeD
    by_cases h : j = v
    · subst h
      rw [if_pos (by simp)]
      by_cases hl : j < (wipeD env vs).length
      · rw [List.getElem?_set_self hl]
        rw [wipeD_length] at hl
        rw [List.getElem?_eq_getElem hl]; rfl
      · rw [List.getElem?_eq_none (by simpa using hl)]
        rw [wipeD_length] at hl
        rw [List.getElem?_eq_none (by omega)]; rfl
    · rw [List.getElem?_set_ne (Ne.symm h), wipeD_get env j vs]
      by_cases hv : j ∈ vs
      · rw [if_pos hv, if_pos (by simp [hv])]
      · rw [if_neg hv, if_neg (by simp [h, hv])]
theorem mergeD_length (env0 env : DEnv) : ∀ vs : List Nat, (mergeD env0 env vs).length = env.length
  | [] => rfl
  | v :: vs => by unfold mergeD; rw [List.length_set, mergeD_length env0 env vs]
theorem mergeD_get (env0 env : DEnv) (hl0 : env0.length = env.length) (j : Nat) : ∀ vs : List Nat, (mergeD env0 env vs)[j]? = if j ∈ vs then env0[j]? else env[j]?
  | [] => by simp [mergeD]
  | v :: vs => by
    unfold mergeD
    by_cases h : j = v
    · subst h
      rw [if_pos (by simp)]
      by_cases hl : j < (mergeD env0 env vs).length
      · rw [List.getElem?_set_self hl]
        rw [mergeD_length] at hl
        rw [List.getD_eq_getElem?_getD, List.getElem?_eq_getElem (by omega)]; rfl
      · rw [List.getElem?_eq_none (by simpa using hl)]
        rw [mergeD_length] at hl
        rw [List.getElem?_eq_none (by omega)]
    · rw [List.getElem?_set_ne (Ne.symm h), mergeD_get env0 env hl0 j vs]
      by_cases hv : j ∈ vs
      · rw [if_pos hv, if_pos (by simp [hv])]
      · rw [if_neg hv, if_neg (by simp [h, hv])]
theorem wipe_ext {σ1 σ2 : L2.St} {vs : List Nat} (hl : σ1.length = σ2.length) (h : ∀ j : Nat, j ∉ vs → σ1[j]? = σ2[j]?) : wipe σ1 vs = wipe σ2 vs := by
  refine List.ext_getElem? fun j => ?_
  rw [wipe_get, wipe_get]
  by_cases hv : j ∈ vs
  · rw [if_pos hv, if_pos hv]
    by_cases c : j < σ1.length
    · rw [List.getElem?_eq_getElem c, List.getElem?_eq_getElem (by omega)]; rfl
    · rw [List.getElem?_eq_none (by omega), List.getElem?_eq_none (by omega)]
  · rw [if_neg hv, if_neg hv, h j hv]
theorem wipe_own {env : DEnv} {σ : L2.St} {H : Hp} {vs : List Nat} {i : Nat} {a : Addr} (h : OwnAt (wipeD env vs) (wipe σ vs) H i a) : OwnAt env σ H i a ∧ i ∉ vs := by
  obtain ⟨s, o, e1, e3, w⟩ := h
  rw [wipeD_get] at e1
  rw [wipe_get] at e3
  by_cases hv : i ∈ vs
  · rw [if_pos hv] at e1
    cases q : env[i]? with
    | none => rw [q] at e1; cases e1
    | some t => rw [q] at e1; cases e1; exact w.elim
  · rw [if_neg hv] at e1 e3
    exact ⟨⟨s, o, e1, e3, w⟩, hv⟩
theorem Rel.wipe {K : PySem.W.Frag} {env : DEnv} {σ : L2.St} {G H : Hp} (R : Rel K env σ G H) (vs : List Nat) : Rel K (wipeD env vs) (L2.wipe σ vs) G H := by
  refine ⟨R.ex, by rw [wipeD_length, wipe_length]; exact R.len, fun i s o e1 e2 => ?_, fun i j a x y => R.dist i j a (wipe_own x).1 (wipe_own y).1⟩
  rw [wipeD_get] at e1
  rw [wipe_get] at e2
  by_cases hv : i ∈ vs
  · rw [if_pos hv] at e1
    cases q : env[i]? with
    | none => rw [q] at e1; cases e1
    | some t => rw [q] at e1; cases e1; trivial
  · rw [if_neg hv] at e1 e2
    exact R.slot i s o e1 e2
theorem Fr.wipe (env : DEnv) (σ : L2.St) (G H : Hp) (vs : List Nat) : Fr env σ G H (wipeD env vs) (L2.wipe σ vs) G H := by
  refine ⟨Ex.refl _, fun _ _ h _ => h, fun _ h => h, fun _ h => .inl h, fun a ⟨i, h⟩ => .inl ⟨i, (wipe_own h).1⟩, fun i s h n => ?_⟩
  rw [wipeD_get] at h
  by_cases hv : i ∈ vs
  · rw [if_pos hv] at h
    cases q : env[i]? with
    | none => rw [q] at h; cases h
    | some t => rw [q] at h; cases h; exact absurd rfl n
  · rw [if_neg hv] at h
    rw [wipe_get, if_neg hv]
    exact ⟨rfl, s, h, rfl⟩
/-- an object that was not there at first is changed -/
theorem Fr.mutNew {env env' : DEnv} {σ σ' : L2.St} {G H G' H' : Hp} {p : Addr} {o : HO} (F : Fr env σ G H env' σ' G' H') (h : H p = none) (m : ∀ i a, OwnAt env' σ' (upd H' p o) i a ↔ OwnAt env' σ' H' i a) : Fr env σ G H env' σ' G' (upd H' p o) :=
  ⟨F.gg, fun a u ha hn => by rw [upd_ne (ne_of_none ha h)]; exact F.keep a u ha hn, fun a ha => by
    by_cases z : a = p
    · subst z; exact h
    · rw [upd_ne z] at ha; exact F.dom a ha, F.fresh, fun a ⟨i, w⟩ => F.own a ⟨i, (m i a).1 w⟩, F.par⟩
theorem Rel.mutFreeO {K : PySem.W.Frag} {env : DEnv} {σ : L2.St} {G H : Hp} {p : Addr} {o : HO} (R : Rel K env σ G H) (hg : G p = none) (hn : ¬ Own env σ H p) : Rel K env σ G (upd H p o) ∧ ∀ i a, OwnAt env σ (upd H p o) i a ↔ OwnAt env σ H i a :=
  R.move (fun a u ha => by
    rw [upd_ne (fun z => by subst z; rw [hg] at ha; cases ha)]
    exact R.ex a u ha) (Ex.refl _) (fun a w => upd_ne fun z => by subst z; exact hn w) fun a w => (w.there R).2
theorem Rel.mutFree {K : PySem.W.Frag} {env : DEnv} {σ : L2.St} {G H : Hp} {p : Addr} {o : HO} (R : Rel K env σ G H) (hg : G p = none) (hn : ¬ Own env σ H p) : Rel K env σ G (upd H p o) := (R.mutFreeO hg hn).1
/-- no exception leaves -/
abbrev WF : WX := fun _ _ _ _ => False
section
variable {X : Cx} {W : WX} {pos : Pos}
theorem lc_ok {K : PySem.W.Frag} {mg : Str → Option Value} {di : DA} {g : DG} {ws : List Nat} {t : DT} {e : DE} {vs : List Nat} (hws : ∀ j ∈ ws, j ∈ vs) (σ : L2.St) (H : Hp) (Q : VK) (hQ : rdL K mg W (lComp di g t e vs) σ H Q) :
    tLc (rdI K mg W di) (rdG K g ws) (rdT K mg WF t) (rdE K mg WF e) vs σ H Q := by
  obtain ⟨env, G, R, h⟩ := hQ
  refine ⟨env, G, R, ?_⟩
  have h' : RunL K mg W env σ G H ((di env).bind fun ds e1 => if ds.length ≤ 100000 ∧ noOwn e1 vs = true then match compD g t e vs ds (wipeD e1 vs) with
    | .ok ys e2 => .ok ys (mergeD e1 e2 vs)
    | _ => .stuck else .stuck) Q := h
  cases q : di env with
  | stuck => rw [q] at h'; exact h'
  | ex x e => rw [q] at h'; exact h'
  | ok ds e1 =>
    rw [q] at h'
    intro J G1 H1 R1 wk F1 A hA
    have h2 : RunL K mg W env σ G H (if ds.length ≤ 100000 ∧ noOwn e1 vs = true then match compD g t e vs ds (wipeD e1 vs) with
      | .ok ys e2 => .ok ys (mergeD e1 e2 vs)
      | _ => .stuck else .stuck) Q := h'
    by_cases c : ds.length ≤ 100000 ∧ noOwn e1 vs = true
    · rw [if_pos c] at h2
      cases qc : compD g t e vs ds (wipeD e1 vs) with
      | stuck => rw [qc] at h2; exact h2.elim
      | ex x e => rw [qc] at h2; exact h2.elim
      | ok ys e2 =>
        rw [qc] at h2
        have Rw := R1.wipe vs
        have gA : G1 A = none := R1.ex.none hA
        have nA : ¬ Own (wipeD e1 vs) (L2.wipe σ vs) H1 A := fun z => (z.there Rw).1 hA
        have mA := (Rw.mutFreeO (o := .lst []) gA nA).2
        refine ⟨fun i m H' => ∃ env' G' acc vacc zs, Rel K env' (L2.wipe σ vs) G' H' ∧ Ex G1 G' ∧ Fr (wipeD e1 vs) (L2.wipe σ vs) G1 H1 env' (L2.wipe σ vs) G' H' ∧ H' A = some (.lst vacc) ∧ G' A = none ∧ ¬ Own env' (L2.wipe σ vs) H' A ∧ DvAll K G' vacc acc ∧ acc.length ≤ i ∧
            compD g t e vs (ds.drop i) env' = .ok zs e2 ∧ ys = acc ++ zs ∧ m + i = ds.length,
          ⟨ds.length, wipeD e1 vs, G1, [], [], ys, Rw.mutFree gA nA, Ex.refl _, ⟨Ex.refl _, fun a u ha _ => by rw [upd_ne (ne_of_none ha hA)]; exact ha, fun a ha => ?_, fun _ z => .inl z, fun a ⟨i, z⟩ => .inl ⟨i, (mA i a).1 z⟩, fun _ s z _ => ⟨rfl, s, z, rfl⟩⟩, upd_same, gA, fun ⟨i, z⟩ => nA ⟨i, (mA i A).1 z⟩, .nil, Nat.le_refl _, qc, rfl, rfl⟩, ?_⟩
        · by_cases z : a = A
          · subst z; exact hA
          · rw [upd_ne z] at ha; exact ha
        · rintro i m H' ⟨env', G', acc, vacc, zs, R', ex', F', a1, a2, a3, a4, a5, a6, a7, em⟩
          obtain ⟨w1, w2⟩ := wk i G' H' ex' R'.ex
          by_cases hi : i < ds.length
          · have hd : ds[i]? = some ds[i] := List.getElem?_eq_getElem hi
            obtain ⟨go, yl⟩ := w1 _ hd
            refine .inr ⟨go, fun H2 => ∃ env' G' acc vacc zs, Rel K env' (L2.wipe σ vs) G' H2 ∧ Ex G1 G' ∧ Fr (wipeD e1 vs) (L2.wipe σ vs) G1 H1 env' (L2.wipe σ vs) G' H2 ∧ H2 A = some (.lst vacc) ∧ G' A = none ∧ ¬ Own env' (L2.wipe σ vs) H2 A ∧ DvAll K G' vacc acc ∧ acc.length ≤ i + 1 ∧
              compD g t e vs (ds.drop (i + 1)) env' = .ok zs e2 ∧ ys = acc ++ zs, fun H2 ⟨env', G', acc, vacc, zs, b1, b2, b3, b4, b5, b6, b7, b8, b9, b10⟩ => ⟨m - 1, by omega, env', G', acc, vacc, zs, b1, b2, b3, b4, b5, b6, b7, b8, b9, b10, by omega⟩, fun x H'' y => ?_⟩
            obtain ⟨G'', gr, dv⟩ := yl x H'' y
            rw [List.drop_eq_getElem_cons hi] at a6
            have R'' := R'.grow gr
            have F'' := F'.trans (gr.fr R')
            have gA'' : G'' A = none := by
              cases z : G'' A with
              | none => rfl
              | some u =>
                rcases gr.fresh A (by rw [z]; exact fun w => by cases w) with w | w
                · exact absurd a2 w
                · rw [w] at a1; cases a1
            have hA'' : H'' A = some (.lst vacc) := gr.hh _ _ a1
            have a6' : (match g ds[i] env' with
              | none => Rs.stuck
              | some e1 => (t e1).bind fun b e2 => if b then (e e2).bind fun y e3 => (compD g t e vs (ds.drop (i + 1)) (wipeD e3 vs)).bind fun ys e4 => .ok (y :: ys) e4 else compD g t e vs (ds.drop (i + 1)) (wipeD e2 vs)) = .ok zs e2 := a6
            cases qg : g ds[i] env' with
            | none => rw [qg] at a6'; cases a6'
            | some f1 =>
              rw [qg] at a6'
              refine ⟨env', G'', ds[i], R'', dv, f1, qg, fun σ2 R2 F2 T2 => ?_⟩
              have hwipe : L2.wipe σ2 vs = L2.wipe σ vs := by
                have e1 : L2.wipe σ2 vs = L2.wipe (L2.wipe σ vs) vs := wipe_ext T2.1 fun j hj => T2.2 j fun z => hj (hws j z)
                rw [e1]
                refine wipe_ext (wipe_length _ _) fun j hj => ?_
                rw [wipe_get, if_neg hj]
              refine ⟨hwipe, ?_⟩
              have own2 : ¬ Own f1 σ2 H'' A := fun z => by
                rcases F2.own A z with ⟨k, w⟩ | w
                · exact a3 ⟨k, ((R'.growO gr).2 k A).1 w⟩
                · rw [w] at hA''; cases hA''
              have stay : ∀ {f2 : DEnv} {G3 H3 : Hp}, Rel K f2 σ2 G3 H3 → Fr f1 σ2 G'' H'' f2 σ2 G3 H3 → H3 A = some (.lst vacc) ∧ G3 A = none ∧ ¬ Own f2 σ2 H3 A := fun {f2 G3 H3} R3 F3 => by
                have h3 : H3 A = some (.lst vacc) := F3.keep A _ hA'' own2
                refine ⟨h3, ?_, fun z => ?_⟩
                · cases z : G3 A with
                  | none => rfl
                  | some u =>
                    rcases F3.fresh A (by rw [z]; exact fun w => by cases w) with w | w | w
                    · exact absurd gA'' w
                    · rw [w] at hA''; cases hA''
                    · exact absurd w own2
                · rcases F3.own A z with w | w
                  · exact own2 w
                  · rw [w] at hA''; cases hA''
              refine ⟨f1, G'', R2, ?_⟩
              have a6' : ((t f1).bind fun b e2 => if b then (e e2).bind fun y e3 => (compD g t e vs (ds.drop (i + 1)) (wipeD e3 vs)).bind fun ys e4 => .ok (y :: ys) e4 else compD g t e vs (ds.drop (i + 1)) (wipeD e2 vs)) = .ok zs e2 := a6'
              cases qt : t f1 with
              | stuck => rw [qt] at a6'; cases a6'
              | ex x e => rw [qt] at a6'; cases a6'
              | ok b f2 =>
                rw [qt] at a6'
                intro G3 H3 R3 F3
                obtain ⟨s1, s2, s3⟩ := stay R3 F3
                have a7' : (if b then (e f2).bind fun y e3 => (compD g t e vs (ds.drop (i + 1)) (wipeD e3 vs)).bind fun ys e4 => .ok (y :: ys) e4 else compD g t e vs (ds.drop (i + 1)) (wipeD f2 vs)) = .ok zs e2 := a6'
                cases b with
                | false =>
                  have a8 : compD g t e vs (ds.drop (i + 1)) (wipeD f2 vs) = .ok zs e2 := a7'
                  have Rn := R3.wipe vs
                  rw [hwipe] at Rn
                  have Fn := ((F''.trans F2).trans F3).trans (Fr.wipe f2 σ2 G3 H3 vs)
                  rw [hwipe] at Fn
                  refine ⟨wipeD f2 vs, G3, acc, vacc, zs, Rn, (ex'.trans gr.gg).trans F3.gg, Fn, s1, s2, fun z => ?_, a4.up (gr.gg.trans F3.gg), by omega, a8, a7⟩
                  rw [← hwipe] at z
                  obtain ⟨k, hk⟩ := z
                  exact s3 ⟨k, (wipe_own hk).1⟩
                | true =>
                  have a8 : (e f2).bind (fun y e3 => (compD g t e vs (ds.drop (i + 1)) (wipeD e3 vs)).bind fun ys e4 => .ok (y :: ys) e4) = .ok zs e2 := a7'
                  refine ⟨f2, G3, R3, ?_⟩
                  cases qe : e f2 with
                  | stuck => rw [qe] at a8; cases a8
                  | ex x e => rw [qe] at a8; cases a8
                  | ok y0 f3 =>
                    rw [qe] at a8
                    intro v G4 H4 R4 dv4 F4
                    obtain ⟨u1, u2, u3⟩ := stay R4 (F3.trans F4)
                    have a9 : (compD g t e vs (ds.drop (i + 1)) (wipeD f3 vs)).bind (fun ys e4 => .ok (y0 :: ys) e4) = .ok zs e2 := a8
                    cases qn : compD g t e vs (ds.drop (i + 1)) (wipeD f3 vs) with
                    | stuck => rw [qn] at a9; cases a9
                    | ex x e => rw [qn] at a9; cases a9
                    | ok zs' e5 =>
                      rw [qn] at a9
                      cases a9
                      have Rn := R4.wipe vs
                      rw [hwipe] at Rn
                      have Fn := (((F''.trans F2).trans F3).trans F4).trans (Fr.wipe f3 σ2 G4 H4 vs)
                      rw [hwipe] at Fn
                      have nown : ¬ Own (wipeD f3 vs) (L2.wipe σ vs) H4 A := fun z => by
                        rw [← hwipe] at z
                        obtain ⟨k, hk⟩ := z
                        exact u3 ⟨k, (wipe_own hk).1⟩
                      have up4 : Ex G' G4 := (gr.gg.trans F3.gg).trans F4.gg
                      have mN := (Rn.mutFreeO (o := .lst (vacc ++ [v])) u2 nown).2
                      refine ⟨vacc, u1, ?_, wipeD f3 vs, G4, acc ++ [y0], vacc ++ [v], zs', Rn.mutFree u2 nown, ((ex'.trans gr.gg).trans F3.gg).trans F4.gg, Fn.mutNew hA mN, upd_same, u2, fun ⟨i, z⟩ => nown ⟨i, (mN i A).1 z⟩, (a4.up up4).append (.one dv4), ?_, qn, by rw [a7]; simp⟩
                      · rw [a4.length]
                        exact Nat.lt_of_lt_of_le (show acc.length < 100000 by omega) (by decide)
                      · simp; omega
          · have ei : ds.drop i = [] := List.drop_eq_nil_of_le (by omega)
            rw [ei] at a6
            have a6' : Rs.ok ([] : List D) env' = Rs.ok zs e2 := a6
            injection a6' with z1 z2
            refine .inl ⟨w2 (by omega), ?_⟩
            rw [← z1, List.append_nil] at a7
            subst a7
            rw [← z2] at h2
            have hl0 : e1.length = env'.length := by rw [R1.len, R'.len, wipe_length]
            have ownM : ∀ i b, OwnAt (mergeD e1 env' vs) σ H' i b → OwnAt env' (L2.wipe σ vs) H' i b ∧ i ∉ vs := fun i b ⟨s, o, x1, x3, x2⟩ => by
              rw [mergeD_get e1 env' hl0] at x1
              by_cases hv : i ∈ vs
              · rw [if_pos hv] at x1
                have := List.all_eq_true.mp c.2 i hv
                rw [x1] at this
                simp [x2.own] at this
              · rw [if_neg hv] at x1
                exact ⟨⟨s, o, x1, by rw [wipe_get, if_neg hv]; exact x3, x2⟩, hv⟩
            refine h2 A vacc G' H' ⟨R'.ex, by rw [mergeD_length, ← hl0]; exact R1.len, fun i s o x1 x2 => ?_, fun i j b x y => R'.dist i j b (ownM i b x).1 (ownM j b y).1⟩ a1 a2 (F1.dom A hA) (fun ⟨i, z⟩ => a3 ⟨i, (ownM i A z).1⟩) a4
              (F1.trans ⟨F'.gg, fun a u ha hn => F'.keep a u ha fun ⟨i, z⟩ => hn ⟨i, (wipe_own z).1⟩, F'.dom, fun a ha => ?_, fun a ⟨i, z⟩ => ?_, fun i s hx n => ?_⟩)
            · rw [mergeD_get e1 env' hl0] at x1
              by_cases hv : i ∈ vs
              · rw [if_pos hv] at x1
                have hno := List.all_eq_true.mp c.2 i hv
                rw [x1] at hno
                have qs := R1.slot i s o x1 x2
                cases s with
                | no => trivial
                | v d => obtain ⟨v, e, qs⟩ := qs; exact ⟨v, e, qs.up F'.gg⟩
                | l xs => simp [Sl.own] at hno
                | p xs => simp [Sl.own] at hno
                | n _ => obtain ⟨b, e, q1⟩ := qs; exact ⟨b, e, F'.gg _ _ q1⟩
                | m xs => simp [Sl.own] at hno
                | t xs => simp [Sl.own] at hno
                | u xs => simp [Sl.own] at hno
                | f x => exact qs
                | a x _ _ => exact ⟨qs.1, qs.2.up F'.gg⟩
              · rw [if_neg hv] at x1
                exact R'.slot i s o x1 (by rw [wipe_get, if_neg hv]; exact x2)
            · rcases F'.fresh a ha with w | w | ⟨i, w⟩
              · exact .inl w
              · exact .inr (.inl w)
              · exact .inr (.inr ⟨i, (wipe_own w).1⟩)
            · rcases F'.own a ⟨i, (ownM i a z).1⟩ with ⟨k, w⟩ | w
              · exact .inl ⟨k, (wipe_own w).1⟩
              · exact .inr w
            · rw [mergeD_get e1 env' hl0] at hx
              by_cases hv : i ∈ vs
              · rw [if_pos hv] at hx
                have hno := List.all_eq_true.mp c.2 i hv
                rw [hx] at hno
                cases s <;> first | exact absurd rfl n | simp [Sl.own] at hno
              · rw [if_neg hv] at hx
                obtain ⟨p1, s0, p2, p3⟩ := F'.par i s hx n
                rw [wipeD_get, if_neg hv] at p2
                exact ⟨rfl, s0, p2, p3⟩
    · rw [if_neg c] at h2
      exact h2.elim
end
end DL
set_option Elab.async false
set_option linter.all false
set_option maxRecDepth 100000
set_option autoImplicit false
namespace DL
open PySem L2
theorem pts_imp {X : Cx} {e : List Expr} {t t' : TT} (h : PTs X e t) (k : ∀ σ H Q, t' σ H Q → t σ H Q) : PTs X e t' := ⟨fun pins s σ H Q I w => h.run pins s σ H Q I (k σ H Q w)⟩
section
variable {X : Cx} {W : WX} {pos : Pos} {K : PySem.W.Frag} {mg : Str → Option Value}
theorem cts_nil : PTs X [] (rdT X.K X.mg W tYesD) := pts_imp pts_nil fun σ H Q h => by
  obtain ⟨env, G, R, h⟩ := h
  exact h G H R (Fr.refl _ _ _ _)
theorem cts_one {c : Expr} {dt : DT} (h : CT X W c dt) : PTs X [c] (rdT X.K X.mg W dt) := pts_one h
theorem cl_comp {elt tg iter : Expr} {ifs : List Expr} {scope : Scope} {own : List (Str × Nat)} {di : DA} {g : DG} {ws : List Nat} {t : DT} {de : DE} (hc : X.calm = true) (hN : X.N.Nodup) (hi : CI X W tg iter di) (ok : BlkOk X.N X.env.scope scope own)
    (hg : ∀ (s : Shared) (H : Hp) (C : Addr) (cl : List (Str × Addr)) (fp : List Addr), CG (X.blk s H scope (compEnvC scope cl C X.env) fp) tg g ws)
    (ht : ∀ (s : Shared) (H : Hp) (C : Addr) (cl : List (Str × Addr)) (fp : List Addr), PTs (X.blk s H scope (compEnvC scope cl C X.env) fp) ifs (rdT X.K X.mg WF t))
    (he : ∀ (s : Shared) (H : Hp) (C : Addr) (cl : List (Str × Addr)) (fp : List Addr), CE (X.blk s H scope (compEnvC scope cl C X.env) fp) WF elt de)
    (hws : ∀ j ∈ ws, j ∈ own.map (·.2) := by decide) (hs : ∀ x, foldedSetIterable iter X.env x = pure x := by intro _; rfl) : CL X W (.ListComp elt [⟨tg, iter, ifs, 0⟩] scope pos) (lComp di g t de (own.map (·.2))) :=
  pe_imp (pe_lc hc hN hi ok hg ht he hs) fun σ H Q h => lc_ok hws σ H Q h
end
inductive Fo where
  | ok (d : D) (outs : DEnv)
  | okl (xs : List D) (outs : DEnv)
  | ex (x : Xc) (outs : DEnv)
  | stuck
abbrev Df := DEnv → Fo
section
variable (K : PySem.W.Frag) (mg : Str → Option Value)
def RunF (args : DEnv) (σ : L2.St) (G H : Hp) (r : Fo) (Q : VK) (E : XK) : Prop := match r with
  | .ok d outs => ∀ v G' H', Rel K outs σ G' H' → Dv K G' v d → Fr args σ G H outs σ G' H' → Q v H'
  | .okl xs outs => ∀ a vs G' H', Rel K outs σ G' H' → H' a = some (.lst vs) → G' a = none → H a = none → ¬ Own outs σ H' a → DvAll K G' vs xs → Fr args σ G H outs σ G' H' → Q (.ref a) H'
  | .ex x outs => ∀ cls dd G' H', XRel K mg x cls dd G' H' → Rel K outs σ G' H' → Fr args σ G H outs σ G' H' → E cls dd H'
  | .stuck => False
/-- the promise of a def by a function on data -/
def spD (np : Nat) (F : Df) : Sp := fun vs H Q E => vs.length = np ∧ ∃ args G, Rel K args (vs.map some) G H ∧ RunF K mg args (vs.map some) G H (F args) Q E
end
/-- what comes back of the arguments -/
def outOf : Sl → Sl → Sl
  | .p _, .p ys => .p ys
  | .u _, .u y => .u y
  | _, _ => .no
def outsOf (args env : DEnv) : DEnv := args.mapIdx fun i a => outOf a (env.getD i Sl.no)
/-- a def by its body: n slots -/
def bodyF (n : Nat) (ds : DS) : Df := fun args => match ds (args ++ List.replicate (n - args.length) Sl.no) with
  | .nx e => .ok .none (outsOf args e)
  | .rt d e => .ok d (outsOf args e)
  | .rl xs e => .okl xs (outsOf args e)
  | .ex x e => .ex x (outsOf args e)
  | _ => .stuck
section
variable {K : PySem.W.Frag} {mg : Str → Option Value}
theorem outs_get {args env : DEnv} {i : Nat} {s : Sl} (h : (outsOf args env)[i]? = some s) : s = Sl.no ∨ ∃ s0, args[i]? = some s0 ∧ env[i]? = some s ∧ s.pk ≠ 0 ∧ s0.pk = s.pk := by
  unfold outsOf at h
  rw [List.getElem?_mapIdx] at h
  cases q1 : args[i]? with
  | none => simp [q1] at h
  | some a =>
    simp only [q1, Option.map_some, Option.some.injEq] at h
    cases q2 : env[i]? with
    | none =>
      have e : env.getD i Sl.no = Sl.no := by rw [List.getD_eq_getElem?_getD, q2]; rfl
      rw [e] at h
      cases a <;> exact .inl h.symm
    | some b =>
      have e : env.getD i Sl.no = b := by rw [List.getD_eq_getElem?_getD, q2]; rfl
      rw [e] at h
      cases a <;> cases b <;> first | exact .inl h.symm | (subst h; exact .inr ⟨_, rfl, rfl, (by intro z; cases z), rfl⟩)
theorem rel_start {args : DEnv} {vs : List V} {G H : Hp} {N : List Str} (R : Rel K args (vs.map some) G H) (hn : vs.length ≤ N.length) : Rel K (args ++ List.replicate (N.length - args.length) Sl.no) (start N vs) G H := by
  have hl : args.length = vs.length := by simpa using R.len
  have own : ∀ i a, OwnAt (args ++ List.replicate (N.length - args.length) Sl.no) (start N vs) H i a → OwnAt args (vs.map some) H i a := fun i a ⟨s, o, e1, e3, e2⟩ => by
    by_cases c : i < args.length
    · rw [List.getElem?_append_left c] at e1
      unfold L2.start at e3
      rw [List.getElem?_append_left (by simpa [← hl] using c)] at e3
      exact ⟨s, o, e1, e3, e2⟩
    · rw [List.getElem?_append_right (by omega)] at e1
      obtain ⟨_, e⟩ := List.getElem?_eq_some_iff.mp e1
      simp at e
      rw [← e] at e2
      exact e2.elim
  refine ⟨R.ex, ?_, fun i s o e1 e2 => ?_, fun i j a x y => R.dist i j a (own i a x) (own j a y)⟩
  · unfold L2.start
    simp
    omega
  · by_cases c : i < args.length
    · rw [List.getElem?_append_left c] at e1
      unfold L2.start at e2
      rw [List.getElem?_append_left (by simpa [← hl] using c)] at e2
      exact R.slot i s o e1 e2
    · rw [List.getElem?_append_right (by omega)] at e1
      obtain ⟨_, e⟩ := List.getElem?_eq_some_iff.mp e1
      simp at e
      rw [← e]
      trivial
theorem start_get {N : List Str} {vs : List V} {i : Nat} (h : i < vs.length) : (start N vs)[i]? = (vs.map some)[i]? := by
  unfold L2.start
  rw [List.getElem?_append_left (by simpa using h)]
/-- the frame at the def's end, as the caller sees it -/
theorem ends_fr {args env : DEnv} {vs : List V} {σ' : L2.St} {G H G' H' : Hp} {N : List Str} (R : Rel K args (vs.map some) G H) (hn : vs.length ≤ N.length) (R' : Rel K env σ' G' H')
    (F : Fr (args ++ List.replicate (N.length - args.length) Sl.no) (start N vs) G H env σ' G' H') :
    Rel K (outsOf args env) (vs.map some) G' H' ∧ Fr args (vs.map some) G H (outsOf args env) (vs.map some) G' H' ∧ (∀ a, Own (outsOf args env) (vs.map some) H' a → Own env σ' H' a) := by
  have hl : args.length = vs.length := by simpa using R.len
  have up : ∀ i a, OwnAt args (vs.map some) H i a ↔ OwnAt (args ++ List.replicate (N.length - args.length) Sl.no) (start N vs) H i a := fun i a => by
    constructor
    · rintro ⟨s, o, e1, e3, e2⟩
      have c : i < args.length := (List.getElem?_eq_some_iff.mp e1).1
      exact ⟨s, o, by rw [List.getElem?_append_left c]; exact e1, by rw [start_get (by omega)]; exact e3, e2⟩
    · rintro ⟨s, o, e1, e3, e2⟩
      by_cases c : i < args.length
      · rw [List.getElem?_append_left c] at e1
        rw [start_get (by omega)] at e3
        exact ⟨s, o, e1, e3, e2⟩
      · rw [List.getElem?_append_right (by omega)] at e1
        obtain ⟨_, e⟩ := List.getElem?_eq_some_iff.mp e1
        simp at e
        rw [← e] at e2
        exact e2.elim
  -- a slot of outs that is a parameter's: it stands where it stood
  have back : ∀ (i : Nat) (s : Sl), (outsOf args env)[i]? = some s → s = Sl.no ∨ (env[i]? = some s ∧ σ'[i]? = (vs.map some)[i]?) := fun i s h => by
    rcases outs_get h with h | ⟨s0, h1, h2, h3, _⟩
    · exact .inl h
    · obtain ⟨e, _⟩ := F.par i s h2 h3
      have c : i < args.length := (List.getElem?_eq_some_iff.mp h1).1
      rw [start_get (by omega)] at e
      exact .inr ⟨h2, e⟩
  have ownO : ∀ i a, OwnAt (outsOf args env) (vs.map some) H' i a → OwnAt env σ' H' i a := fun i a ⟨s, o, e1, e3, e2⟩ => by
    rcases back i s e1 with h | ⟨h2, h3⟩
    · subst h; exact e2.elim
    · exact ⟨_, o, h2, by rw [h3]; exact e3, e2⟩
  have hlo : (outsOf args env).length = (vs.map some).length := by
    unfold outsOf
    rw [List.length_mapIdx, List.length_map]
    exact hl
  refine ⟨⟨R'.ex, hlo, fun i s o e1 e2 => ?_, fun i j a x y => R'.dist i j a (ownO i a x) (ownO j a y)⟩, ⟨F.gg, fun a o ha hn => F.keep a o ha fun ⟨i, z⟩ => hn ⟨i, (up i a).mpr z⟩, F.dom, fun a ha => ?_, fun a ⟨i, z⟩ => ?_, fun i s hi n => ?_⟩, fun a ⟨i, z⟩ => ⟨i, ownO i a z⟩⟩
  · rcases back i s e1 with h | ⟨h2, h3⟩
    · subst h; trivial
    · exact R'.slot i _ o h2 (by rw [h3]; exact e2)
  · rcases F.fresh a ha with w | w | ⟨i, w⟩
    · exact .inl w
    · exact .inr (.inl w)
    · exact .inr (.inr ⟨i, (up i a).mpr w⟩)
  · rcases F.own a ⟨i, ownO i a z⟩ with ⟨k, w⟩ | w
    · exact .inl ⟨k, (up k a).mpr w⟩
    · exact .inr w
  · rcases outs_get hi with h | ⟨s0, h1, h2, h3, h4⟩
    · subst h; exact absurd rfl n
    · exact ⟨rfl, s0, h1, h4⟩
end
end DL
set_option Elab.async false
set_option linter.all false
set_option maxRecDepth 100000
set_option autoImplicit false
namespace DL
open PySem L2
/-- an argument: data, or a slot's own list lent out -/
inductive Ar where
  | d (x : D)
  | g (x : Str)
  | s (i : Nat)
abbrev DAr := DEnv → Rs (List Ar)
def rNil : DAr := fun env => .ok [] env
def rCons (de : DE) (da : DAr) : DAr := fun env => (de env).bind fun x e1 => (da e1).bind fun xs e2 => .ok (.d x :: xs) e2
/-- what a def gets of a slot that is lent to it -/
def lendS : Sl → Sl
  | .l xs => .p xs
  | .p xs => .p xs
  | .n kvs => .n kvs
  | .t T => .u T
  | .u T => .u T
  | _ => .no
def lentS : Sl → Bool
  | .l _ => true
  | .p _ => true
  | .n _ => true
  | .t _ => true
  | .u _ => true
  | _ => false
def lent (i : Nat) (env : DEnv) : Bool := match env[i]? with
  | some s => lentS s
  | none => false
def ArRel (K : PySem.W.Frag) (G : Hp) (σ : L2.St) : List V → List Ar → Prop
  | [], [] => True
  | v :: vs, .d x :: as => Dv K G v x ∧ ArRel K G σ vs as
  | v :: vs, .g x :: as => v = .ref (He.ga K x) ∧ ArRel K G σ vs as
  | v :: vs, .s i :: as => σ[i]? = some (some v) ∧ ArRel K G σ vs as
  | _, _ => False
theorem ArRel.up {K : PySem.W.Frag} {G G' : Hp} {σ : L2.St} (e : Ex G G') : ∀ {vs : List V} {as : List Ar}, ArRel K G σ vs as → ArRel K G' σ vs as
  | [], [], _ => trivial
  | v :: vs, .d x :: as, h => ⟨h.1.up e, ArRel.up e h.2⟩
  | v :: vs, .g x :: as, h => ⟨h.1, ArRel.up e h.2⟩
  | v :: vs, .s i :: as, h => ⟨h.1, ArRel.up e h.2⟩
theorem ArRel.length {K : PySem.W.Frag} {G : Hp} {σ : L2.St} : ∀ {vs : List V} {as : List Ar}, ArRel K G σ vs as → vs.length = as.length
  | [], [], _ => rfl
  | v :: vs, .d x :: as, h => by simp [ArRel.length h.2]
  | v :: vs, .g x :: as, h => by simp [ArRel.length h.2]
  | v :: vs, .s i :: as, h => by simp [ArRel.length h.2]
theorem ArRel.getD {K : PySem.W.Frag} {G : Hp} {σ : L2.St} : ∀ {vs : List V} {as : List Ar} {j : Nat} {x : D}, ArRel K G σ vs as → as[j]? = some (.d x) → ∃ v, vs[j]? = some v ∧ Dv K G v x
  | [], [], _, _, _, e => by simp at e
  | v :: vs, .d y :: as, 0, x, h, e => by simp at e; subst e; exact ⟨v, rfl, h.1⟩
  | v :: vs, .s i :: as, 0, x, h, e => by simp at e
  | v :: vs, .g i :: as, 0, x, h, e => by simp at e
  | v :: vs, .g y :: as, j + 1, x, h, e => by simpa using ArRel.getD (j := j) (x := x) h.2 (by simpa using e)
  | v :: vs, .d y :: as, j + 1, x, h, e => by simpa using ArRel.getD (j := j) (x := x) h.2 (by simpa using e)
  | v :: vs, .s i :: as, j + 1, x, h, e => by simpa using ArRel.getD (j := j) (x := x) h.2 (by simpa using e)
theorem ArRel.getS {K : PySem.W.Frag} {G : Hp} {σ : L2.St} : ∀ {vs : List V} {as : List Ar} {j i : Nat}, ArRel K G σ vs as → as[j]? = some (.s i) → ∃ v, vs[j]? = some v ∧ σ[i]? = some (some v)
  | [], [], _, _, _, e => by simp at e
  | v :: vs, .s i :: as, 0, x, h, e => by simp at e; subst e; exact ⟨v, rfl, h.1⟩
  | v :: vs, .d i :: as, 0, x, h, e => by simp at e
  | v :: vs, .g i :: as, 0, x, h, e => by simp at e
  | v :: vs, .g y :: as, j + 1, x, h, e => by simpa using ArRel.getS (j := j) (i := x) h.2 (by simpa using e)
  | v :: vs, .d y :: as, j + 1, x, h, e => by simpa using ArRel.getS (j := j) (i := x) h.2 (by simpa using e)
  | v :: vs, .s i :: as, j + 1, x, h, e => by simpa using ArRel.getS (j := j) (i := x) h.2 (by simpa using e)
theorem ArRel.getG {K : PySem.W.Frag} {G : Hp} {σ : L2.St} : ∀ {vs : List V} {as : List Ar} {j : Nat} {x : Str}, ArRel K G σ vs as → as[j]? = some (.g x) → vs[j]? = some (.ref (He.ga K x))
  | [], [], _, _, _, e => by simp at e
  | v :: vs, .g y :: as, 0, x, h, e => by simp at e; subst e; have := h.1; subst this; rfl
  | v :: vs, .s i :: as, 0, x, h, e => by simp at e
  | v :: vs, .d i :: as, 0, x, h, e => by simp at e
  | v :: vs, .d y :: as, j + 1, x, h, e => by simpa using ArRel.getG (j := j) (x := x) h.2 (by simpa using e)
  | v :: vs, .g y :: as, j + 1, x, h, e => by simpa using ArRel.getG (j := j) (x := x) h.2 (by simpa using e)
  | v :: vs, .s i :: as, j + 1, x, h, e => by simpa using ArRel.getG (j := j) (x := x) h.2 (by simpa using e)
section
variable (K : PySem.W.Frag) (mg : Str → Option Value) (W : WX)
def RunR (env : DEnv) (σ : L2.St) (G H : Hp) (r : Rs (List Ar)) (Q : List V → Hp → Prop) : Prop := match r with
  | .ok as env' => ∀ vs G' H', Rel K env' σ G' H' → ArRel K G' σ vs as → (∀ i, Ar.s i ∈ as → lent i env' = true) → Fr env σ G H env' σ G' H' → Q vs H'
  | .ex x env' => RunX K mg W env σ G H x env'
  | .stuck => False
def rdR (de : DAr) : TA := fun σ H Q => ∃ env G, Rel K env σ G H ∧ RunR K mg W env σ G H (de env) Q
end
abbrev CR (X : Cx) (W : WX) (es : List Expr) (da : DAr) : Prop := PA X es (rdR X.K X.mg W da)
theorem RunR.shift {K : PySem.W.Frag} {mg : Str → Option Value} {W : WX} {env env1 : DEnv} {σ : L2.St} {G H G1 H1 : Hp} {r : Rs (List Ar)} {Q : List V → Hp → Prop} (h : RunR K mg W env σ G H r Q) (f : Fr env σ G H env1 σ G1 H1) : RunR K mg W env1 σ G1 H1 r Q := by
  cases r with
  | ok d e => exact fun v G' H' a b l c => h v G' H' a b l (f.trans c)
  | ex x e => exact RunX.shift h f
  | stuck => exact h
theorem lent_some {i : Nat} {env : DEnv} (h : lent i env = true) : ∃ s, env[i]? = some s ∧ lentS s = true := by
  unfold lent at h
  cases q : env[i]? with
  | none => rw [q] at h; cases h
  | some s => rw [q] at h; exact ⟨s, rfl, h⟩
theorem lent_val {K : PySem.W.Frag} {G H : Hp} {s : Sl} {o : Option V} (h : lentS s = true) (r : RS K G H s o) : ∃ v, o = some v := by
  cases s with
  | l xs => obtain ⟨a, vs, e, _⟩ := r; exact ⟨_, e⟩
  | p xs => obtain ⟨a, vs, e, _⟩ := r; exact ⟨_, e⟩
  | n xs => obtain ⟨a, e, _⟩ := r; exact ⟨_, e⟩
  | t T => obtain ⟨v, e, _⟩ := r; exact ⟨_, e⟩
  | u T => obtain ⟨v, e, _⟩ := r; exact ⟨_, e⟩
  | _ => cases h
section
variable {X : Cx} {W : WX} {pos : Pos} {e : Expr} {es : List Expr} {de : DE} {da : DAr}
theorem R_then {K : PySem.W.Frag} {mg : Str → Option Value} {env : DEnv} {σ : L2.St} {G H : Hp} {da : DAr} {β : Type} {f : List Ar → DEnv → Rs β} {R : List V → Hp → Prop} (hR : Rel K env σ G H) {P : DEnv → L2.St → Hp → Hp → Rs β → Prop}
    (h : P env σ G H ((da env).bind f)) (hx : ∀ x e, P env σ G H (.ex x e) → RunX K mg W env σ G H x e) (hst : ¬ P env σ G H .stuck)
    (hsh : ∀ e1 G1 H1 r, P env σ G H r → Fr env σ G H e1 σ G1 H1 → P e1 σ G1 H1 r)
    (k : ∀ as e1 vs G1 H1, da env = .ok as e1 → Rel K e1 σ G1 H1 → ArRel K G1 σ vs as → (∀ i, Ar.s i ∈ as → lent i e1 = true) → Fr env σ G H e1 σ G1 H1 → P e1 σ G1 H1 (f as e1) → R vs H1) : rdR K mg W da σ H R := by
  refine ⟨env, G, hR, ?_⟩
  cases q : da env with
  | ok d e1 =>
    rw [q] at h
    exact fun v G1 H1 a b l c => k d e1 v G1 H1 q a b l c (hsh _ _ _ _ h c)
  | ex x e => rw [q] at h; exact hx x e h
  | stuck => rw [q] at h; exact (hst h).elim
theorem cr_nil : CR X W [] rNil := pa_imp pa_nil fun σ H Q h => by
  obtain ⟨env, G, R, h⟩ := h
  exact h [] G H R trivial (fun i z => nomatch z) (Fr.refl _ _ _ _)
theorem E_thenR {K : PySem.W.Frag} {mg : Str → Option Value} {env : DEnv} {σ : L2.St} {G H : Hp} {de : DE} {f : D → DEnv → Rs (List Ar)} {Q : List V → Hp → Prop} {R : VK} (hR : Rel K env σ G H) (h : RunR K mg W env σ G H ((de env).bind f) Q)
    (k : ∀ d e1 v G1 H1, de env = .ok d e1 → Rel K e1 σ G1 H1 → Dv K G1 v d → Fr env σ G H e1 σ G1 H1 → RunR K mg W e1 σ G1 H1 (f d e1) Q → R v H1) : rdE K mg W de σ H R :=
  E_then hR (P := fun e s G H r => RunR K mg W e s G H r Q) h (fun _ _ z => z) (fun z => z) (fun _ _ _ _ a b => a.shift b) k
theorem cr_cons (ha : CE X W e de) (hr : CR X W es da) (hs : starEach (e :: es) X.env = (false, eval e X.env) :: starEach es X.env := by rfl) : CR X W (e :: es) (rCons de da) := pa_imp (pa_cons ha hr hs) fun σ H Q h => by
  obtain ⟨env, G, R, h⟩ := h
  refine E_thenR R h fun d e1 v G1 H1 _ R1 dv F1 h1 => R_then R1 (P := fun e s G H r => RunR X.K X.mg W e s G H r Q) h1 (fun _ _ z => z) (fun z => z) (fun _ _ _ _ a b => a.shift b) fun as e2 vs G2 H2 _ R2 ar le F2 h2 => ?_
  exact h2 (v :: vs) G2 H2 R2 ⟨dv.up F2.gg, ar⟩ (fun i z => by
    rcases List.mem_cons.mp z with z | z
    · cases z
    · exact le i z) (Fr.refl _ _ _ _)
/-- a name whose list is lent out: what comes behind does not take it away -/
theorem cr_lend (i : Nat) {x : Str} {p : Pos} (hr : CR X W es da) (hN : X.N[i]? = some x := by rfl) (hv : Vis X.env.scope x := by first | exact Or.inl rfl | exact Or.inr (Or.inl rfl) | exact Or.inr (Or.inr rfl)) (hd : (x == ("__debug__" : Str)) = false := by decide)
    (hcd : (x == ("__classdict__" : Str)) = false := by decide) (hs : starEach (.Name x p :: es) X.env = (false, eval (.Name x p) X.env) :: starEach es X.env := by rfl) : CR X W (.Name x p :: es) (fun env => if lent i env then (da env).bind fun xs e2 => if lent i e2 then .ok (.s i :: xs) e2 else .stuck else .stuck) := pa_imp (pa_cons (pe_var hN hv hd hcd) hr hs) fun σ H Q h => by
  obtain ⟨env, G, R, h⟩ := h
  by_cases c : lent i env = true
  · have h' : RunR X.K X.mg W env σ G H ((da env).bind fun xs e2 => if lent i e2 then .ok (.s i :: xs) e2 else .stuck) Q := by
      have h2 : RunR X.K X.mg W env σ G H (if lent i env = true then (da env).bind fun xs e2 => if lent i e2 then .ok (.s i :: xs) e2 else .stuck else .stuck) Q := h
      rw [if_pos c] at h2
      exact h2
    obtain ⟨s, hx, hs⟩ := lent_some c
    have li : i < σ.length := by
      rw [← R.len]
      exact (List.getElem?_eq_some_iff.mp hx).1
    have ho : σ[i]? = some σ[i] := List.getElem?_eq_getElem li
    obtain ⟨v, hv⟩ : ∃ v, σ[i]? = some (some v) := by
      obtain ⟨v, e⟩ := lent_val hs (R.slot i _ _ hx ho)
      exact ⟨v, by rw [ho, e]⟩
    refine ⟨v, hv, R_then R (P := fun e s G H r => RunR X.K X.mg W e s G H r Q) h' (fun _ _ z => z) (fun z => z) (fun _ _ _ _ a b => a.shift b) fun as e2 vs G2 H2 _ R2 ar le F2 h2 => ?_⟩
    by_cases c2 : lent i e2 = true
    · have h3 : RunR X.K X.mg W e2 σ G2 H2 (if lent i e2 = true then .ok (.s i :: as) e2 else .stuck) Q := h2
      rw [if_pos c2] at h3
      exact h3 (v :: vs) G2 H2 R2 ⟨hv, ar⟩ (fun j z => by
        rcases List.mem_cons.mp z with z | z
        · cases z; exact c2
        · exact le j z) (Fr.refl _ _ _ _)
    · have h3 : RunR X.K X.mg W e2 σ G2 H2 (if lent i e2 = true then .ok (.s i :: as) e2 else .stuck) Q := h2
      rw [if_neg c2] at h3
      exact h3.elim
  · have h2 : RunR X.K X.mg W env σ G H (if lent i env = true then (da env).bind fun xs e2 => if lent i e2 then .ok (.s i :: xs) e2 else .stuck else .stuck) Q := h
    rw [if_neg c] at h2
    exact h2.elim
end
def toSl (env : DEnv) : Ar → Sl
  | .d x => .v x
  | .g x => .f x
  | .s i => match env[i]? with
    | some s => lendS s
    | none => .no
def lookS (j : Nat) : List Ar → DEnv → Option Sl
  | .s i :: as, o :: os => if i = j then some o else lookS j as os
  | .d _ :: as, _ :: os => lookS j as os
  | .g _ :: as, _ :: os => lookS j as os
  | _, _ => none
def conv : Sl → Sl → Sl
  | .l _, .p ys => .l ys
  | .p _, .p ys => .p ys
  | .t _, .u y => .t y
  | .u _, .u y => .u y
  | _, _ => .no
def backD (as : List Ar) (outs env : DEnv) : DEnv := env.mapIdx fun j s => match lookS j as outs with
  | some o => conv s o
  | none => s
def slotsOf : List Ar → List Nat
  | [] => []
  | .s i :: as => i :: slotsOf as
  | .d _ :: as => slotsOf as
  | .g _ :: as => slotsOf as
def callD (F : Df) (as : List Ar) (env : DEnv) : Fo := if (slotsOf as).Nodup then match F (as.map (toSl env)) with
    | .ok d outs => .ok d (backD as outs env)
    | .okl xs outs => .okl xs (backD as outs env)
    | .ex x outs => .ex x (backD as outs env)
    | .stuck => .stuck
  else .stuck
def Fo.rs : Fo → Rs D
  | .ok d env => .ok d env
  | .okl xs env => .ok (.list xs) env
  | .ex x env => .ex x env
  | .stuck => .stuck
def Fo.rl : Fo → Rs (List D)
  | .okl xs env => .ok xs env
  | .ex x env => .ex x env
  | _ => .stuck
theorem slots_mem : ∀ {as : List Ar} {i : Nat}, i ∈ slotsOf as ↔ Ar.s i ∈ as
  | [], i => by simp [slotsOf]
  | .s j :: as, i => by simp [slotsOf, slots_mem (as := as)]
  | .d x :: as, i => by simp [slotsOf, slots_mem (as := as)]
  | .g x :: as, i => by simp [slotsOf, slots_mem (as := as)]
theorem slots_inj : ∀ {as : List Ar}, (slotsOf as).Nodup → ∀ {j k i : Nat}, as[j]? = some (.s i) → as[k]? = some (.s i) → j = k
  | [], _, _, _, _, e, _ => by simp at e
  | .d x :: as, h, 0, _, _, e, _ => by simp at e
  | .d x :: as, h, _, 0, _, _, e => by simp at e
  | .d x :: as, h, j + 1, k + 1, i, e1, e2 => by
    have := slots_inj (as := as) (by simpa [slotsOf] using h) (j := j) (k := k) (i := i) (by simpa using e1) (by simpa using e2)
    omega
  | .g x :: as, h, 0, _, _, e, _ => by simp at e
  | .g x :: as, h, _, 0, _, _, e => by simp at e
  | .g x :: as, h, j + 1, k + 1, i, e1, e2 => by
    have := slots_inj (as := as) (by simpa [slotsOf] using h) (j := j) (k := k) (i := i) (by simpa using e1) (by simpa using e2)
    omega
  | .s x :: as, h, 0, 0, _, _, _ => rfl
  | .s x :: as, h, 0, k + 1, i, e1, e2 => by
    simp at e1 e2
    subst e1
    have h' : x ∉ slotsOf as ∧ (slotsOf as).Nodup := by simpa [slotsOf] using h
    exact absurd (slots_mem.mpr (List.mem_of_getElem? e2)) h'.1
  | .s x :: as, h, j + 1, 0, i, e1, e2 => by
    simp at e1 e2
    subst e2
    have h' : x ∉ slotsOf as ∧ (slotsOf as).Nodup := by simpa [slotsOf] using h
    exact absurd (slots_mem.mpr (List.mem_of_getElem? e1)) h'.1
  | .s x :: as, h, j + 1, k + 1, i, e1, e2 => by
    have h' : x ∉ slotsOf as ∧ (slotsOf as).Nodup := by simpa [slotsOf] using h
    have := slots_inj (as := as) h'.2 (j := j) (k := k) (i := i) (by simpa using e1) (by simpa using e2)
    omega
theorem lookS_some : ∀ {as : List Ar} {os : DEnv} {j : Nat} {o : Sl}, lookS j as os = some o → ∃ k : Nat, as[k]? = some (Ar.s j) ∧ os[k]? = some o
  | [], _, _, _, h => by simp [lookS] at h
  | .s i :: as, [], _, _, h => by simp [lookS] at h
  | .d i :: as, [], _, _, h => by simp [lookS] at h
  | .g i :: as, [], _, _, h => by simp [lookS] at h
  | .s i :: as, o' :: os, j, o, h => by
    unfold lookS at h
    by_cases c : i = j
    · rw [if_pos c] at h
      cases h
      subst c
      exact ⟨0, rfl, rfl⟩
    · rw [if_neg c] at h
      obtain ⟨k, a, b⟩ := lookS_some h
      exact ⟨k + 1, by simpa using a, by simpa using b⟩
  | .d i :: as, o' :: os, j, o, h => by
    unfold lookS at h
    obtain ⟨k, a, b⟩ := lookS_some h
    exact ⟨k + 1, by simpa using a, by simpa using b⟩
  | .g i :: as, o' :: os, j, o, h => by
    unfold lookS at h
    obtain ⟨k, a, b⟩ := lookS_some h
    exact ⟨k + 1, by simpa using a, by simpa using b⟩
theorem lookS_none : ∀ {as : List Ar} {os : DEnv} {j : Nat}, as.length = os.length → lookS j as os = none → Ar.s j ∉ as
  | [], _, _, _, _ => by simp
  | .s i :: as, [], _, h, _ => by simp at h
  | .d i :: as, [], _, h, _ => by simp at h
  | .g i :: as, [], _, h, _ => by simp at h
  | .s i :: as, o' :: os, j, hl, h => by
    unfold lookS at h
    by_cases c : i = j
    · rw [if_pos c] at h; cases h
    · rw [if_neg c] at h
      have := lookS_none (by simpa using hl) h
      simp [this, Ne.symm c]
  | .d i :: as, o' :: os, j, hl, h => by
    unfold lookS at h
    have := lookS_none (by simpa using hl) h
    simp [this]
  | .g i :: as, o' :: os, j, hl, h => by
    unfold lookS at h
    have := lookS_none (by simpa using hl) h
    simp [this]
section
variable {K : PySem.W.Frag} {mg : Str → Option Value} {env : DEnv} {σ : L2.St} {G H : Hp} {as : List Ar} {vs : List V}
theorem lend_own {H : Hp} {s : Sl} {o : Option V} {a : Addr} (h : OwnS H (lendS s) o a) : OwnS H s o a := by cases s <;> first | exact h | exact False.elim h
theorem toSl_own {H : Hp} {i : Nat} {a : Addr} (ar : ArRel K G σ vs as) (h : OwnAt (as.map (toSl env)) (vs.map some) H i a) : ∃ k, as[i]? = some (.s k) ∧ OwnAt env σ H k a := by
  obtain ⟨s, o, e1, e3, e2⟩ := h
  rw [List.getElem?_map] at e1 e3
  cases q : as[i]? with
  | none => rw [q] at e1; cases e1
  | some x =>
    rw [q] at e1
    cases x with
    | d y => cases e1; exact e2.elim
    | g y => cases e1; exact e2.elim
    | s k =>
      obtain ⟨v, hv, hs⟩ := ar.getS q
      rw [hv] at e3
      cases e3
      have e1' : toSl env (.s k) = s := by simpa using e1
      unfold toSl at e1'
      cases q2 : env[k]? with
      | none => simp [q2] at e1'; subst e1'; exact e2.elim
      | some t =>
        simp only [q2] at e1'
        subst e1'
        exact ⟨k, rfl, t, _, q2, hs, lend_own e2⟩
theorem lend_rs {H : Hp} {s : Sl} {o : Option V} (h : RS K G H s o) : RS K G H (lendS s) o := by cases s <;> first | exact h | trivial
theorem rel_args {H : Hp} (R : Rel K env σ G H) (ar : ArRel K G σ vs as) (nd : (slotsOf as).Nodup) : Rel K (as.map (toSl env)) (vs.map some) G H := by
  refine ⟨R.ex, by simp [ar.length], fun i s o e1 e2 => ?_, fun i j a x y => ?_⟩
  · rw [List.getElem?_map] at e1 e2
    cases q : as[i]? with
    | none => rw [q] at e1; cases e1
    | some x =>
      rw [q] at e1
      have e1' : toSl env x = s := by simpa using e1
      cases x with
      | d y =>
        obtain ⟨v, hv, dv⟩ := ar.getD q
        rw [hv] at e2
        have e2' : some v = o := by simpa using e2
        subst e1'
        exact ⟨v, e2'.symm, dv⟩
      | g y =>
        have hv := ar.getG q
        rw [hv] at e2
        have e2' : some (V.ref (He.ga K y)) = o := by simpa using e2
        subst e1'
        exact e2'.symm
      | s k =>
        obtain ⟨v, hv, hs⟩ := ar.getS q
        rw [hv] at e2
        have e2' : some v = o := by simpa using e2
        unfold toSl at e1'
        cases q2 : env[k]? with
        | none => simp [q2] at e1'; subst e1'; trivial
        | some t =>
          simp only [q2] at e1'
          subst e1'
          rw [← e2']
          exact lend_rs (R.slot k t (some v) q2 hs)
  · obtain ⟨k1, a1, a2⟩ := toSl_own ar x
    obtain ⟨k2, b1, b2⟩ := toSl_own ar y
    have e := R.dist k1 k2 a a2 b2
    subst e
    exact slots_inj nd a1 b1
theorem conv_own {H : Hp} {s s' : Sl} {o : Option V} {a : Addr} (h : OwnS H (conv s s') o a) : OwnS H s' o a := by cases s <;> cases s' <;> first | exact h | exact False.elim h
theorem conv_rs {G' H' : Hp} {s s' : Sl} {o : Option V} (h : RS K G' H' s' o) : RS K G' H' (conv s s') o := by cases s <;> cases s' <;> first | exact h | trivial
theorem conv_pk {s s' : Sl} (n : (conv s s').pk ≠ 0) : s.pk = (conv s s').pk := by cases s <;> cases s' <;> first | rfl | exact absurd rfl n
/-- behind the call -/
theorem back_ok {H : Hp} {outs : DEnv} {G' H' : Hp} (R : Rel K env σ G H) (ar : ArRel K G σ vs as) (nd : (slotsOf as).Nodup) (R' : Rel K outs (vs.map some) G' H') (F : Fr (as.map (toSl env)) (vs.map some) G H outs (vs.map some) G' H') :
    Rel K (backD as outs env) σ G' H' ∧ Fr env σ G H (backD as outs env) σ G' H' ∧ ∀ a, Own (backD as outs env) σ H' a → Own outs (vs.map some) H' a ∨ Own env σ H a := by
  have hlo : as.length = outs.length := by rw [R'.len]; simp [ar.length]
  have ownA : ∀ a, Own (as.map (toSl env)) (vs.map some) H a → Own env σ H a := fun a ⟨i, z⟩ => let ⟨k, _, b⟩ := toSl_own ar z; ⟨k, b⟩
  -- a slot of ours that is not lent stays
  have keepS : ∀ (j : Nat) (a : Addr), OwnAt env σ H j a → Ar.s j ∉ as → ¬ Own (as.map (toSl env)) (vs.map some) H a := fun j a o hn ⟨i, z⟩ => by
    obtain ⟨k, b1, b2⟩ := toSl_own ar z
    have e := R.dist j k a o b2
    subst e
    exact hn (List.mem_of_getElem? b1)
  have gnone : ∀ (j : Nat) (a : Addr), OwnAt env σ H j a → Ar.s j ∉ as → G' a = none := fun j a o hn => by
    cases z : G' a with
    | none => rfl
    | some u =>
      rcases F.fresh a (by rw [z]; exact fun w => by cases w) with w | w | w
      · exact absurd (o.there R).2 w
      · exact absurd w (o.there R).1
      · exact absurd w (keepS j a o hn)
  have hsame : ∀ (j : Nat) (a : Addr), OwnAt env σ H j a → Ar.s j ∉ as → H' a = H a := fun j a o hn => by
    cases z : H a with
    | none => exact absurd z (o.there R).1
    | some u => exact F.keep a u z (keepS j a o hn)
  have mv : ∀ (j : Nat) (a : Addr), Ar.s j ∉ as → (OwnAt env σ H' j a ↔ OwnAt env σ H j a) := fun j a hn => OwnAt.move R (i := j) F.gg (fun b w => hsame j b w hn) fun b w => gnone j b w hn
  have getB : ∀ (j : Nat) (s : Sl), (backD as outs env)[j]? = some s → ∃ s0, env[j]? = some s0 ∧ ((lookS j as outs = none ∧ s = s0) ∨ ∃ o, lookS j as outs = some o ∧ s = conv s0 o) := fun j s h => by
    unfold backD at h
    rw [List.getElem?_mapIdx] at h
    cases q : env[j]? with
    | none => rw [q] at h; cases h
    | some s0 =>
      rw [q] at h
      have h' : (match lookS j as outs with | some o => conv s0 o | none => s0) = s := by simpa using h
      refine ⟨s0, rfl, ?_⟩
      cases q2 : lookS j as outs with
      | none => rw [q2] at h'; exact .inl ⟨rfl, h'.symm⟩
      | some o => rw [q2] at h'; exact .inr ⟨o, rfl, h'.symm⟩
  have ownB : ∀ (j : Nat) (a : Addr), OwnAt (backD as outs env) σ H' j a → (OwnAt env σ H j a ∧ Ar.s j ∉ as) ∨ ∃ k, as[k]? = some (.s j) ∧ OwnAt outs (vs.map some) H' k a := fun j a ⟨s, o, e1, e3, e2⟩ => by
    obtain ⟨s0, h0, h1 | ⟨oo, h1, h2⟩⟩ := getB j s e1
    · obtain ⟨h1, h2⟩ := h1
      subst h2
      have hn := lookS_none hlo h1
      exact .inl ⟨(mv j a hn).1 ⟨_, o, h0, e3, e2⟩, hn⟩
    · obtain ⟨k, b1, b2⟩ := lookS_some h1
      obtain ⟨v, hv, hs⟩ := ar.getS b1
      rw [e3] at hs
      cases hs
      subst h2
      exact .inr ⟨k, b1, oo, _, b2, by rw [List.getElem?_map, hv]; rfl, conv_own e2⟩
  refine ⟨⟨R'.ex, by unfold backD; rw [List.length_mapIdx]; exact R.len, fun j s o e1 e2 => ?_, fun j k a x y => ?_⟩, ⟨F.gg, fun a o ha hn => F.keep a o ha fun z => hn (ownA a z), F.dom, fun a ha => ?_, fun a ⟨j, z⟩ => ?_, fun j s hj n => ?_⟩, fun a ⟨j, z⟩ => ?_⟩
  · obtain ⟨s0, h0, ⟨h1, h2⟩ | ⟨oo, h1, h2⟩⟩ := getB j s e1
    · subst h2
      have hn := lookS_none hlo h1
      exact ((R.slot j _ o h0 e2).move F.gg (fun a w => hsame j a ⟨_, o, h0, e2, w⟩ hn) fun a w => gnone j a ⟨_, o, h0, e2, w⟩ hn).1
    · obtain ⟨k, b1, b2⟩ := lookS_some h1
      obtain ⟨v, hv, hs⟩ := ar.getS b1
      have q := R'.slot k oo (some v) b2 (by rw [List.getElem?_map, hv]; rfl)
      rw [hs] at e2
      cases e2
      subst h2
      exact conv_rs q
  · rcases ownB j a x with ⟨x1, x2⟩ | ⟨i1, x1, x2⟩
    · rcases ownB k a y with ⟨y1, y2⟩ | ⟨i2, y1, y2⟩
      · exact R.dist j k a x1 y1
      · rcases F.own a ⟨i2, y2⟩ with w | w
        · exact absurd w (keepS j a x1 x2)
        · exact absurd w (x1.there R).1
    · rcases ownB k a y with ⟨y1, y2⟩ | ⟨i2, y1, y2⟩
      · rcases F.own a ⟨i1, x2⟩ with w | w
        · exact absurd w (keepS k a y1 y2)
        · exact absurd w (y1.there R).1
      · have e := R'.dist i1 i2 a x2 y2
        subst e
        rw [x1] at y1
        cases y1
        rfl
  · rcases F.fresh a ha with w | w | w
    · exact .inl w
    · exact .inr (.inl w)
    · exact .inr (.inr (ownA a w))
  · rcases ownB j a z with ⟨x1, _⟩ | ⟨i1, x1, x2⟩
    · exact .inl ⟨j, x1⟩
    · rcases F.own a ⟨i1, x2⟩ with w | w
      · exact .inl (ownA a w)
      · exact .inr w
  · obtain ⟨s0, h0, ⟨h1, h2⟩ | ⟨oo, h1, h2⟩⟩ := getB j _ hj
    · subst h2
      exact ⟨rfl, _, h0, rfl⟩
    · subst h2
      exact ⟨rfl, _, h0, conv_pk n⟩
  · rcases ownB j a z with ⟨x1, _⟩ | ⟨i1, x1, x2⟩
    · exact .inr ⟨j, x1⟩
    · exact .inl ⟨i1, x2⟩
end
section
variable {X : Cx} {W : WX} {pos p : Pos} {e : Expr} {es : List Expr} {da : DAr} {k : Nat} {f : Addr} {fd : FuncData} {ps : List Str} {F : Df} {x : Str}
theorem ar_np {K : PySem.W.Frag} {G : Hp} {σ : L2.St} {vs : List V} {as : List Ar} (ar : ArRel K G σ vs as) {np : Nat} (h : as.length = np) : vs.length = np := by rw [ar.length]; exact h
/-- f(e, ..): how many arguments come is told by the def's own rows -/
def eCallN (np : Nat) (F : Df) (da : DAr) : DE := fun env => (da env).bind fun as e1 => if as.length = np then (callD F as e1).rs else .stuck
def lCallN (np : Nat) (F : Df) (da : DAr) : DA := fun env => (da env).bind fun as e1 => if as.length = np then (callD F as e1).rl else .stuck
theorem ce_call (Fn : FnOk X.prog X.w X.K X.mg X.base (L2N.CX X.prog X.w) k f fd ps (spD X.K X.mg ps.length F)) (hr : Room k X.A) (hm : X.mg x = some (.ref f)) (hk : PySem.W.keepIn X.K (.ref f) = true) (hb : Binds X.K fd ps []) (tk : ∀ σ, PassesAt (L2N.CX X.prog X.w) X σ (WE W σ)) (ha : CR X W (e :: es) da) (hg : Gl X x := by rfl)
    (hdb : (x == ("__debug__" : Str)) = false := by decide) (he : starEach (e :: es) X.env = (false, eval e X.env) :: starEach es X.env := by rfl) (hpl : (backTo pos (starEach es X.env)).any (·.1) = false := by rfl) :
    CE X W (.Call (.Name x p) (e :: es) [] pos) (eCallN ps.length F da) := pe_imp (pe_callS Fn hr hg hm hk hb tk ha hdb he hpl) fun σ H Q h => by
  obtain ⟨env, G, R, h⟩ := h
  refine R_then R (P := fun e s G H r => RunE X.K X.mg W e s G H r Q) h (fun _ _ z => z) (fun z => z) (fun _ _ _ _ a b => a.shift b) fun as e1 vs G1 H1 _ R1 ar le F1 h1 => ?_
  by_cases cn : as.length = ps.length
  · rw [if_pos cn] at h1
    by_cases c : (slotsOf as).Nodup
    · have h2 : RunE X.K X.mg W e1 σ G1 H1 (Fo.rs (match F (as.map (toSl e1)) with
        | .ok d outs => .ok d (backD as outs e1)
        | .okl xs outs => .okl xs (backD as outs e1)
        | .ex x outs => .ex x (backD as outs e1)
        | .stuck => .stuck)) Q := by
        have h3 : RunE X.K X.mg W e1 σ G1 H1 (callD F as e1).rs Q := h1
        unfold callD at h3
        rw [if_pos c] at h3
        exact h3
      refine ⟨ar_np ar cn, as.map (toSl e1), G1, rel_args R1 ar c, ?_⟩
      cases q : F (as.map (toSl e1)) with
      | stuck => rw [q] at h2; exact h2
      | ok d outs =>
        rw [q] at h2
        exact fun v G' H' R' dv F' => let ⟨a, b, _⟩ := back_ok R1 ar c R' F'; h2 v G' H' a dv b
      | okl xs outs =>
        rw [q] at h2
        intro a vs' G' H' R' h3 h4 h5 h6 dv F'
        obtain ⟨r, b, o⟩ := back_ok R1 ar c R' F'
        have na : ¬ Own (backD as outs e1) σ H' a := fun z => by
          rcases o a z with z | z
          · exact h6 z
          · exact (z.there R1).1 h5
        have hl : RunL X.K X.mg W e1 σ G1 H1 (Rs.ok xs (backD as outs e1)) Q := RunL.of h2
        exact hl a vs' G' H' r h3 h4 h5 na dv b
      | ex x outs =>
        rw [q] at h2
        exact fun cls dd G' H' xr R' F' => let ⟨a, b, _⟩ := back_ok R1 ar c R' F'; h2 cls dd G' H' xr a b
    · have h3 : RunE X.K X.mg W e1 σ G1 H1 (callD F as e1).rs Q := h1
      unfold callD at h3
      rw [if_neg c] at h3
      exact h3.elim
  · rw [if_neg cn] at h1
    exact h1.elim
theorem cl_call (Fn : FnOk X.prog X.w X.K X.mg X.base (L2N.CX X.prog X.w) k f fd ps (spD X.K X.mg ps.length F)) (hr : Room k X.A) (hm : X.mg x = some (.ref f)) (hk : PySem.W.keepIn X.K (.ref f) = true) (hb : Binds X.K fd ps []) (tk : ∀ σ, PassesAt (L2N.CX X.prog X.w) X σ (WE W σ)) (ha : CR X W (e :: es) da) (hg : Gl X x := by rfl)
    (hdb : (x == ("__debug__" : Str)) = false := by decide) (he : starEach (e :: es) X.env = (false, eval e X.env) :: starEach es X.env := by rfl) (hpl : (backTo pos (starEach es X.env)).any (·.1) = false := by rfl) :
    CL X W (.Call (.Name x p) (e :: es) [] pos) (lCallN ps.length F da) := pe_imp (pe_callS Fn hr hg hm hk hb tk ha hdb he hpl) fun σ H Q h => by
  obtain ⟨env, G, R, h⟩ := h
  refine R_then R (P := fun e s G H r => RunL X.K X.mg W e s G H r Q) h (fun _ _ z => z) (fun z => z) (fun _ _ _ _ a b => a.shift b) fun as e1 vs G1 H1 _ R1 ar le F1 h1 => ?_
  by_cases cn : as.length = ps.length
  · rw [if_pos cn] at h1
    by_cases c : (slotsOf as).Nodup
    · have h2 : RunL X.K X.mg W e1 σ G1 H1 (Fo.rl (match F (as.map (toSl e1)) with
        | .ok d outs => .ok d (backD as outs e1)
        | .okl xs outs => .okl xs (backD as outs e1)
        | .ex x outs => .ex x (backD as outs e1)
        | .stuck => .stuck)) Q := by
        have h3 : RunL X.K X.mg W e1 σ G1 H1 (callD F as e1).rl Q := h1
        unfold callD at h3
        rw [if_pos c] at h3
        exact h3
      refine ⟨ar_np ar cn, as.map (toSl e1), G1, rel_args R1 ar c, ?_⟩
      cases q : F (as.map (toSl e1)) with
      | stuck => rw [q] at h2; exact h2
      | ok d outs => rw [q] at h2; exact h2.elim
      | okl xs outs =>
        rw [q] at h2
        intro a vs' G' H' R' h3 h4 h5 h6 dv F'
        obtain ⟨r, b, o⟩ := back_ok R1 ar c R' F'
        exact h2 a vs' G' H' r h3 h4 h5 (fun z => by
          rcases o a z with z | z
          · exact h6 z
          · exact (z.there R1).1 h5) dv b
      | ex x outs =>
        rw [q] at h2
        exact fun cls dd G' H' xr R' F' => let ⟨a, b, _⟩ := back_ok R1 ar c R' F'; h2 cls dd G' H' xr a b
    · have h3 : RunL X.K X.mg W e1 σ G1 H1 (callD F as e1).rl Q := h1
      unfold callD at h3
      rw [if_neg c] at h3
      exact h3.elim
  · rw [if_neg cn] at h1
    exact h1.elim
end
end DL
set_option Elab.async false
set_option linter.all false
set_option maxRecDepth 100000
set_option autoImplicit false
namespace DL
open PySem L2
theorem lim_size {n : Nat} (h : n ≤ 100000) : n ≤ sizeLine := Nat.le_trans h (by decide)
def dAdd : D → D → Option D
  | .int i, .int j => some (.int (i + j))
  | .str x, .str y => if x.length + y.length ≤ 100000 then some (.str (x ++ y)) else none
  | .tuple xs, .tuple ys => if xs.length + ys.length ≤ 100000 then some (.tuple (xs ++ ys)) else none
  | _, _ => none
/-- one factor small, or both of a size that is told -/
def mulOk (i j : Int) : Bool := (decide (-(2 ^ 64) < i) && decide (i < 2 ^ 64)) || (decide (-(2 ^ 64) < j) && decide (j < 2 ^ 64)) || (decide (i.natAbs < 2 ^ 4000) && decide (j.natAbs < 2 ^ 4000))
def dMul : D → D → Option D
  | .int i, .int j => if mulOk i j then some (.int (i * j)) else none
  | _, _ => none
def divOk (j : Int) : Bool := decide (0 < j) && decide (j.natAbs < 2 ^ 4000)
def powOk (i j : Int) : Bool := decide (0 ≤ j) && decide (j ≤ 1000000) && decide (i.natAbs < 2 ^ 64)
def dFdiv : D → D → Option D
  | .int i, .int j => if divOk j = true then some (.int (i / j)) else none
  | _, _ => none
def dMod : D → D → Option D
  | .int i, .int j => if 0 < j then some (.int (i % j)) else none
  | _, _ => none
def dPow : D → D → Option D
  | .int i, .int j => if powOk i j = true then some (.int (i ^ j.toNat)) else none
  | _, _ => none
def dLt : D → D → Option D
  | .int i, .int j => some (.bool (decide (i < j)))
  | _, _ => none
def dGt : D → D → Option D
  | .int i, .int j => some (.bool (decide (j < i)))
  | _, _ => none
def dEq (a b : D) : Option D := if SeqAt.shaped a = true ∧ SeqAt.shaped b = true then some (.bool (PyData.eqv a b)) else none
def dNe (a b : D) : Option D := if SeqAt.shaped a = true ∧ SeqAt.shaped b = true then some (.bool (!PyData.eqv a b)) else none
def flatD : D → Bool
  | .none => true
  | .bool _ => true
  | .int _ => true
  | .str _ => true
  | _ => false
def dIx (s i : D) : Option D := match s, i with
  | .list xs, .int k => atI xs k
  | .tuple xs, .int k => atI xs k
  | .str z, .int k => if z.length ≤ 100000 then (atI z.cps.toList k).map fun c => .str ⟨#[c]⟩ else none
  | _, _ => none
section
variable {X : Cx} {K : PySem.W.Frag}
/-- an operation that makes nothing -/
theorem opd_pure {r : R2} {f : D → D → Option D} (h : ∀ x y d e z G H Q, Dv K G x d → Dv K G y e → Ex G H → f d e = some z → (∀ v, Dv K G v z → Q v H) → r x y H Q) : OpD K r f :=
  fun x y d e z G H Q hx hy ex hf k => h x y d e z G H Q hx hy ex hf fun v dv => k v G H dv (Grow.refl ex)
theorem od_I0 {g : Int → Int → V} {f : D → D → Option D} {gd : Int → Int → D} (hg : ∀ G i j, Dv K G (g i j) (gd i j)) (hf : ∀ d e z, f d e = some z → ∃ i j, d = .int i ∧ e = .int j ∧ z = gd i j) : OpD K (rI0 g) f := opd_pure fun x y d e z G H Q hx hy ex h k => by
  obtain ⟨i, j, rfl, rfl, rfl⟩ := hf d e z h
  cases hx
  cases hy
  exact ⟨i, j, rfl, rfl, k _ (hg G i j)⟩
theorem od_I {C : Int → Int → Prop} {g : Int → Int → V} {f : D → D → Option D} {gd : Int → Int → D} (hg : ∀ G i j, Dv K G (g i j) (gd i j)) (hf : ∀ d e z, f d e = some z → ∃ i j, d = .int i ∧ e = .int j ∧ C i j ∧ z = gd i j) : OpD K (rI C g) f := opd_pure fun x y d e z G H Q hx hy ex h k => by
  obtain ⟨i, j, rfl, rfl, c, rfl⟩ := hf d e z h
  cases hx
  cases hy
  exact ⟨i, j, rfl, rfl, c, k _ (hg G i j)⟩
theorem od_lt : OpD K (rI0 fun i j => .bl (decide (i < j))) dLt := od_I0 (gd := fun i j => .bool (decide (i < j))) (fun _ _ _ => .bl _) fun d e z h => by
  cases d <;> cases e <;> simp [dLt] at h <;> exact ⟨_, _, rfl, rfl, h.symm⟩
theorem od_gt : OpD K (rI0 fun i j => .bl (decide (j < i))) dGt := od_I0 (gd := fun i j => .bool (decide (j < i))) (fun _ _ _ => .bl _) fun d e z h => by
  cases d <;> cases e <;> simp [dGt] at h <;> exact ⟨_, _, rfl, rfl, h.symm⟩
theorem mulOk_wide {i j : Int} (h : mulOk i j = true) : CMulW i j ∨ CMul i j := by
  unfold mulOk at h
  simp only [Bool.or_eq_true, Bool.and_eq_true, decide_eq_true_eq] at h
  rcases h with (h | h) | h
  · exact .inr (.inl h)
  · exact .inr (.inr h)
  · exact .inl (wide_mul h.1 h.2 (by decide) (by decide) (by decide))
def rMulA : R2 := fun x y H Q => rI CMulW (fun i j => .int (i * j)) x y H Q ∨ rI CMul (fun i j => .int (i * j)) x y H Q
theorem op_mulA : OpR X (binaryOp .Mult) rMulA := op_mulW.or op_mul
theorem od_mul : OpD K rMulA dMul := opd_pure fun x y d e z G H Q hx hy ex h k => by
  cases d <;> cases e <;> first | (simp [dMul] at h; done) | skip
  rename_i i j
  have h' : (if mulOk i j = true then some (PyData.int (i * j)) else none) = some z := h
  by_cases c : mulOk i j = true
  · rw [if_pos c] at h'
    cases h'
    cases hx
    cases hy
    rcases mulOk_wide c with w | w
    · exact .inl ⟨i, j, rfl, rfl, w, k _ (.int _)⟩
    · exact .inr ⟨i, j, rfl, rfl, w, k _ (.int _)⟩
  · rw [if_neg c] at h'
    cases h'
theorem od_fdiv : OpD K (rI CDivW fun i j => .int (i / j)) dFdiv := od_I (gd := fun i j => .int (i / j)) (fun _ _ _ => .int _) fun d e z h => by
  cases d <;> cases e <;> first | (simp [dFdiv] at h; done) | skip
  rename_i i j
  have h' : (if divOk j = true then some (PyData.int (i / j)) else none) = some z := h
  by_cases c : divOk j = true
  · rw [if_pos c] at h'
    cases h'
    unfold divOk at c
    simp only [Bool.and_eq_true, decide_eq_true_eq] at c
    exact ⟨i, j, rfl, rfl, wide_div c.1 c.2 (by decide) (by decide), rfl⟩
  · rw [if_neg c] at h'
    cases h'
theorem od_mod : OpD K (rI (fun _ j => 0 < j) fun i j => .int (i % j)) dMod := od_I (gd := fun i j => .int (i % j)) (fun _ _ _ => .int _) fun d e z h => by
  cases d <;> cases e <;> first | (simp [dMod] at h; done) | skip
  rename_i i j
  have h' : (if 0 < j then some (PyData.int (i % j)) else none) = some z := h
  by_cases c : 0 < j
  · rw [if_pos c] at h'
    cases h'
    exact ⟨i, j, rfl, rfl, c, rfl⟩
  · rw [if_neg c] at h'
    cases h'
theorem od_pow : OpD K (rI CPow fun i j => .int (i ^ j.toNat)) dPow := od_I (gd := fun i j => .int (i ^ j.toNat)) (fun _ _ _ => .int _) fun d e z h => by
  cases d <;> cases e <;> first | (simp [dPow] at h; done) | skip
  rename_i i j
  have h' : (if powOk i j = true then some (PyData.int (i ^ j.toNat)) else none) = some z := h
  by_cases c : powOk i j = true
  · rw [if_pos c] at h'
    cases h'
    unfold powOk at c
    simp only [Bool.and_eq_true, decide_eq_true_eq] at c
    exact ⟨i, j, rfl, rfl, ⟨c.1.1, c.1.2, c.2⟩, rfl⟩
  · rw [if_neg c] at h'
    cases h'
def rAddStr : R2 := fun x y H Q => ∃ i j, x = .str i ∧ y = .str j ∧ i.length + j.length ≤ sizeLine ∧ Q (.str (i ++ j)) H
def rAddA (K : PySem.W.Frag) : R2 := fun x y H Q => rI0 (fun i j => .int (i + j)) x y H Q ∨ rAddStr x y H Q ∨ rCatF K x y H Q
theorem op_addA : OpR X (binaryOp .Add) (rAddA X.K) := op_add.or (OpR.or op_add_str op_catF)
theorem od_add : OpD K (rAddA K) dAdd := fun x y d e z G H Q hx hy ex h k => by
  cases d <;> cases e <;> first | (simp [dAdd] at h; done) | skip
  · rename_i i j
    cases h
    cases hx
    cases hy
    exact .inl ⟨i, j, rfl, rfl, k _ G H (.int _) (Grow.refl ex)⟩
  · rename_i i j
    have h' : (if i.length + j.length ≤ 100000 then some (PyData.str (i ++ j)) else none) = some z := h
    by_cases c : i.length + j.length ≤ 100000
    · rw [if_pos c] at h'
      cases h'
      cases hx
      cases hy
      exact .inr (.inl ⟨i, j, rfl, rfl, lim_size c, k _ G H (.str _) (Grow.refl ex)⟩)
    · rw [if_neg c] at h'
      cases h'
  · rename_i xs ys
    have h' : (if xs.length + ys.length ≤ 100000 then some (PyData.tuple (xs ++ ys)) else none) = some z := h
    by_cases c : xs.length + ys.length ≤ 100000
    · rw [if_pos c] at h'
      cases h'
      cases hx with
      | @tup a vs _ h1 h2 =>
        cases hy with
        | @tup b ws _ h3 h4 =>
          refine .inr (.inr ⟨a, b, vs, ws, rfl, rfl, (ex.n h1).t, (ex.n h3).t, by rw [h2.length, h4.length]; exact lim_size c, fun e => ?_, fun _ e => ?_, fun _ _ p o hp hd => ?_⟩)
          · subst e
            cases h2
            exact k _ G H (.tup h3 h4) (Grow.refl ex)
          · subst e
            cases h4
            rw [List.append_nil] at k
            exact k _ G H (.tup h1 h2) (Grow.refl ex)
          · have g : Grow G H (upd G p (.frz o (.tup (vs ++ ws)))) (upd H p (.frz o (.tup (vs ++ ws)))) := Grow.one ex hp
            exact k _ _ _ (.tup (.inl ⟨o, upd_same, hd⟩) ((h2.append h4).up g.gg)) g
    · rw [if_neg c] at h'
      cases h'
theorem od_eq : OpD K (rEqD K) dEq := opd_pure fun x y d e z G H Q hx hy ex h k => by
  unfold dEq at h
  by_cases c : SeqAt.shaped d = true ∧ SeqAt.shaped e = true
  · rw [if_pos c] at h
    cases h
    exact ⟨d, e, Dv.dp ex d x (SeqAt.canLay_of_shaped c.1) hx, Dv.dp ex e y (SeqAt.canLay_of_shaped c.2) hy, c.1, c.2, k _ (.bl _)⟩
  · rw [if_neg c] at h
    cases h
theorem od_ne : OpD K (rNeD K) dNe := opd_pure fun x y d e z G H Q hx hy ex h k => by
  unfold dNe at h
  by_cases c : SeqAt.shaped d = true ∧ SeqAt.shaped e = true
  · rw [if_pos c] at h
    cases h
    exact ⟨d, e, Dv.dp ex d x (SeqAt.canLay_of_shaped c.1) hx, Dv.dp ex e y (SeqAt.canLay_of_shaped c.2) hy, c.1, c.2, k _ (.bl _)⟩
  · rw [if_neg c] at h
    cases h
theorem atI_dv {G : Hp} {xs : List V} {ds : List D} {i : Int} {z : D} (dv : DvAll K G xs ds) (h : atI ds i = some z) : ∃ v, atI xs i = some v ∧ Dv K G v z := by
  unfold atI at h ⊢
  rw [dv.length]
  cases q : ixN ds.length i with
  | none => rw [q] at h; cases h
  | some j =>
    rw [q] at h
    exact dv.get h
theorem od_ix : OpD K (rIx K) dIx := opd_pure fun x y d e z G H Q hx hy ex h k => by
  cases d <;> cases e <;> first | (simp [dIx] at h; done) | skip
  · rename_i s i
    have h' : (if s.length ≤ 100000 then (atI s.cps.toList i).map (fun c => PyData.str ⟨#[c]⟩) else none) = some z := h
    by_cases c : s.length ≤ 100000
    · rw [if_pos c] at h'
      cases q : atI s.cps.toList i with
      | none => rw [q] at h'; cases h'
      | some ch =>
        rw [q] at h'
        cases h'
        cases hx
        cases hy
        exact .inr (.inr ⟨s, i, ch, rfl, rfl, lim_size c, q, k _ (.str _)⟩)
    · rw [if_neg c] at h'
      cases h'
  · rename_i ds i
    cases hx with
    | @lst a xs _ h1 h2 =>
      cases hy
      obtain ⟨v, hv, dv⟩ := atI_dv h2 h
      exact .inl ⟨a, xs, i, v, rfl, rfl, (ex.rl h1).sq, hv, k v dv⟩
  · rename_i ds i
    cases hx with
    | @tup a xs _ h1 h2 =>
      cases hy
      obtain ⟨v, hv, dv⟩ := atI_dv h2 h
      exact .inr (.inl ⟨a, xs, i, v, rfl, rfl, (ex.n h1).t, hv, k v dv⟩)
def fLen : List D → Option D
  | [.list xs] => some (.int xs.length)
  | [.tuple xs] => some (.int xs.length)
  | [.str x] => if x.length ≤ 100000 then some (.int x.length) else none
  | _ => none
def rLenA (K : PySem.W.Frag) : List V → Hp → VK → Prop := fun xs H Q => (∃ p ys, xs = [.ref p] ∧ (SqL K H p ys ∨ SqT K H p ys) ∧ Q (.int ys.length) H) ∨ (∃ z, xs = [.str z] ∧ z.length ≤ sizeLine ∧ Q (.int z.length) H)
theorem cr_lenA : CallR X (.builtin "len") (rLenA X.K) := call_len_seq.or call_len_str
theorem cd_len : CbD K (rLenA K) fLen := fun xs ds z G H Q hx ex hf k => by
  match ds, hx, hf with
  | [.list ys], .cons (.lst a b) .nil, hf => cases hf; exact .inl ⟨_, _, rfl, .inl (ex.rl a).sq, by rw [b.length]; exact k _ G H (.int _) (Grow.refl ex)⟩
  | [.tuple ys], .cons (.tup a b) .nil, hf => cases hf; exact .inl ⟨_, _, rfl, .inr (ex.n a).t, by rw [b.length]; exact k _ G H (.int _) (Grow.refl ex)⟩
  | [.str s], .cons (.str _) .nil, hf =>
    have h' : (if s.length ≤ 100000 then some (PyData.int s.length) else none) = some z := hf
    by_cases c : s.length ≤ 100000
    · rw [if_pos c] at h'
      cases h'
      exact .inr ⟨s, rfl, lim_size c, k _ G H (.int _) (Grow.refl ex)⟩
    · rw [if_neg c] at h'; cases h'
end
end DL
set_option Elab.async false
set_option linter.all false
set_option maxRecDepth 100000
set_option autoImplicit false
namespace DL
open PySem L2
def getL (i : Nat) (env : DEnv) : Option (List D) := match env[i]? with
  | some (.l xs) => some xs
  | some (.p xs) => some xs
  | _ => none
def putL (i : Nat) (xs : List D) (env : DEnv) : DEnv := match env[i]? with
  | some (.l _) => env.set i (.l xs)
  | some (.p _) => env.set i (.p xs)
  | _ => env
section
variable {K : PySem.W.Frag} {mg : Str → Option Value} {W : WX} {env : DEnv} {σ : L2.St} {G H : Hp} {i : Nat} {xs : List D}
theorem getL_some (h : getL i env = some xs) : env[i]? = some (.l xs) ∨ env[i]? = some (.p xs) := by
  unfold getL at h
  cases q : env[i]? with
  | none => rw [q] at h; cases h
  | some s =>
    rw [q] at h
    cases s with
    | l ys => cases h; exact .inl rfl
    | p ys => cases h; exact .inr rfl
    | no => cases h
    | v d => cases h
    | n _ => cases h
    | m d => cases h
    | f d => cases h
    | a d _ _ => cases h
    | t d => cases h
    | u d => cases h
theorem own_get (R : Rel K env σ G H) (h : getL i env = some xs) : ∃ a vs, σ[i]? = some (some (.ref a)) ∧ H a = some (.lst vs) ∧ G a = none ∧ DvAll K G vs xs ∧ OwnAt env σ H i a := by
  rcases getL_some h with q | q
  · have li : i < σ.length := by rw [← R.len]; exact (List.getElem?_eq_some_iff.mp q).1
    have ho : σ[i]? = some σ[i] := List.getElem?_eq_getElem li
    obtain ⟨a, vs, e, h1, h2, h3⟩ := R.slot i _ _ q ho
    rw [e] at ho
    exact ⟨a, vs, ho, h1, h2, h3, .of q rfl ho⟩
  · have li : i < σ.length := by rw [← R.len]; exact (List.getElem?_eq_some_iff.mp q).1
    have ho : σ[i]? = some σ[i] := List.getElem?_eq_getElem li
    obtain ⟨a, vs, e, h1, h2, h3⟩ := R.slot i _ _ q ho
    rw [e] at ho
    exact ⟨a, vs, ho, h1, h2, h3, .of q rfl ho⟩
/-- one thing of a slot's own is changed -/
theorem Rel.own1 {s0 s1 : Sl} {a : Addr} {o1 : HO} (R : Rel K env σ G H) (hi : env[i]? = some s0) (hs0 : s0.lst = true) (ho : σ[i]? = some (some (.ref a))) (n : RS K G (upd H a o1) s1 (some (.ref a))) (hw : ∀ b, OwnS (upd H a o1) s1 (some (.ref a)) b → b = a) (pk : s1.pk = s0.pk) :
    Rel K (env.set i s1) σ G (upd H a o1) ∧ Fr env σ G H (env.set i s1) σ G (upd H a o1) := by
  have li : i < env.length := (List.getElem?_eq_some_iff.mp hi).1
  have o : OwnAt env σ H i a := .of hi hs0 ho
  obtain ⟨hne, h2⟩ := o.there R
  have k : ∀ j b, j ≠ i → OwnAt env σ H j b → upd H a o1 b = H b ∧ G b = none := fun j b ne w => ⟨upd_ne fun z => (by subst z; exact ne (R.dist j i b w o)), (w.there R).2⟩
  refine ⟨(R.put li rfl ho (fun _ _ => rfl) (fun b u hb => ?_) (Ex.refl _) k n fun b w j ne w2 => ?_).1, Fr.put (s1 := s1) (o1 := some (.ref a)) R li ho (fun _ _ => rfl) (Ex.refl _) k (fun b u hb hn => ?_) (fun b hb => ?_) (fun b hb => .inl hb) (fun b w => ?_) fun z => ⟨rfl, s0, hi, pk.symm⟩⟩
  · rw [upd_ne (fun z => by subst z; rw [h2] at hb; cases hb)]
    exact R.ex b u hb
  · rw [hw b w] at w2
    exact ne (R.dist j i a w2 o)
  · rw [upd_ne (fun z => by subst z; exact hn ⟨i, o⟩)]
    exact hb
  · by_cases c : b = a
    · subst c; rw [upd_same] at hb; cases hb
    · rw [upd_ne c] at hb; exact hb
  · rw [hw b w]
    exact .inl ⟨i, o⟩
/-- the list of slot i is changed -/
theorem own_put (R : Rel K env σ G H) (h : getL i env = some xs) {a : Addr} {vs vs' : List V} {ys : List D} (ho : σ[i]? = some (some (.ref a))) (h1 : H a = some (.lst vs)) (h2 : G a = none) (o : OwnAt env σ H i a) (dv : DvAll K G vs' ys) :
    Rel K (putL i ys env) σ G (upd H a (.lst vs')) ∧ Fr env σ G H (putL i ys env) σ G (upd H a (.lst vs')) := by
  unfold putL
  rcases getL_some h with q | q
  · rw [q]
    exact R.own1 (s1 := .l ys) q rfl ho ⟨a, vs', rfl, upd_same, h2, dv⟩ (fun b w => by cases w; rfl) rfl
  · rw [q]
    exact R.own1 (s1 := .p ys) q rfl ho ⟨a, vs', rfl, upd_same, h2, dv⟩ (fun b w => by cases w; rfl) rfl
end
def known (i : Nat) (env : DEnv) : Bool := match env[i]? with
  | some .no => false
  | some _ => true
  | none => false
def ixAt (i : Nat) (k : D) (e1 : DEnv) : Rs D := match e1[i]? with
  | some (.v d) => put (dIx d k) e1
  | some (.l xs) => put (dIx (.list xs) k) e1
  | some (.p xs) => put (dIx (.list xs) k) e1
  | _ => .stuck
def eIxN (i : Nat) (db : DE) : DE := fun env => if known i env then (db env).bind fun k e1 => ixAt i k e1 else .stuck
section
variable {X : Cx} {W : WX} {pos : Pos} {b e : Expr} {db de : DE}
/-- a name's value as it stands: data, or a list of the def's own (to be read at once) -/
theorem peekV {K : PySem.W.Frag} {env : DEnv} {σ : L2.St} {G H : Hp} {i : Nat} {s : Sl} (R : Rel K env σ G H) (h : env[i]? = some s) : ∃ o, σ[i]? = some o ∧ RS K G H s o := by
  have li : i < σ.length := by rw [← R.len]; exact (List.getElem?_eq_some_iff.mp h).1
  exact ⟨_, List.getElem?_eq_getElem li, R.slot i s _ h (List.getElem?_eq_getElem li)⟩
theorem known_v {K : PySem.W.Frag} {env : DEnv} {σ : L2.St} {G H : Hp} {i : Nat} (R : Rel K env σ G H) (h : known i env = true) : ∃ v, σ[i]? = some (some v) := by
  unfold known at h
  cases q : env[i]? with
  | none => rw [q] at h; cases h
  | some s =>
    rw [q] at h
    obtain ⟨o, ho, rs⟩ := peekV R q
    cases s with
    | no => cases h
    | v d => obtain ⟨v, e, _⟩ := rs; exact ⟨v, by rw [ho, e]⟩
    | l d => obtain ⟨v, _, e, _⟩ := rs; exact ⟨_, by rw [ho, e]⟩
    | p d => obtain ⟨v, _, e, _⟩ := rs; exact ⟨_, by rw [ho, e]⟩
    | n _ => obtain ⟨v, e, _⟩ := rs; exact ⟨_, by rw [ho, e]⟩
    | m d => obtain ⟨v, _, e, _⟩ := rs; exact ⟨_, by rw [ho, e]⟩
    | f d => exact ⟨_, by rw [ho, rs]⟩
    | a d _ _ => exact ⟨_, by rw [ho, rs.1]⟩
    | t d => obtain ⟨v, e, _⟩ := rs; exact ⟨_, by rw [ho, e]⟩
    | u d => obtain ⟨v, e, _⟩ := rs; exact ⟨_, by rw [ho, e]⟩
theorem ixAt_ok {K : PySem.W.Frag} {mg : Str → Option Value} {e1 : DEnv} {σ : L2.St} {G1 H1 : Hp} {i : Nat} {k : D} {v y : V} {Q : VK} (R1 : Rel K e1 σ G1 H1) (hv : σ[i]? = some (some v)) (dv : Dv K G1 y k) (h1 : RunE K mg W e1 σ G1 H1 (ixAt i k e1) Q) : rIx K v y H1 Q := by
  unfold ixAt at h1
  cases q : e1[i]? with
  | none => rw [q] at h1; exact h1.elim
  | some s =>
    rw [q] at h1
    obtain ⟨o, ho, rs⟩ := peekV R1 q
    rw [hv] at ho
    cases ho
    have own : ∀ xs : List D, (∃ a vs, some v = some (V.ref a) ∧ H1 a = some (.lst vs) ∧ G1 a = none ∧ DvAll K G1 vs xs) → RunE K mg W e1 σ G1 H1 (put (dIx (.list xs) k) e1) Q → rIx K v y H1 Q := fun xs rs h1 => by
      obtain ⟨a, vs, e, g1, g2, g3⟩ := rs
      cases e
      obtain ⟨z, ez, kk⟩ := RunE.put R1 h1
      cases k with
      | int n =>
        cases dv
        obtain ⟨u, hu, du⟩ := atI_dv g3 ez
        exact .inl ⟨a, vs, n, u, rfl, rfl, .inl (.inl g1), hu, kk u G1 H1 du (Grow.refl R1.ex)⟩
      | none => cases ez
      | bool _ => cases ez
      | str _ => cases ez
      | list _ => cases ez
      | tuple _ => cases ez
      | dict _ => cases ez
    cases s with
    | no => exact h1.elim
    | n _ => exact h1.elim
    | m xs => exact h1.elim
    | f xs => exact h1.elim
    | a xs _ _ => exact h1.elim
    | t xs => exact h1.elim
    | u xs => exact h1.elim
    | v d =>
      obtain ⟨w, e, dw⟩ := rs
      cases e
      obtain ⟨z, ez, kk⟩ := RunE.put R1 h1
      exact od_ix v y d k z G1 H1 Q dw dv R1.ex ez kk
    | l xs => exact own xs rs h1
    | p xs => exact own xs rs h1
theorem if_run {α : Type} {c : Bool} {r : Rs α} {P : Rs α → Prop} (h : P (if c = true then r else .stuck)) (hst : ¬ P .stuck) : c = true ∧ P r := by
  cases c with
  | true => exact ⟨rfl, h⟩
  | false => exact (hst h).elim
theorem ce_ixN (i : Nat) {x : Str} {p : Pos} (hb : CE X W b db) (hs : PlainIx b) (hN : X.N[i]? = some x := by rfl) (hv : Vis X.env.scope x := by first | exact Or.inl rfl | exact Or.inr (Or.inl rfl) | exact Or.inr (Or.inr rfl)) (hd : (x == ("__debug__" : Str)) = false := by decide)
    (hcd : (x == ("__classdict__" : Str)) = false := by decide) : CE X W (.Subscript (.Name x p) b pos) (eIxN i db) := pe_imp (pe_ix ix_seq (pe_var hN hv hd hcd) hb hs) fun σ H Q h => by
  obtain ⟨env, G, R, h⟩ := h
  obtain ⟨c, h⟩ := if_run (P := fun r => RunE X.K X.mg W env σ G H r Q) h fun z => z
  obtain ⟨v, hv⟩ := known_v R c
  exact ⟨v, hv, E_thenE R h fun k e1 y G1 H1 _ R1 dv F1 h1 => ixAt_ok R1 hv dv h1⟩
def sSetO (i : Nat) (dk dv : DE) : DS := fun env => (dv env).fl fun v e1 => if known i e1 then (dk e1).fl fun k e2 => match getL i e2, k with
  | some xs, .int n => match ixN xs.length n with
    | some j => .nx (putL i (xs.set j v) e2)
    | none => .stuck
  | _, _ => .stuck else .stuck
theorem cs_setO (i : Nat) {x : Str} {p p2 : Pos} (hk : CE X W b db) (he : CE X W e de) (hN : X.N[i]? = some x := by rfl) (hv : Vis X.env.scope x := by first | exact Or.inl rfl | exact Or.inr (Or.inl rfl) | exact Or.inr (Or.inr rfl)) (hd : (x == ("__debug__" : Str)) = false := by decide)
    (hcd : (x == ("__classdict__" : Str)) = false := by decide) (hs : swapsWithSole [.Subscript (.Name x p) b p2] e pos.line X.env = pure false := by rfl) (hw : swappedStores [.Subscript (.Name x p) b p2] e X.env = pure none := by rfl)
    (h1 : (assignEach [.Subscript (.Name x p) b p2] X.env).map (·.2) = [assign (.Subscript (.Name x p) b p2) X.env] := by rfl)
    (ha : ∀ v, assign (.Subscript (.Name x p) b p2) X.env v = (do
      let ov ← holding [v] (eval (.Name x p) X.env)
      let iv ← holding [v, ov] (eval b X.env)
      standAt p2
      holding [v, ov, iv] (setItem ov iv v)
      release [v, ov, iv] []) := by intro _; rfl) : CS X W (.Assign [.Subscript (.Name x p) b p2] e pos) (sSetO i db de) :=
  ps_imp (ps_asg he (pg_sub (pe_var hN hv hd hcd) hk set_list ha) hs hw h1) fun E σ H h => by
    obtain ⟨env, G, R, h⟩ := h
    refine E_thenS R h fun d e1 v G1 H1 _ R1 dv F1 h1 => ?_
    by_cases c : known i e1 = true
    · rw [if_pos c] at h1
      obtain ⟨o, ho⟩ := known_v R1 c
      refine ⟨o, ho, E_thenS R1 h1 fun k e2 y G2 H2 _ R2 dk F2 h2 => ?_⟩
      cases q : getL i e2 with
      | none => rw [q] at h2; exact h2.elim
      | some xs =>
        rw [q] at h2
        cases k with
        | int n =>
          cases dk
          obtain ⟨a, vs, x1, x2, x3, x4, x5⟩ := own_get R2 q
          rw [ho] at x1
          cases x1
          have h3 : RunS X.K X.mg W e2 σ G2 H2 (match ixN xs.length n with
            | some j => .nx (putL i (xs.set j d) e2)
            | none => .stuck) E := h2
          cases q2 : ixN xs.length n with
          | none => rw [q2] at h3; exact h3.elim
          | some j =>
            rw [q2] at h3
            obtain ⟨r1, r2⟩ := own_put R2 q ho x2 x3 x5 (x4.set (dv.up F2.gg) j)
            exact ⟨a, vs, n, j, rfl, rfl, x2, by rw [x4.length]; exact q2, h3 σ G2 _ r1 r2⟩
        | none => exact h2.elim
        | bool _ => exact h2.elim
        | str _ => exact h2.elim
        | list _ => exact h2.elim
        | tuple _ => exact h2.elim
        | dict _ => exact h2.elim
    · rw [if_neg c] at h1
      exact h1.elim
def OwnM (K : PySem.W.Frag) (r : V → List V → Hp → VK → Prop) (f : List D → List D → Option (D × List D)) : Prop := ∀ (l : Addr) (vs ws : List V) (xs args : List D) (z : D) (ys : List D) (G H : Hp) (Q : VK),
  H l = some (.lst vs) → DvAll K G vs xs → DvAll K G ws args → Ex G H → G l = none → f xs args = some (z, ys) → (∀ v vs', Dv K G v z → DvAll K G vs' ys → Q v (upd H l (.lst vs'))) → r (.ref l) ws H Q
def eMO (i : Nat) (f : List D → List D → Option (D × List D)) (da : DA) : DE := fun env => if (getL i env).isSome then (da env).bind fun args e1 => match getL i e1 with
  | some xs => match f xs args with
    | some (z, ys) => .ok z (putL i ys e1)
    | none => .stuck
  | none => .stuck else .stuck
theorem mo_ok {K : PySem.W.Frag} {mg : Str → Option Value} {r : V → List V → Hp → VK → Prop} {f : List D → List D → Option (D × List D)} (o : OwnM K r f) {i : Nat} {e1 : DEnv} {σ : L2.St} {G1 H1 : Hp} {args : List D} {ws : List V} {l : Addr} {Q : VK} (R1 : Rel K e1 σ G1 H1)
    (hl : σ[i]? = some (some (.ref l))) (dw : DvAll K G1 ws args) (h1 : RunE K mg W e1 σ G1 H1 (match getL i e1 with
      | some xs => match f xs args with
        | some (z, ys) => .ok z (putL i ys e1)
        | none => .stuck
      | none => .stuck) Q) : r (.ref l) ws H1 Q := by
  cases q : getL i e1 with
  | none => rw [q] at h1; exact h1.elim
  | some xs =>
    rw [q] at h1
    obtain ⟨a, vs, x1, x2, x3, x4, x5⟩ := own_get R1 q
    rw [hl] at x1
    cases x1
    have h2 : RunE K mg W e1 σ G1 H1 (match f xs args with
      | some (z, ys) => .ok z (putL i ys e1)
      | none => .stuck) Q := h1
    cases q2 : f xs args with
    | none => rw [q2] at h2; exact h2.elim
    | some p =>
      obtain ⟨z, ys⟩ := p
      rw [q2] at h2
      refine o l vs ws xs args z ys G1 H1 Q x2 x4 dw R1.ex x3 q2 fun v vs' dz dvs => ?_
      obtain ⟨r1, r2⟩ := own_put R1 q hl x2 x3 x5 dvs
      exact h2 v G1 _ r1 dz r2
theorem ce_mo (i : Nat) {x name : Str} {p apos : Pos} {id : String} {r : V → List V → Hp → VK → Prop} {f : List D → List D → Option (D × List D)} {es : List Expr} {da : DA} (o : OwnM X.K r f) (slot : Slot "list" name id) (hty : typeOf (.builtin id) = pure (.type "method_descriptor")) (hm : MtR X id r) (ha : CA X W (e :: es) da)
    (hN : X.N[i]? = some x := by rfl) (hv : Vis X.env.scope x := by first | exact Or.inl rfl | exact Or.inr (Or.inl rfl) | exact Or.inr (Or.inr rfl)) (hd : (x == ("__debug__" : Str)) = false := by decide) (hcd : (x == ("__classdict__" : Str)) = false := by decide)
    (hbase : attributeBase (.Name x p) name X.env (eval (.Name x p) X.env) = eval (.Name x p) X.env := by rfl)
    (hfew : ((backTo pos (starEach (e :: es) X.env)).all (fun x => !x.1) && (backToKw pos (keywordEach [] X.env)).all (fun x => x.1.isSome)
      && decide ((e :: es).length + ([] : List Keyword).length + (if ([] : List Keyword).isEmpty then 0 else 1) < 30)) = true := by rfl)
    (hline : (apos.endLine == pos.line) = true := by rfl) (hs : starEach (e :: es) X.env = (false, eval e X.env) :: starEach es X.env := by rfl) (hplain : (backTo pos (starEach es X.env)).any (·.1) = false := by rfl) :
    CE X W (.Call (.Attribute (.Name x p) name apos) (e :: es) [] pos) (eMO i f da) := pe_imp (pe_bm PySem.F.plainAttrs_list slot hty hm (pe_var hN hv hd hcd) ha hbase hfew hline hs hplain) fun σ H Q h => by
  obtain ⟨env, G, R, h⟩ := h
  obtain ⟨c, h⟩ := if_run (P := fun r => RunE X.K X.mg W env σ G H r Q) h fun z => z
  cases q : getL i env with
  | none => rw [q] at c; cases c
  | some xs =>
    obtain ⟨a, vs, x1, x2, x3, x4, x5⟩ := own_get R q
    exact ⟨_, x1, .inl ⟨rfl, _, .inl (.inl x2)⟩, A_thenE R h fun args e1 ws G1 H1 _ R1 dw F1 h1 => mo_ok o R1 x1 dw h1⟩
def mAppend : List D → List D → Option (D × List D)
  | xs, [d] => if xs.length < 100000 then some (.none, xs ++ [d]) else none
  | _, _ => none
theorem lt_size {n : Nat} (h : n < 100000) : n < sizeLine := Nat.lt_of_lt_of_le h (by decide)
theorem om_append {K : PySem.W.Frag} : OwnM K rAppend mAppend := fun l vs ws xs args z ys G H Q h1 h2 h3 ex hg hf k => by
  match args, h3, hf with
  | [d], .cons (v := v) a .nil, hf =>
    have hf' : (if xs.length < 100000 then some (PyData.none, xs ++ [d]) else none) = some (z, ys) := hf
    by_cases c : xs.length < 100000
    · rw [if_pos c] at hf'
      cases hf'
      exact ⟨l, vs, v, rfl, rfl, h1, by rw [h2.length]; exact lt_size c, k _ _ .non (h2.append (.one a))⟩
    · rw [if_neg c] at hf'; cases hf'
end
end DL
set_option Elab.async false
set_option linter.all false
set_option maxRecDepth 100000
set_option autoImplicit false
namespace DL
open PySem L2
def cutD (xs : List D) (lo hi : Option Int) : List D := (xs.drop (HT.sIx xs.length 0 lo)).take (HT.sIx xs.length xs.length hi - HT.sIx xs.length 0 lo)
def dSl (d : D) (lo hi : Option Int) : Option D := match d with
  | .list xs => some (.list (cutD xs lo hi))
  | .tuple xs => some (.tuple (cutD xs lo hi))
  | .str z => if z.length ≤ 100000 then some (.str (cutS z lo hi)) else none
  | _ => none
/-- an end of a slice -/
inductive Pt where
  | no
  | of (de : DE)
def Pt.run (p : Pt) (env : DEnv) : Rs (Option Int) := match p with
  | .no => .ok none env
  | .of de => (de env).bind fun d e1 => match d with
    | .int i => .ok (some i) e1
    | _ => .stuck
def eSl (de : DE) (lo hi : Pt) : DE := fun env => (de env).bind fun d e1 => (lo.run e1).bind fun l e2 => (hi.run e2).bind fun u e3 => put (dSl d l u) e3
section
variable {K : PySem.W.Frag} {mg : Str → Option Value} {W : WX}
def RunO (env : DEnv) (σ : L2.St) (G H : Hp) (r : Rs (Option Int)) (Q : Option Int → Hp → Prop) (K : PySem.W.Frag) (mg : Str → Option Value) (W : WX) : Prop := match r with
  | .ok o env' => ∀ G' H', Rel K env' σ G' H' → Fr env σ G H env' σ G' H' → Q o H'
  | .ex x env' => RunX K mg W env σ G H x env'
  | .stuck => False
def rdO (K : PySem.W.Frag) (mg : Str → Option Value) (W : WX) (p : Pt) : TO := fun σ H Q => ∃ env G, Rel K env σ G H ∧ RunO env σ G H (p.run env) Q K mg W
theorem O_thenE {env : DEnv} {σ : L2.St} {G H : Hp} {p : Pt} {f : Option Int → DEnv → Rs D} {Q : VK} {R : Option Int → Hp → Prop} (hR : Rel K env σ G H) (h : RunE K mg W env σ G H ((p.run env).bind f) Q)
    (k : ∀ o e1 G1 H1, p.run env = .ok o e1 → Rel K e1 σ G1 H1 → Fr env σ G H e1 σ G1 H1 → RunE K mg W e1 σ G1 H1 (f o e1) Q → R o H1) : rdO K mg W p σ H R := by
  refine ⟨env, G, hR, ?_⟩
  cases q : p.run env with
  | ok d e1 =>
    rw [q] at h
    exact fun G1 H1 a c => k d e1 G1 H1 q a c (RunE.shift h c)
  | ex x e => rw [q] at h; exact h
  | stuck => rw [q] at h; exact h
def rSlAny (K : PySem.W.Frag) : V → Option Int → Option Int → Hp → VK → Prop := fun x lo hi H Q => rSlF K x lo hi H Q ∨ rSlL K x lo hi H Q ∨ rSlS x lo hi H Q
theorem sl_any {X : Cx} : SlR X (rSlAny X.K) := sl_tupF.or (sl_list.or sl_str)
theorem cut_dv {G : Hp} {xs : List V} {ds : List D} (dv : DvAll K G xs ds) (lo hi : Option Int) : DvAll K G (cutV xs lo hi) (cutD ds lo hi) := by
  unfold cutV cutD
  rw [dv.length]
  exact (dv.drop _).take _
theorem cut_whole (ds : List D) (lo hi : Option Int) (h : HT.sIx ds.length 0 lo = 0 ∧ HT.sIx ds.length ds.length hi = ds.length) : cutD ds lo hi = ds := by
  unfold cutD
  rw [h.1, h.2]
  simp
theorem sl_d {x : V} {d z : D} {lo hi : Option Int} {G H : Hp} {Q : VK} (hx : Dv K G x d) (ex : Ex G H) (hf : dSl d lo hi = some z) (k : ∀ v G' H', Dv K G' v z → Grow G H G' H' → Q v H') : rSlAny K x lo hi H Q := by
  cases hx with
  | @tup a xs ds h1 h2 =>
    cases hf
    refine .inl ⟨a, xs, rfl, (ex.n h1).t, fun w => ?_, fun w p o hp hd => ?_⟩
    · rw [h2.length] at w
      rw [cut_whole ds lo hi w] at k
      exact k _ G H (.tup h1 h2) (Grow.refl ex)
    · have g : Grow G H (upd G p (.frz o (.tup (cutV xs lo hi)))) (upd H p (.frz o (.tup (cutV xs lo hi)))) := Grow.one ex hp
      exact k _ _ _ (.tup (.inl ⟨o, upd_same, hd⟩) ((cut_dv h2 lo hi).up g.gg)) g
  | @lst a xs ds h1 h2 =>
    cases hf
    refine .inr (.inl ⟨a, xs, rfl, (ex.rl h1).sq, fun p hp => ?_⟩)
    have g : Grow G H (upd G p (.lst (cutV xs lo hi))) (upd H p (.lst (cutV xs lo hi))) := Grow.one ex hp
    exact k _ _ _ (.lst (.of upd_same) ((cut_dv h2 lo hi).up g.gg)) g
  | str s =>
    have hf' : (if s.length ≤ 100000 then some (PyData.str (cutS s lo hi)) else none) = some z := hf
    by_cases c : s.length ≤ 100000
    · rw [if_pos c] at hf'
      cases hf'
      exact .inr (.inr ⟨s, rfl, lim_size c, k _ G H (.str _) (Grow.refl ex)⟩)
    · rw [if_neg c] at hf'; cases hf'
  | non => cases hf
  | bl _ => cases hf
  | int _ => cases hf
  | dct _ _ => cases hf
  | exc _ _ => cases hf
end
section
variable {X : Cx} {W : WX} {pos : Pos} {e : Expr} {de : DE}
abbrev CO (X : Cx) (W : WX) (e : Option Expr) (p : Pt) : Prop := PO X e (rdO X.K X.mg W p)
theorem po_imp {e : Option Expr} {t t' : TO} (h : PO X e t) (k : ∀ σ H Q, t' σ H Q → t σ H Q) : PO X e t' := ⟨fun pins s σ H Q I w => h.run pins s σ H Q I (k σ H Q w)⟩
theorem co_none : CO X W none .no := po_imp po_none fun σ H Q h => by
  obtain ⟨env, G, R, h⟩ := h
  exact h G H R (Fr.refl _ _ _ _)
theorem co_some (h : CE X W e de) : CO X W (some e) (.of de) := po_imp (po_some h) fun σ H Q h => by
  obtain ⟨env, G, R, h⟩ := h
  refine ⟨env, G, R, ?_⟩
  have h' : RunO env σ G H ((de env).bind fun d e1 => match d with
    | .int i => .ok (some i) e1
    | _ => .stuck) Q X.K X.mg W := h
  cases q : de env with
  | stuck => rw [q] at h'; exact h'
  | ex x e => rw [q] at h'; exact h'
  | ok d e1 =>
    rw [q] at h'
    intro v G1 H1 R1 dv F1
    cases dv with
    | int i => exact ⟨i, rfl, h' G1 H1 R1 F1⟩
    | non => exact h'.elim
    | bl _ => exact h'.elim
    | str _ => exact h'.elim
    | lst _ _ => exact h'.elim
    | tup _ _ => exact h'.elim
    | dct _ _ => exact h'.elim
    | exc _ _ => exact h'.elim
theorem ce_sl {lo hi : Option Expr} {pl ph : Pt} {p2 : Pos} (he : CE X W e de) (hl : CO X W lo pl) (hh : CO X W hi ph) : CE X W (.Subscript e (.Slice lo hi none p2) pos) (eSl de pl ph) := pe_imp (pe_slice sl_any he hl hh) fun σ H Q h => by
  obtain ⟨env, G, R, h⟩ := h
  refine E_thenE R h fun d e1 v G1 H1 _ R1 dv F1 h1 => O_thenE R1 h1 fun l e2 G2 H2 _ R2 F2 h2 => O_thenE R2 h2 fun u e3 G3 H3 _ R3 F3 h3 => ?_
  obtain ⟨z, ez, k⟩ := RunE.put R3 h3
  exact sl_d ((dv.up F2.gg).up F3.gg) R3.ex ez k
def tyD : D → String
  | .none => "NoneType"
  | .bool _ => "bool"
  | .int _ => "int"
  | .str _ => "str"
  | .list _ => "list"
  | .tuple _ => "tuple"
  | .dict _ => "dict"
def isiD (T : String) (d : D) : Option D := match d with
  | .dict _ => if T ∈ isTs then some (.bool false) else none
  | d => (kitB (tyD d) T).map .bool
def eIsi (T : String) (de : DE) : DE := fun env => (de env).bind fun d e1 => put (isiD T d) e1
theorem ty_dv {K : PySem.W.Frag} {G H : Hp} {x : V} {d : D} (hx : Dv K G x d) (ex : Ex G H) : TyX K H x (.type (tyD d)) ∨ ∃ a c f, x = .ref a ∧ d = .dict [(.none, .tuple (.str c :: xfD f))] ∧ ExK K (He.ga K c) ∧ XO H a (He.ga K c) f := by
  cases hx with
  | non => exact .inl <| .base .non
  | bl b => exact .inl <| .base (.bl b)
  | int b => exact .inl <| .base (.int b)
  | str b => exact .inl <| .base (.str b)
  | lst a b =>
    rcases ex.rl a with (h | ⟨o, h⟩) | ⟨its, n, h, _⟩
    · exact .inl <| .base (.lst h)
    · exact .inl <| .base (.frz h)
    · exact .inl <| .kList h rfl
  | tup a b =>
    rcases (ex.n a).t with (h | ⟨o, h⟩) | ⟨o, its, n, h1, h2, _⟩
    · exact .inl <| .base (.tup h)
    · exact .inl <| .fTuple h
    · exact .inl <| .kTuple h1 h2
  | dct a b =>
    rcases ex.rd a with h | ⟨o, h⟩
    · exact .inl <| .base (.dK h)
    · exact .inl <| .fDict h
  | exc a b => exact .inr ⟨_, _, _, rfl, rfl, a, b.up ex⟩
def rIsT (K : PySem.W.Frag) : List V → Hp → VK → Prop := fun xs H Q =>
  ∃ (a C : Addr) (f : Option (Str × Key)) (c : V) (cv : Value) (b : Bool), xs = [.ref a, c] ∧ ExI K C ∧ XO H a C f ∧ (∀ u, RelV c u → u = cv) ∧ PySem.W.kitOne K (.ref C) cv = some b ∧ Q (.bl b) H
/-- an exception that is tracked, as an instance -/
theorem xo_inst {P : Program} {w : World} {H : Hp} {h : Heap} {a C : Addr} {f : Option (Str × Key)} (hok : HOk P w H h) (x : XO H a C f) : ∃ oe od, PySem.W.InstAt h a oe C od := by
  cases f with
  | none =>
    have o : ObjOk P w H h a (ExO (.ref C) a) := hok a _ x
    obtain ⟨⟨oe, vs, h1, hz, hd, _⟩, _⟩ := o
    exact ⟨oe, none, h1, hz.1, by unfold PySem.W.notCls; rw [hd], by rw [hz.2]; trivial⟩
  | some p =>
    obtain ⟨dx, h1, h2⟩ := x
    obtain ⟨t1, o1⟩ := exo_at hok h1
    obtain ⟨mA, hns, _⟩ := exd_at hok h2
    obtain ⟨o, es, ep, h3, _⟩ := hns
    exact ⟨_, some o, o1, rfl, rfl, h3⟩
theorem cr_isT {X : Cx} : CallR X (.builtin "isinstance") (rIsT X.K) := by
  intro pins s σ H xs us Q I r h
  obtain ⟨a, C, f, c, cv, b, rfl, T, x, hcv, e, q⟩ := h
  cases r with
  | cons rx rr =>
    cases rr with
    | cons rt rr =>
      cases rr
      cases rx
      cases hcv _ rt
      obtain ⟨oe, od, J⟩ := xo_inst I.hok x
      exact PySem.W.kia_one (PySem.W.kitx_exc T.cl T.ga T.gt T.sb T.ca T.gn T.tk T.mr) I.kIn J e (fun z => nomatch z) fun tk => ⟨.bl b, H, I.kept (t' := tk) fun _ _ z => z, rfl, q⟩
theorem callR_or {X : Cx} {g : Value} {r1 r2 : List V → Hp → VK → Prop} (h1 : CallR X g r1) (h2 : CallR X g r2) : CallR X g fun xs H Q => r1 xs H Q ∨ r2 xs H Q := fun pins s σ H xs us Q I r h => h.elim (fun h => h1 pins s σ H xs us Q I r h) fun h => h2 pins s σ H xs us Q I r h
theorem ce_isi (T : String) {x : Str} {p p2 : Pos} (hT : bootBuiltins x = some (.type T)) (hmT : X.mg x = none) (hm : X.mg "isinstance" = none) (he : CE X W e de) (hb : bootBuiltins "isinstance" = some (.builtin "isinstance") := by decide +kernel) (hg : Gl X "isinstance" := by rfl) (hgT : Gl X x := by rfl) (hn : x ≠ "__name__" := by decide) (hd : (x == ("__debug__" : Str)) = false := by decide)
    (hs : starEach (e :: [.Name x p]) X.env = (false, eval e X.env) :: starEach [.Name x p] X.env := by rfl) (hs2 : starEach [.Name x p] X.env = (false, eval (.Name x p) X.env) :: starEach [] X.env := by rfl) (hpl : (backTo pos (starEach [.Name x p] X.env)).any (·.1) = false := by rfl) :
    CE X W (.Call (.Name "isinstance" p2) [e, .Name x p] [] pos) (eIsi T de) := pe_imp (pe_callB (callR_or call_isi cr_isT) hg hm hb (pa_cons he (pa_cons (pe_bltn (v := .ty T) hgT hmT hT rfl hn hd) pa_nil hs2) hs) (by decide) (by decide) hs hpl) fun σ H Q h => by
  obtain ⟨env, G, R, h⟩ := h
  refine E_thenE R h fun d e1 v G1 H1 _ R1 dv F1 h1 => ?_
  obtain ⟨z, ez, k⟩ := RunE.put R1 h1
  rcases ty_dv dv R1.ex with ty | ⟨a, c, f, rfl, rfl, xk, xo⟩
  · have key : ∃ b, kitB (tyD d) T = some b ∧ z = .bool b := by
      cases d with
      | dict ds =>
        have ez : (if T ∈ isTs then some (PyData.bool false) else none) = some z := ez
        by_cases cT : T ∈ isTs
        · rw [if_pos cT] at ez
          cases ez
          simp only [isTs, List.mem_cons, List.mem_nil_iff, or_false] at cT
          rcases cT with rfl | rfl | rfl | rfl | rfl <;> exact ⟨false, rfl, rfl⟩
        · rw [if_neg cT] at ez; cases ez
      | _ =>
        revert ez
        show Option.map _ _ = _ → _
        intro ez
        cases q : kitB (tyD _) T with
        | none => rw [q] at ez; cases ez
        | some b => rw [q] at ez; cases ez; exact ⟨b, rfl, rfl⟩
    obtain ⟨b, q, rfl⟩ := key
    exact .inl ⟨v, .ty T, .type (tyD d), .type T, b, rfl, .ty T, ty, kit_ty q, k _ G1 H1 (.bl b) (Grow.refl R1.ex)⟩
  · have ez : (if T ∈ isTs then some (PyData.bool false) else none) = some z := ez
    by_cases cT : T ∈ isTs
    · rw [if_pos cT] at ez
      cases ez
      exact .inr ⟨a, _, f, .ty T, .type T, false, rfl, xk.i, xo, fun u hu => hu, xk.no T cT, k _ G1 H1 (.bl false) (Grow.refl R1.ex)⟩
    · rw [if_neg cT] at ez; cases ez
variable {a b c : Expr} {da db dc : DE}
end
section
variable {X : Cx} {K : PySem.W.Frag}
def rCatR (K : PySem.W.Frag) : R2 := fun x y H Q => ∃ l b xs zs, x = .ref l ∧ y = .ref b ∧ RL K H l xs ∧ RL K H b zs ∧ xs.length + zs.length ≤ sizeLine ∧ ∀ p, H p = none → Q (.ref p) (upd H p (.lst (xs ++ zs)))
theorem rd_lst {pins : List (Addr × Obj)} {σ : L2.St} {H : Hp} {s : Shared} {l : Addr} {xs : List V} (I : Inv X pins σ H s) (h : RL X.K H l xs) : xs.length ≤ sizeLine ∧ ∃ (its : List Value) (n : Nat), Vals xs its ∧ xs.length = its.length ∧ s.heap.get? l = some { cls := .type "list", data := .seq its.toArray n } := by
  rcases h with h | ⟨its, n, h1, h2, h3⟩
  · obtain ⟨z, its, n, r, e⟩ := h.ok I.hok
    exact ⟨z, its, n, r, r.length, e⟩
  · have e := h3.length
    exact ⟨by rw [e]; simpa using h2, its.toList, n, h3, e, by simpa using I.kIn _ _ h1⟩
theorem op_catR : OpR X (binaryOp .Add) (rCatR X.K) := by
  intro pins s σ H x y v u Q I rx ry h
  obtain ⟨l, b, xs, zs, rfl, rfl, hH, hB, hz, q⟩ := h
  cases rx
  cases ry
  obtain ⟨z, its, n, r, hl, e⟩ := rd_lst I hH
  obtain ⟨z2, its2, n2, r2, hl2, e2⟩ := rd_lst I hB
  refine PySem.P.add_list e e2 ?_ (by rw [List.size_toArray, List.size_toArray]; omega)
  have ea : its.toArray ++ its2.toArray = (its ++ its2).toArray := by simp
  rw [ea]
  exact ⟨.ref _, _, I.lnew (t' := s.toks) (r.append r2) (by rw [List.length_append]; omega), rfl, q _ I.fresh⟩
def dCat : D → D → Option (List D)
  | .list xs, .list ys => if xs.length + ys.length ≤ 100000 then some (xs ++ ys) else none
  | _, _ => none
theorem ol_cat : OlD K (rCatR K) dCat := fun x y d e zs G H Q hx hy ex h k => by
  cases d <;> cases e <;> first | (simp [dCat] at h; done) | skip
  rename_i xs ys
  have h' : (if xs.length + ys.length ≤ 100000 then some (xs ++ ys) else none) = some zs := h
  by_cases c : xs.length + ys.length ≤ 100000
  · rw [if_pos c] at h'
    cases h'
    cases hx with
    | @lst a vs _ h1 h2 =>
      cases hy with
      | @lst b ws _ h3 h4 => exact ⟨a, b, vs, ws, rfl, rfl, ex.rl h1, ex.rl h3, by rw [h2.length, h4.length]; exact lim_size c, fun p hp => k p _ hp (h2.append h4)⟩
  · rw [if_neg c] at h'; cases h'
end
end DL
set_option Elab.async false
set_option linter.all false
set_option maxRecDepth 100000
set_option autoImplicit false
namespace DL
open PySem L2
def kEq (d : D) (k : Key) : Bool := match d, k with
  | .int i, .inl j => i == j
  | .str x, .inr y => x == y
  | _, _ => false
def keyOf : D → Option Key
  | .int i => some (.inl i)
  | .str x => some (.inr x)
  | _ => none
def valD (kvs : List (D × D)) (k : Key) : Option D := (kvs.find? fun kv => kEq kv.1 k).map (·.2)
theorem keyOf_some {d : D} {k : Key} (h : keyOf d = some k) : d = kD k := by
  cases d <;> simp [keyOf] at h <;> subst h <;> rfl
theorem dv_key {K : PySem.W.Frag} {G : Hp} {v : V} {k : Key} (h : Dv K G v (kD k)) : v = kV k := by
  cases k <;> cases h <;> rfl
/-- a dict that nobody else holds -/
def RunM (K : PySem.W.Frag) (mg : Str → Option Value) (W : WX) (env : DEnv) (σ : L2.St) (G H : Hp) (r : Rs (List (D × D))) (Q : VK) : Prop := match r with
  | .ok ds env' => ∀ a vs G' H', Rel K env' σ G' H' → H' a = some (.dK vs) → G' a = none → H a = none → ¬ Own env' σ H' a → DvKv K G' vs ds → Fr env σ G H env' σ G' H' → Q (.ref a) H'
  | .ex x env' => RunX K mg W env σ G H x env'
  | .stuck => False
section
variable {K : PySem.W.Frag} {mg : Str → Option Value} {W : WX} {env : DEnv} {σ : L2.St} {G H : Hp}
theorem RunM.of {r : Rs (List (D × D))} {Q : VK} (h' : RunE K mg W env σ G H (r.bind fun xs e1 => .ok (.dict xs) e1) Q) : RunM K mg W env σ G H r Q := by
  cases r with
  | stuck => exact h'
  | ex x e => exact h'
  | ok ds e1 =>
    intro a vs G' H' R' h1 h2 h3 h4 dv F
    refine h' (.ref a) (upd G' a (.dK vs)) H' (R'.still h1 h2 h4) (.dct (.inl upd_same) (dv.up (Ex.new h2)))
      ⟨F.gg.trans (Ex.new h2), F.keep, F.dom, fun b hb => ?_, F.own, F.par⟩
    by_cases z : b = a
    · subst z; exact .inr (.inl h3)
    · rw [upd_ne z] at hb; exact F.fresh b hb
/-- pairs by data -/
inductive PrD (K : PySem.W.Frag) (G : Hp) : List (V × V) → List (D × D) → Prop
  | nil : PrD K G [] []
  | cons {k v : V} {dk dv : D} {xs : List (V × V)} {ys : List (D × D)} : Dv K G k dk → Dv K G v dv → PrD K G xs ys → PrD K G ((k, v) :: xs) ((dk, dv) :: ys)
theorem PrD.up {G G' : Hp} (e : Ex G G') : ∀ {xs : List (V × V)} {ys : List (D × D)}, PrD K G xs ys → PrD K G' xs ys
  | _, _, .nil => .nil
  | _, _, .cons a b c => .cons (a.up e) (b.up e) (PrD.up e c)
end
section
variable {X : Cx} {W : WX} {pos : Pos}
theorem RunM.new {K : PySem.W.Frag} {mg : Str → Option Value} {env : DEnv} {σ : L2.St} {G H : Hp} {zs : List (D × D)} {vs : List (Key × V)} {Q : VK} {a : Addr} (R : Rel K env σ G H) (h : RunM K mg W env σ G H (.ok zs env) Q) (ha : H a = none) (dv : DvKv K G vs zs) : Q (.ref a) (upd H a (.dK vs)) := by
  have ga : G a = none := R.ex.none ha
  obtain ⟨R2, m⟩ := R.laid1 (o := .dK vs) ha
  refine h a vs G _ R2 upd_same ga ha (fun ⟨i, w⟩ => (((m i a).1 w).there R).1 ha) dv ⟨Ex.refl _, fun b u hb _ => by rw [upd_ne (ne_of_none hb ha)]; exact hb, fun b hb => ?_, fun _ z => .inl z, fun b ⟨i, w⟩ => .inl ⟨i, (m i b).1 w⟩, fun _ s z _ => ⟨rfl, s, z, rfl⟩⟩
  by_cases z : b = a
  · subst z; exact ha
  · rw [upd_ne z] at hb; exact hb
variable {o e f : Expr} {dd dk dx : DE} {apos : Pos}
end
end DL
set_option Elab.async false
set_option linter.all false
set_option maxRecDepth 100000
set_option autoImplicit false
namespace DL
open PySem L2
/-- a def of the top, where it stands -/
abbrev FnT (K : PySem.W.Frag) (x : Str) (st : Stmt) (fd : FuncData) : Prop := FunD K x x (defArgs st) (defBody st) (defScope st) [] [] (He.ga K x) fd
/-- what a caller knows of a def -/
structure Cal (P : Program) (w : World) (K : PySem.W.Frag) (mg : Str → Option Value) (base : Heap) (k : Nat) (x : Str) (np : Nat) (F : Df) : Prop where
  ex : ∃ (fd : FuncData) (ps : List Str), ps.length = np ∧ FnOk P w K mg base (L2N.CX P w) k (He.ga K x) fd ps (spD K mg ps.length F) ∧ Binds K fd ps []
  mg_ : mg x = some (.ref (He.ga K x))
  kp : PySem.W.keepIn K (.ref (He.ga K x)) = true
section
variable {P : Program} {w : World} {K : PySem.W.Frag} {mg : Str → Option Value} {base : Heap}
theorem fn_bodyD {x : Str} {st : Stmt} {fd : FuncData} {N ps : List Str} {k : Nat} {ds : DS} (F : FnT K x st fd) (S : FnScope N ps (defScope st)) (hps : ps.length ≤ N.length)
    (hbody : ∀ (cdv : Value) (A : Around) (outer : List Env) (s : Shared) (H : Hp) (E : XK), Room k (A.deeper (PyProof.Rows.envOfC x (defScope st) s.heap.objs.size (He.ga K x) cdv)) →
      CSs (cxOf (L2N.CX P w) P w K mg base N x (defScope st) (He.ga K x) cdv A outer s H E) (fun cls d _ H => E cls d H) (defBody st) ds) :
    FnOk P w K mg base (L2N.CX P w) (k + 1) (He.ga K x) fd ps (spD K mg ps.length (bodyF N.length ds)) := by
  obtain ⟨oc, od, dV, kV, doc, pm, an, cdv, ct, osl, rfl, lk, hcd, _, _⟩ := F.ex
  refine fn_of lk hcd S (fun vs H Q E h => h.1) fun A outer s H vs Q E hr h => ⟨_, hbody cdv A outer s H E hr, ?_⟩
  obtain ⟨hl, args, G, R, h⟩ := h
  have hn : vs.length ≤ N.length := by omega
  refine ⟨_, G, rel_start (N := N) R hn, ?_⟩
  have h' : RunF K mg args (vs.map some) G H (match ds (args ++ List.replicate (N.length - args.length) Sl.no) with
    | .nx e => .ok .none (outsOf args e)
    | .rt d e => .ok d (outsOf args e)
    | .rl xs e => .okl xs (outsOf args e)
    | .ex x e => .ex x (outsOf args e)
    | _ => .stuck) Q E := h
  cases q : ds (args ++ List.replicate (N.length - args.length) Sl.no) with
  | nx e =>
    rw [q] at h'
    exact fun σ' G' H' R' F' => let ⟨a, b, _⟩ := ends_fr R hn R' F'; h' .non G' H' a .non b
  | rt d e =>
    rw [q] at h'
    exact fun v σ' G' H' R' dv F' => let ⟨a, b, _⟩ := ends_fr R hn R' F'; h' v G' H' a dv b
  | rl d e =>
    rw [q] at h'
    exact fun a vs' σ' G' H' R' h1 h2 h3 h4 dv F' => let ⟨r, b, c⟩ := ends_fr R hn R' F'; h' a vs' G' H' r h1 h2 h3 (fun z => h4 (c a z)) dv b
  | ex x e =>
    rw [q] at h'
    exact fun cls dd σ' G' H' xr R' F' => let ⟨a, b, _⟩ := ends_fr R hn R' F'; h' cls dd G' H' xr a b
  | bk e => rw [q] at h'; exact h'.elim
  | ct e => rw [q] at h'; exact h'.elim
  | stuck => rw [q] at h'; exact h'.elim
/-- THE RULE: a def of the top keeps what its function on data says -/
theorem cal_of {x : Str} {st : Stmt} {N ps : List Str} {k : Nat} {ds : DS} (D : ∃ fd, FnT K x st fd) (g : mg x = some (.ref (He.ga K x))) (S : FnScope N ps (defScope st)) (hps : ps.length ≤ N.length)
    (hb : ∀ (kV doc pm : Value) (an : Option Addr) (cdv ct : Value) (us : List Value), us.length = ps.length → bindArgs (PySem.W.fnOf x x (defArgs st) (defBody st) (defScope st) .none kV doc pm an cdv ct) ⟨us, []⟩ = pure (ps.zip us))
    (hbody : ∀ (cdv : Value) (A : Around) (outer : List Env) (s : Shared) (H : Hp) (E : XK), Room k (A.deeper (PyProof.Rows.envOfC x (defScope st) s.heap.objs.size (He.ga K x) cdv)) →
      CSs (cxOf (L2N.CX P w) P w K mg base N x (defScope st) (He.ga K x) cdv A outer s H E) (fun cls d _ H => E cls d H) (defBody st) ds) :
    Cal P w K mg base (k + 1) x ps.length (bodyF N.length ds) := by
  obtain ⟨fd, F⟩ := D
  exact ⟨⟨fd, ps, rfl, fn_bodyD F S hps hbody, F.bindsN hb⟩, g, F.kp⟩
theorem Cal.mono {j k : Nat} {x : Str} {np : Nat} {F : Df} (C : Cal P w K mg base j x np F) (h : j ≤ k) : Cal P w K mg base k x np F :=
  let ⟨fd, ps, e, f, b⟩ := C.ex
  ⟨⟨fd, ps, e, f.mono h, b⟩, C.mg_, C.kp⟩
end
section
variable {X : Cx} {W : WX} {pos p : Pos} {e : Expr} {es : List Expr} {da : DAr} {j k np : Nat} {F : Df} {x : Str}
theorem passF (σ : L2.St) : PassesAt (L2N.CX X.prog X.w) X σ (WE WF σ) := fun _ _ _ _ _ _ h => by
  obtain ⟨_, _, _, _, _, _, _, _, _, _, _, _, z⟩ := h
  exact z.elim
theorem ce_callC (C : Cal X.prog X.w X.K X.mg X.base j x np F) (hr : Room k X.A) (hjk : j ≤ k) (tk : ∀ σ, PassesAt (L2N.CX X.prog X.w) X σ (WE W σ)) (ha : CR X W (e :: es) da) (hg : Gl X x := by rfl)
    (hdb : (x == ("__debug__" : Str)) = false := by decide) (he : starEach (e :: es) X.env = (false, eval e X.env) :: starEach es X.env := by rfl) (hpl : (backTo pos (starEach es X.env)).any (·.1) = false := by rfl) :
    CE X W (.Call (.Name x p) (e :: es) [] pos) (eCallN np F da) := by
  obtain ⟨fd, ps, rfl, f, b⟩ := C.ex
  exact ce_call f (hr.mono hjk) C.mg_ C.kp b tk ha hg hdb he hpl
theorem cl_callC (C : Cal X.prog X.w X.K X.mg X.base j x np F) (hr : Room k X.A) (hjk : j ≤ k) (tk : ∀ σ, PassesAt (L2N.CX X.prog X.w) X σ (WE W σ)) (ha : CR X W (e :: es) da) (hg : Gl X x := by rfl)
    (hdb : (x == ("__debug__" : Str)) = false := by decide) (he : starEach (e :: es) X.env = (false, eval e X.env) :: starEach es X.env := by rfl) (hpl : (backTo pos (starEach es X.env)).any (·.1) = false := by rfl) :
    CL X W (.Call (.Name x p) (e :: es) [] pos) (lCallN np F da) := by
  obtain ⟨fd, ps, rfl, f, b⟩ := C.ex
  exact cl_call f (hr.mono hjk) C.mg_ C.kp b tk ha hg hdb he hpl
end
/-- the script as data -/
def scriptD (ns : List Int) : D := .list (ns.map PyData.int)
theorem script_sp {K : PySem.W.Frag} {mg : Str → Option Value} {H : Hp} {a : Addr} {ns : List Int} {F : Df} {outs : DEnv} (h : RL K H a (ns.map V.int)) (e : F [.v (scriptD ns)] = .ok (.bool true) outs) : spD K mg 1 F [.ref a] H (fun v _ => v = .bl true) fun _ _ _ => False := by
  refine ⟨rfl, [.v (scriptD ns)], H, ⟨Ex.refl _, rfl, fun i s o h1 h2 => ?_, fun i j b ⟨s, o, h1, _, h2⟩ => ?_⟩, ?_⟩
  · match i, h1, h2 with
    | 0, h1, h2 =>
      cases h1
      cases h2
      exact ⟨_, rfl, .lst h (DvAll.of_ints ns)⟩
  · match i, h1 with
    | 0, h1 => cases h1; cases h2
  · rw [e]
    intro v G' H' R' dv F'
    cases dv
    rfl
theorem walk_ofR {l : PySem.W.OpenLaw} {n k : Nat} {q : Program} {loose : List Str} {XP : (Str → Option Value) → Heap → Prop} {YP : World → Heap → Prop} {d : DefRec} {F : Df}
    (hn : l.most = some n) (hn2 : n ≤ sizeLine) (hdf : d.params.defaults = []) (hr : Room k callerA) (hnm : d.name = "law")
    (hF : ∀ ns : List Int, ns.length ≤ n → ∃ outs, F [.v (scriptD ns)] = .ok (.bool true) outs)
    (hC : ∀ (w : World) (mg : Str → Option Value) (h : Heap), YP w h → h.Ns mainGlobals mg →
      ∃ (K : PySem.W.Frag) (fd : FuncData), K.In h ∧ mg "law" = some (.ref (He.ga K "law")) ∧ (∀ (s : Shared) (u : Value), BindsTo s fd ⟨[u], []⟩ [("script", u)]) ∧
        ∀ base : Heap, K.In base → base.Ns mainGlobals mg → FnOk l.prog w K mg base (L2N.CX l.prog w) k (He.ga K "law") fd ["script"] (spD K mg 1 F)) :
    PySem.W.WalkO q loose XP YP l.row.toRowW d [] (fun f vs => PySem.call f vs) := by
  refine Att.attach_call hn hdf fun w s0 s1 mg mb fa o pm cd doc a vs ns Gr Y ho hd hcd hmg hobj hints hlen hgen => ?_
  obtain ⟨K, fd, KX, hg, hb, hFn⟩ := hC w mg _ Y Gr.T.g
  rw [hnm, hg] at hmg
  cases hmg
  obtain ⟨outs, he⟩ := hF ns hlen
  refine law_call KX Gr.T.g Gr.T.b Gr.T.builtins Gr.T.nolimit hgen hobj hints (Nat.le_trans hlen hn2) hr hFn hb (fun H hO hS => script_sp ?_ he) fun H e s' hx => ?_
  · rcases hS with h | ⟨oo, its, m, h1, h2, h3, h4, h5, h6⟩
    · exact .inl h
    · have e1 := KX a oo h1
      rw [hobj] at e1
      cases e1
      exact .inr ⟨vs.toArray, _, h1, by cases h4; exact h5, by cases h4; exact h6⟩
  · obtain ⟨_, _, _, _, _, _, _, _, _, _, _, _, z⟩ := hx
    exact z
end DL
set_option Elab.async false
set_option linter.all false
set_option maxRecDepth 100000
set_option autoImplicit false
namespace DL
open PySem L2
def rLendC (i : Nat) (da : DAr) : DAr := fun env => if lent i env then (da env).bind fun xs e2 => if lent i e2 then .ok (.s i :: xs) e2 else .stuck else .stuck
/-- how many turns a while is given at most -/
theorem fuel_ex : ∃ n : Nat, 1000000 ≤ n := ⟨1000000, Nat.le_refl _⟩
/-- how often a loop may go on: nothing looks into it -/
noncomputable def FUEL : Nat := Classical.choose fuel_ex
theorem fuel_le : 1000000 ≤ FUEL := Classical.choose_spec fuel_ex
end DL
set_option Elab.async false
set_option linter.all false
set_option maxRecDepth 100000
set_option autoImplicit false
namespace DL
open PySem L2
end DL
set_option Elab.async false
set_option linter.all false
set_option maxRecDepth 100000
set_option autoImplicit false
namespace DL
open PySem L2 PySem.Spec PyProof.Rows
/-- what is known of an exception class of the program's own, without an own __init__ -/
structure ExC (K : PySem.W.Frag) (mg : Str → Option Value) (x : Str) : Prop where
  g : mg x = some (.ref (He.ga K x))
  e : PySem.W.excIn K (He.ga K x) He.veBase "ValueError.__new__" = true
  k : PySem.W.keepIn K (.ref (He.ga K x)) = true
  b : PySem.W.subIn K (.ref (He.ga K x)) (.type "BaseException") = some true
  t : PySem.W.typeIn K (.ref (He.ga K x)) = some (.type "type")
end DL
set_option Elab.async false
set_option linter.all false
set_option maxRecDepth 100000
set_option autoImplicit false
namespace PySem
open Sem (wp)
end PySem
namespace DL
open PySem L2 PySem.Spec PyProof.Rows
end DL
set_option Elab.async false
set_option linter.all false
set_option maxRecDepth 100000
set_option autoImplicit false
set_option maxHeartbeats 4000000
namespace PySem
open Sem (wp)
open AutoSeq1
end PySem
namespace DL
open PySem L2 PySem.Spec PyProof.Rows
end DL
namespace DL
open PySem L2 PySem.Spec PyProof.Rows RZ
end DL
namespace DL
open PySem L2 PySem.Spec PyProof.Rows RZ
end DL
set_option Elab.async false
set_option linter.all false
set_option maxRecDepth 100000
set_option autoImplicit false
set_option maxHeartbeats 4000000
namespace PySem
open PySem.W PySem.Calls PyProof.Rows PySem.Spec SrtO
end PySem
namespace DL
open PySem L2 PySem.Spec PyProof.Rows
end DL
set_option Elab.async false
set_option linter.all false
set_option maxRecDepth 100000
set_option autoImplicit false
set_option maxHeartbeats 4000000
namespace DL
open PySem L2 L2H HotX PySem.Spec PyProof.Rows
end DL
set_option Elab.async false
set_option linter.all false
set_option maxRecDepth 100000
set_option autoImplicit false
set_option maxHeartbeats 4000000
namespace DL
open PySem L2 L2H HotX PySem.Spec PyProof.Rows
theorem exiB_ok {K : PySem.W.Frag} {C : Addr} (h : exiB K C = true) : ExI K C := by
  unfold exiB at h
  simp only [Bool.and_eq_true, decide_eq_true_eq] at h
  obtain ⟨h1, h2, h3, h4, h5, h6, h7, h8⟩ := h
  exact ⟨h1, h2, h3, h4, h5, h6, h7, h8⟩
end DL
set_option Elab.async false
set_option linter.all false
set_option maxRecDepth 100000
set_option autoImplicit false
set_option maxHeartbeats 4000000
namespace DL
open PySem L2 L2H HotX PySem.Spec PyProof.Rows
def strsD : List D → Option (List Str)
  | [] => some []
  | .str x :: r => (strsD r).map (x :: ·)
  | _ :: _ => none
theorem strsD_some : ∀ {ds : List D} {ys : List Str}, strsD ds = some ys → ds = ys.map PyData.str
  | [], _, h => by cases h; rfl
  | .str x :: r, _, h => by
    cases q : strsD r with
    | none => simp [strsD, q] at h
    | some zs =>
      simp [strsD, q] at h
      subst h
      rw [strsD_some q]
      rfl
  | .none :: _, _, h => by cases h
  | .bool _ :: _, _, h => by cases h
  | .int _ :: _, _, h => by cases h
  | .list _ :: _, _, h => by cases h
  | .tuple _ :: _, _, h => by cases h
  | .dict _ :: _, _, h => by cases h
theorem dv_strs {K : PySem.W.Frag} {G : Hp} : ∀ {vs : List V} {ys : List Str}, DvAll K G vs (ys.map PyData.str) → vs = ys.map V.str
  | _, [], h => by cases h; rfl
  | _, y :: ys, h => by
    cases h with
    | cons a b => cases a; rw [dv_strs b]; rfl
def joinG (a : Str) (ys : List Str) : Prop := (ys.map (·.length)).sum + ys.length * a.length ≤ 16777216
instance (a : Str) (ys : List Str) : Decidable (joinG a ys) := by unfold joinG; infer_instance
def dJoin (a : Str) : D → Option D
  | .list xs => match strsD xs with
    | some ys => if joinG a ys then some (.str (Txt.join a ys)) else none
    | none => none
  | .tuple xs => match strsD xs with
    | some ys => if joinG a ys then some (.str (Txt.join a ys)) else none
    | none => none
  | _ => none
def eJoin (da db : DE) : DE := fun env => (da env).bind fun x e1 => match x with
  | .str a => (db e1).bind fun y e2 => put (dJoin a y) e2
  | _ => .stuck
section
variable {X : Cx} {W : WX} {pos apos : Pos} {o e : Expr} {da db : DE}
theorem ce_join (ho : CE X W o da) (he : CE X W e db) (hs : starEach [e] X.env = [(false, eval e X.env)] := by rfl) (hbase : attributeBase o "join" X.env (eval o X.env) = eval o X.env := by rfl) (hline : (apos.endLine == pos.line) = true := by rfl) :
    CE X W (.Call (.Attribute o "join" apos) [e] [] pos) (eJoin da db) := pe_imp (pe_join ho he hs hbase hline) fun σ H Q h => by
  obtain ⟨env, G, R, h⟩ := h
  refine E_thenE R h fun d e1 v G1 H1 _ R1 dv F1 h1 => ?_
  cases dv with
  | str a =>
    refine ⟨⟨a, rfl⟩, E_thenE R1 h1 fun y e2 w G2 H2 _ R2 dw F2 h2 => ?_⟩
    obtain ⟨z, ez, k⟩ := RunE.put R2 h2
    have fin : ∀ {p : Addr} {vs : List V} {xs : List D}, (SqL X.K H2 p vs ∨ SqT X.K H2 p vs) → DvAll X.K G2 vs xs → (match strsD xs with
        | some ys => if joinG a ys then some (PyData.str (Txt.join a ys)) else none
        | none => none) = some z → ∃ a' p', ∃ ys : List Str, V.str a = .str a' ∧ [V.ref p] = [.ref p'] ∧ (SqL X.K H2 p' (ys.map V.str) ∨ SqT X.K H2 p' (ys.map V.str)) ∧ (ys.map (·.length)).sum + ys.length * a'.length ≤ 16777216 ∧ Q (.str (Txt.join a' ys)) H2 := fun {p vs xs} hq dvs ez => by
      cases q : strsD xs with
      | none => rw [q] at ez; cases ez
      | some ys =>
        rw [q] at ez
        by_cases c : joinG a ys
        · simp only [if_pos c] at ez
          cases ez
          rw [strsD_some q] at dvs
          rw [dv_strs dvs] at hq
          exact ⟨a, p, ys, rfl, rfl, hq, c, k _ G2 H2 (.str _) (Grow.refl R2.ex)⟩
        · simp only [if_neg c] at ez
          cases ez
    cases dw with
    | lst x y => exact fin (.inl (R2.ex.rl x).sq) y ez
    | tup x y => exact fin (.inr (R2.ex.n x).t) y ez
    | non => cases ez
    | bl _ => cases ez
    | int _ => cases ez
    | str _ => cases ez
    | dct _ _ => cases ez
    | exc _ _ => cases ez
  | non => exact h1.elim
  | bl _ => exact h1.elim
  | int _ => exact h1.elim
  | lst _ _ => exact h1.elim
  | tup _ _ => exact h1.elim
  | dct _ _ => exact h1.elim
  | exc _ _ => exact h1.elim
end
structure Kx (K : PySem.W.Frag) (mg : Str → Option Value) : Prop where
  g : ∀ c ∈ kNames, mg c = some (.ref (He.ga K c))
  gs : mg "SkinError" = some (.ref (He.ga K "SkinError"))
  i : ∀ c ∈ kNames, ExI K (He.ga K c)
  kk : ∀ c ∈ kNames, ∀ n ∈ kNames, PySem.W.kitOne K (.ref (He.ga K c)) (.ref (He.ga K n)) = some (c == n)
  kv : ∀ c ∈ kNames, PySem.W.kitOne K (.ref (He.ga K c)) (.type "ValueError") = some true
  xk : ∀ c ∈ kNames, ∀ n ∈ ("SkinError" : Str) :: kNames, PySem.W.exmOne K (.ref (He.ga K c)) (.ref (He.ga K n)) = some (mtC n c)
  xf : ∀ c ∈ kNames, XfC K (He.ga K c) ∧ PySem.W.findIn K (.ref (He.ga K c)) "word" = some none ∧ PySem.W.findIn K (.ref (He.ga K c)) "half" = some none
theorem kxB_ok {K : PySem.W.Frag} {mg : Str → Option Value} (h : kxB K = true) (g : ∀ c ∈ kNames, mg c = some (.ref (He.ga K c))) (gs : mg "SkinError" = some (.ref (He.ga K "SkinError"))) : Kx K mg := by
  have h' := fun c hc => List.all_eq_true.mp h c hc
  simp only [Bool.and_eq_true, decide_eq_true_eq] at h'
  exact ⟨g, gs, fun c hc => exiB_ok (h' c hc).1, fun c hc n hn => by simpa using List.all_eq_true.mp (h' c hc).2.1 n hn, fun c hc => (h' c hc).2.2.1, fun c hc n hn => by simpa using List.all_eq_true.mp (h' c hc).2.2.2.1 n hn,
    fun c hc => ⟨xfB_ok (h' c hc).2.2.2.2.1, (h' c hc).2.2.2.2.2.1, (h' c hc).2.2.2.2.2.2⟩⟩
/-- isinstance(e, C): the answer is b -/
def eIsE (a : Addr) (d : Option Addr) (i : Nat) (b : Bool) : DE := fun env => match env[i]? with
  | some (.a a' d' _) => if a' = a ∧ d' = d then .ok (.bool b) env else .stuck
  | _ => .stuck
/-- e.n -/
def eFld (a : Addr) (d : Option Addr) (i : Nat) (n : Str) : DE := fun env => match env[i]? with
  | some (.a a' d' (some (m, x))) => if a' = a ∧ d' = d ∧ m = n then .ok x env else .stuck
  | _ => .stuck
/-- _law_kinds(e) -/
def eKinds (a : Addr) (d : Option Addr) (c : Str) (i : Nat) : DE := fun env => match env[i]? with
  | some (.a a' d' _) => if a' = a ∧ d' = d then .ok (.str (c ++ "+")) env else .stuck
  | _ => .stuck
end DL
set_option Elab.async false
set_option linter.all false
set_option maxRecDepth 100000
set_option autoImplicit false
set_option maxHeartbeats 4000000
namespace DL
open PySem L2 L2H HotX PySem.Spec PyProof.Rows
abbrev DfX := Addr → Option Addr → Str → Df
/-- what a clause assigns -/
def eHd (a : Addr) (d : Option Addr) (c : Str) (i : Nat) : Option Str → DE
  | none => eKinds a d c i
  | some w => eBin dAdd (eKinds a d c i) (eFld a d i w)
inductive HsD (X : Cx) (nE : Str) (iE iK : Nat) : List ExceptHandler → List (Str × Option Str) → Prop
  | nil : HsD X nE iE iK [] []
  | cons {n : Str} {w : Option Str} {b₀ : Stmt} {su : List Stmt} {np pos' : Pos} {hds : List ExceptHandler} {l : List (Str × Option Str)} (hn : n ∈ ("SkinError" : Str) :: kNames) (hg : Gl X n) (hdb : (n == ("__debug__" : Str)) = false)
      (hsu : ∀ (c : Str), c ∈ kNames → mtC n c = true → ∀ (a : Addr) (oe : Obj) (d : Option Addr) (pn : List (Addr × Obj)), L2N.Zn (.ref (He.ga X.K c)) d oe → (∃ vs, oe.data = .fields vs) →
        CSs (X.suite a ((a, oe) :: pn)) WF (b₀ :: su) (sAsg (eHd a d c iE w) (gN iK))) (r : HsD X nE iE iK hds l) :
      HsD X nE iE iK (.ExceptHandler (some (.Name n np)) (some nE) (b₀ :: su) pos' :: hds) ((n, w) :: l)
section
variable {X : Cx} {W : WX} {pos : Pos} {body : List Stmt} {hd0 : ExceptHandler} {hds : List ExceptHandler} {l : List (Str × Option Str)} {nE : Str} {iE iK : Nat} {db : DS}
theorem HsD.names : ∀ {hds : List ExceptHandler} {l : List (Str × Option Str)}, HsD X nE iE iK hds l → ∀ p ∈ l, p.1 ∈ ("SkinError" : Str) :: kNames
  | _, _, .nil, _, h => by cases h
  | _, _, .cons hn _ _ _ r, p, h => by
    rcases List.mem_cons.mp h with e | h
    · subst e; exact hn
    · exact r.names p h
end
end DL
set_option Elab.async false
set_option linter.all false
set_option maxRecDepth 100000
set_option autoImplicit false
set_option maxHeartbeats 4000000
namespace DL
open PySem L2 PySem.Spec PyProof.Rows
theorem oexB_cls {K : PySem.W.Frag} {C : Addr} (q : oexB K C = true) : ∃ nm qn N bs bm sn sub ab col dd k0 k1 k2 k3 k5, K.lookup C = some (excClassObj nm qn C N bs bm true sn sub ab col dd k0 k1 k2 k3 k5 "ValueError.__new__") ∧ PySem.HandSPX.refsVE bm = true := by
  unfold oexB at q
  split at q
  · rename_i dd cd sl ho
    split at q
    · rename_i C' bm k0 k1 k2 k3 n k5 hm hs
      simp only [Bool.and_eq_true, beq_iff_eq, Bool.not_eq_true'] at q
      obtain ⟨rfl, rfl, hdel, hdict, ht⟩ := q
      obtain ⟨nm, bs, mro, ns, qn, hd, sn, sub, ab, col, del⟩ := cd
      dsimp only at hm hdel hdict
      subst hm hdel hdict
      obtain ⟨l⟩ := sl
      simp only at hs
      subst hs
      exact ⟨nm, qn, ns, bs, bm, sn, sub, ab, col, dd, k0, k1, k2, k3, k5, ho, ht⟩
    · cases q
  · cases q
/-- what is known of such a class x, its base y, its field f -/
structure ExF (K : PySem.W.Frag) (mg : Str → Option Value) (x y f : Str) : Prop where
  g : mg x = some (.ref (He.ga K x))
  gb : mg y = some (.ref (He.ga K y))
  o : OexC K (He.ga K x)
  iC : PySem.W.findIn K (.ref (He.ga K x)) "__init__" = some (some (.ref (He.ma K (He.ga K x) "__init__")))
  tI : PySem.W.typeIn K (.ref (He.ma K (He.ga K x) "__init__")) = some (.type "function")
  no : PySem.W.findIn K (.ref (He.ga K x)) f = some none
  b1 : PySem.W.specialIn K (.ref (He.ga K y)) "__getattribute__" = some (some (.builtin "type.__getattribute__"))
  b2 : PySem.W.readsIn K (He.ga K y) (.type "type") = true
  b3 : PySem.W.findCls K (.ref (He.ga K y)) (.type "type") "__init__" = some (.val (.builtin "ValueError.__init__"))
theorem exfB_ok {K : PySem.W.Frag} {mg : Str → Option Value} {x y f : Str} (h : exfB K x y f = true) (g : mg x = some (.ref (He.ga K x))) (gb : mg y = some (.ref (He.ga K y))) : ExF K mg x y f := by
  unfold exfB at h
  simp only [Bool.and_eq_true, decide_eq_true_eq] at h
  obtain ⟨h1, h2, h3, h4, h5, h6, h7, h8, h9, h10, h11⟩ := h
  refine ⟨g, gb, ⟨oexB_cls h1, h2, h3, h4, h5⟩, h6, h7, h8, h9, h10, ?_⟩
  split at h11
  · rename_i n q
    rw [of_decide_eq_true h11] at q
    exact q
  · cases h11
section
variable {X : Cx} {o e : Expr} {es : List Expr} {ta : TA} {p1 p2 p pos : Pos} {x y f : Str}
/-- Base.__init__(self, ..) -/
theorem pe_binit {pl : Sem Bool} (T : ExF X.K X.mg x y f) (ha : PA X (e :: es) ta) (hg : Gl X y := by rfl) (hdb : (y == ("__debug__" : Str)) = false := by decide)
    (hc : eval (.Call (.Attribute (.Name y p1) "__init__" p2) (e :: es) [] pos) X.env = (do
      let ov ← eval (.Name y p1) X.env
      standAt p2.atName
      let (f, first) ← holding [ov] (getMethod ov "__init__" pl)
      callWith pos f first (backTo pos (starEach (e :: es) X.env)) (backToKw pos (keywordEach [] X.env))) := by rfl)
    (he : starEach (e :: es) X.env = (false, eval e X.env) :: starEach es X.env := by rfl) (hpl : (backTo pos (starEach es X.env)).any (·.1) = false := by rfl) :
    PE X (.Call (.Attribute (.Name y p1) "__init__" p2) (e :: es) [] pos) (tVeI X.K ta) := by
  refine ⟨fun pins s σ H Q I h => PySem.W.methodCall_KW (ld_glob I hg T.gb ?_ hdb) hc⟩
  refine PySem.W.method_cls I.kIn T.b1 (PySem.W.cls_value I.kIn T.b2 T.b3 (by decide +kernel) ?_)
  show wpAny _ _ (callWith pos (Value.builtin "ValueError.__init__") [] (backTo pos (starEach (e :: es) X.env)) []) _ _ _
  refine PyProof.Rows.callWith_method1 (thn (ha.run pos pins _ σ H _ (I.tok _) h) fun us s1 ⟨vs, H1, I1, r1, a, C, ws, ev, hl, T', ea, q⟩ => ?_) he hpl
  subst ev
  cases r1 with
  | @cons _ u0 _ ur ra rw' =>
    obtain rfl : u0 = Value.ref a := ra
    exact oinit_ok T' I1 ea (by rw [← Paired.length rw', sizeLine_eq]; omega) fun s' J => ⟨.non, H1, J, rfl, q⟩
end
/-- what __init__ promises -/
def spI (C : Addr) (f : Str) : Sp := fun vs H Q _ => ∃ (a : Addr) (v : V), vs = [.ref a, v] ∧ H a = some (exo a C none) ∧ ∀ dx, H dx = none → dx ≠ a → Q .non (upd (upd H dx (exd dx [(f, v)])) a (exo a C (some dx)))
theorem init_read {K : PySem.W.Frag} {mg : Str → Option Value} {x y f : Str} {vs : List V} {H : Hp} {Q : VK} {E : XK} {t2 : TE} {N : List Str} (T : ExF K mg x y f) (hN : N.length = 2) (h : spI (He.ga K x) f vs H Q E) (h2 : ∀ σ H R, σ.length = 2 → (∃ w, σ[1]? = some (some w)) → (∀ z, R z H) → t2 σ H R) :
    tSeq (tDrop (tVeI K (tCons (tVar 0) (tCons t2 tNil)))) (tOst K f (tVar 0) (tVar 1)) { nx := fun _ H' => Q .non H', rt := Q } (L2.start N vs) H := by
  obtain ⟨a, v, rfl, ha, hq⟩ := h
  have e : L2.start N [.ref a, v] = [some (.ref a), some v] := by
    unfold L2.start
    rw [hN]
    rfl
  rw [e]
  refine ⟨.ref a, rfl, h2 _ _ _ rfl ⟨v, rfl⟩ fun z => ⟨a, He.ga K x, [z], rfl, by show 1 ≤ 1000; omega, T.o, ha, ?_⟩⟩
  exact ⟨v, rfl, .ref a, rfl, a, He.ga K x, rfl, T.o, T.no, .inl ⟨ha, fun dx h1 h2 => hq dx h1 h2⟩⟩
/-- what a raise knows of its class -/
structure CalF (P : Program) (w : World) (K : PySem.W.Frag) (mg : Str → Option Value) (base : Heap) (x y f : Str) : Prop where
  t : ExF K mg x y f
  ex : ∃ (fd : FuncData) (ps : List Str), Binds K fd ps [] ∧ FnOk P w K mg base (L2N.CX P w) 1 (He.ma K (He.ga K x) "__init__") fd ps (spI (He.ga K x) f)
end DL
set_option Elab.async false
set_option linter.all false
set_option maxRecDepth 100000
set_option autoImplicit false
set_option maxHeartbeats 4000000
namespace DL
open PySem L2 PySem.Spec PyProof.Rows
end DL
set_option Elab.async false
set_option linter.all false
set_option maxRecDepth 100000
set_option autoImplicit false
set_option maxHeartbeats 8000000
namespace PySem
open PySem.W PySem.Calls PyProof.Rows PySem.Spec SrtO L2
end PySem
set_option Elab.async false
set_option linter.all false
set_option maxRecDepth 100000
set_option autoImplicit false
set_option maxHeartbeats 8000000
namespace PySem
open PySem.W PySem.Calls PyProof.Rows PySem.Spec SrtO L2
end PySem
namespace DL
open PySem L2 PySem.Spec PyProof.Rows
end DL
set_option Elab.async false
set_option linter.all false
set_option maxRecDepth 100000
set_option autoImplicit false
set_option maxHeartbeats 8000000
namespace DL
open PySem L2 PySem.Spec PyProof.Rows
end DL
set_option Elab.async false
set_option linter.all false
set_option maxRecDepth 100000
set_option autoImplicit false
set_option maxHeartbeats 8000000
namespace DL
open PySem L2 PySem.Spec PyProof.Rows
end DL
set_option Elab.async false
set_option linter.all false
set_option maxRecDepth 100000
set_option autoImplicit false
set_option maxHeartbeats 8000000
namespace DL
open PySem L2 PySem.Spec PyProof.Rows
def sgn (z : Str) : List Str := z.cps.toList.map fun c => ⟨#[c]⟩
def seqS : D → Option (List D)
  | .list xs => some xs
  | .tuple xs => some xs
  | .str z => some ((sgn z).map PyData.str)
  | _ => none
def iSeqS (de : DE) : DA := fun env => (de env).bind fun d e1 => put (seqS d) e1
theorem walk_str {K : PySem.W.Frag} {G : Hp} (z : Str) : WalkD K (Its z) ((sgn z).map PyData.str) G := fun i G' H' e1 e2 => by
  have hl : ((sgn z).map PyData.str).length = z.cps.size := by simp [sgn]
  refine ⟨fun d hd => ?_, fun hl' => by rw [hl] at hl'; exact hl'⟩
  have h1 : i < z.cps.size := by rw [← hl]; exact (List.getElem?_eq_some_iff.mp hd).1
  refine ⟨h1, fun x H'' ⟨e, c, hc, y⟩ => ?_⟩
  subst e
  have ed : d = .str ⟨#[c]⟩ := by
    simp only [sgn, List.getElem?_map, Array.getElem?_toList, hc, Option.map_some, Option.some.injEq] at hd
    exact hd.symm
  subst ed
  rw [y]
  exact ⟨G', Grow.refl e2, .str _⟩
section
variable {X : Cx} {W : WX} {pos : Pos} {tg e : Expr} {de : DE}
theorem ci_seqS (he : CE X W e de) : CI X W tg e (iSeqS de) := pi_imp (pi_or (ci_seq he) (pi_str he)) fun σ H R h => by
  obtain ⟨env, G, R0, h⟩ := h
  have h' : RunI X.K X.mg W env σ G H ((de env).bind fun d e1 => put (seqS d) e1) R := h
  cases q : de env with
  | stuck => rw [q] at h'; exact h'.elim
  | ex x e => rw [q] at h'; exact .inr ⟨env, G, R0, by rw [q]; exact h'⟩
  | ok d e1 =>
    rw [q] at h'
    cases d with
    | list xs =>
      refine .inl ⟨env, G, R0, ?_⟩
      unfold iSeq
      rw [q]
      exact h'
    | tuple xs =>
      refine .inl ⟨env, G, R0, ?_⟩
      unfold iSeq
      rw [q]
      exact h'
    | str z =>
      refine .inr ⟨env, G, R0, ?_⟩
      rw [q]
      intro v G1 H1 R1 dv F1
      cases dv
      exact ⟨z, rfl, h' _ G1 H1 R1 (walk_str z) F1⟩
    | none => exact h'.elim
    | bool b => exact h'.elim
    | int b => exact h'.elim
    | dict b => exact h'.elim
end
section
variable {X : Cx} {K : PySem.W.Frag}
def mulStr (x : Str) (n : Int) : Option Str := if x.length ≤ 100 ∧ 0 ≤ n ∧ n ≤ 1000 then some (Txt.mul x n) else none
def dMulS (a b : D) : Option D := match a, b with
  | .str x, .int n => (mulStr x n).map PyData.str
  | a, b => dMul a b
def rMulS : R2 := fun x y H Q => ∃ u n, x = .str u ∧ y = .int n ∧ u.length ≤ 100 ∧ 0 ≤ n ∧ n ≤ 1000 ∧ Q (.str (Txt.mul u n)) H
theorem mulOk_small {u : Str} {n : Int} (h1 : u.length ≤ 100) (h2 : 0 ≤ n) (h3 : n ≤ 1000) : MulOk u n := by
  refine ⟨?_, fun h4 _ => ?_, fun h4 _ => ?_⟩
  · rw [Bool.or_eq_false_iff, decide_eq_false_iff_not, decide_eq_false_iff_not]
    constructor <;> omega
  · have h5 : (0 : Int) < n := by omega
    have h6 : n ≤ (2 ^ 63 - 1) / 100000 := by omega
    have h7 : (100000 : Int) ≤ (2 ^ 63 - 1) / n := by
      rw [Int.le_ediv_iff_mul_le h5]
      have : 100000 * n ≤ 100000 * 1000 := Int.mul_le_mul_of_nonneg_left h3 (by decide)
      omega
    omega
  · obtain ⟨m, rfl⟩ := Int.eq_ofNat_of_zero_le h2
    have hm : m ≤ 1000 := by omega
    have : u.length * m ≤ 100 * 1000 := Nat.mul_le_mul h1 hm
    rw [Int.toNat_natCast]
    unfold Builtin.Str.tooLong
    rw [decide_eq_false_iff_not]
    have := lim_size (n := u.length * m) (by omega)
    omega
theorem op_mulSt : OpR X (binaryOp .Mult) rMulS := by
  intro pins s σ H x y v u Q I rx ry h
  obtain ⟨a, n, rfl, rfl, h1, h2, h3, q⟩ := h
  obtain ⟨t, rfl⟩ := rx
  obtain ⟨t', rfl⟩ := ry
  exact SB.mul (mulOk_small h1 h2 h3) fun t2 k => ⟨.str (Txt.mul a n), H, I.tok _, ⟨t2, rfl⟩, q⟩
theorem op_mulAS : OpR X (binaryOp .Mult) (fun x y H Q => rMulA x y H Q ∨ rMulS x y H Q) := op_mulA.or op_mulSt
theorem od_mulS : OpD K (fun x y H Q => rMulA x y H Q ∨ rMulS x y H Q) dMulS := fun x y d e z G H Q hx hy ex h k => by
  by_cases hs : ∃ u n, d = .str u ∧ e = .int n
  · obtain ⟨u, n, rfl, rfl⟩ := hs
    right
    cases hx
    cases hy
    have h' : (mulStr u n).map PyData.str = some z := h
    unfold mulStr at h'
    by_cases c : u.length ≤ 100 ∧ 0 ≤ n ∧ n ≤ 1000
    · rw [if_pos c] at h'
      cases h'
      exact ⟨u, n, rfl, rfl, c.1, c.2.1, c.2.2, k _ G H (.str _) (Grow.refl ex)⟩
    · rw [if_neg c] at h'
      cases h'
  · left
    have h' : dMul d e = some z := by
      cases d <;> first | exact h | (cases e <;> first | exact h | exact absurd ⟨_, _, rfl, rfl⟩ hs)
    exact od_mul x y d e z G H Q hx hy ex h' k
end
end DL
set_option Elab.async false
set_option linter.all false
set_option maxRecDepth 100000
set_option autoImplicit false
set_option maxHeartbeats 8000000
namespace DL
open PySem L2 PySem.Spec PyProof.Rows
end DL
set_option Elab.async false
set_option linter.all false
set_option maxRecDepth 100000
set_option autoImplicit false
namespace DL
open PySem L2 PySem.Spec PyProof.Rows
def repT (xs : List D) (n : Int) : Option D := if xs ≠ [] ∧ 2 ≤ n ∧ n ≤ 1000 ∧ xs.length ≤ 1000 then some (.tuple (List.replicate n.toNat xs).flatten) else none
def dMulT (a b : D) : Option D := match a, b with
  | .tuple xs, .int n => repT xs n
  | a, b => dMulS a b
def rRepF (K : PySem.W.Frag) : R2 := fun x y H Q => ∃ l k xs, x = .ref l ∧ y = .int k ∧ SqT K H l xs ∧ xs ≠ [] ∧ 2 ≤ k ∧ k ≤ 1000 ∧ xs.length ≤ 1000 ∧ ∀ (p : Addr) (o : Obj), H p = none → o.dict = none → Q (.ref p) (upd H p (.frz o (.tup (List.replicate k.toNat xs).flatten)))
theorem many_ok {a b : Nat} (h1 : a ≤ 1000) (h2 : b ≤ 1000) : a * b ≤ sizeLine := by
  have : a * b ≤ 1000 * 1000 := Nat.mul_le_mul h1 h2
  have e : sizeLine = _ := sizeLine_eq
  omega
section
variable {X : Cx} {K : PySem.W.Frag}
theorem op_repF : OpR X (binaryOp .Mult) (rRepF X.K) := by
  intro pins s σ H x y v u Q I rx ry hh
  obtain ⟨l, k, xs, rfl, rfl, hT, hne, h1, h2, hz, hq⟩ := hh
  cases rx
  obtain ⟨tk, rfl⟩ := ry
  obtain ⟨its, rr, ⟨⟨kl, dd, dat, sl⟩, ho, e1, n, e2⟩, _⟩ := I.tuple hT
  simp only at e1 e2
  subst e1 e2
  have le : its.length = xs.length := rr.length.symm
  have ne : its.toArray.isEmpty = false := by
    cases its with
    | nil => exact absurd (List.eq_nil_of_length_eq_zero le.symm) hne
    | cons _ _ => rfl
  have sz : its.toArray.size = xs.length := List.size_toArray.trans le
  have mm : ((its.toArray.size : Nat) : Int) * k ≤ 1000000 := by
    rw [sz]
    have := Int.mul_le_mul_of_nonneg_right (show ((xs.length : Nat) : Int) ≤ 1000 by omega) (show 0 ≤ k by omega)
    omega
  have fl : (List.replicate k.toNat its).flatten.length ≤ sizeLine := by
    rw [PyProof.Rows.lm_len_rep_flat, le]
    exact many_ok (by omega) hz
  have fx : (List.replicate k.toNat xs).flatten.length ≤ sizeLine := by
    rw [PyProof.Rows.lm_len_rep_flat]
    exact many_ok (by omega) hz
  refine wpAny_binaryOp_repeat_ref (T := "tuple") (U := "int") (by decide) ⟨_, ho, rfl⟩ (fun z => typeIs_int z k tk) noFill_tuple_mul F.fills_int_mul F.slot_int_rmul repeat_tuple F.slot_int_index.lookup ?_
  refine call_meets F.slot_int_rmul (typeIs_int s k tk) F.entry_int_rmul (F.args_int_rmul_2 _ _) (int_rmul_tuple k tk l its.toArray n dd sl) ⟨ho, rfl, ⟨_, ho, rfl⟩, ?_⟩
  refine call_meets F.slot_tuple_mul ⟨_, ho, rfl⟩ F.entry_tuple_mul (F.args_tuple_mul_2 _ _) (tuple_mulW l its.toArray n dd sl k tk ?_ ?_ ?_ (by omega) ?_ ?_) ⟨ho, ?_⟩
  · rw [Bool.or_eq_false_iff, decide_eq_false_iff_not, decide_eq_false_iff_not]
    constructor <;> omega
  · rw [ne]
    exact beq_eq_false_iff_ne.mpr (by omega)
  · rw [ne, Bool.or_false]
    exact decide_eq_false (by omega)
  · unfold Builtin.Tuple.tupleTooMany
    have e : sizeLine = _ := sizeLine_eq
    exact decide_eq_false (by omega)
  · rw [size_rep]
    exact fl
  · rw [size_rep]
    refine ⟨.ref s.heap.objs.size, _, I.laid (t' := s.toks) (o := .frz { cls := .type "tuple", data := .seq (List.replicate k.toNat its).flatten.toArray } (.tup (List.replicate k.toNat xs).flatten)) (fun b ob q => Heap.get?_push_of_some _ q) (Nat.le_refl _) ?_, rfl, hq _ _ (I.hok.fresh (Nat.le_refl _)) rfl⟩
    exact ⟨Heap.get?_push_size _ rfl, fx, _, rr.rep k.toNat, IsTup.new _ _⟩
theorem DvAll.rep {G : Hp} {vs : List V} {ds : List D} (h : DvAll K G vs ds) : ∀ m, DvAll K G (List.replicate m vs).flatten (List.replicate m ds).flatten
  | 0 => .nil
  | m + 1 => by
    rw [List.replicate_succ, List.replicate_succ, List.flatten_cons, List.flatten_cons]
    exact h.append (DvAll.rep h m)
def rMulT (K : PySem.W.Frag) : R2 := fun x y H Q => (rMulA x y H Q ∨ rMulS x y H Q) ∨ rRepF K x y H Q
theorem op_mulAT : OpR X (binaryOp .Mult) (rMulT X.K) := op_mulAS.or op_repF
theorem od_mulT : OpD K (rMulT K) dMulT := fun x y d e z G H Q hx hy ex h k => by
  by_cases hs : ∃ u n, d = .tuple u ∧ e = .int n
  · obtain ⟨u, n, rfl, rfl⟩ := hs
    right
    cases hy
    have h' : repT u n = some z := h
    unfold repT at h'
    by_cases c : u ≠ [] ∧ 2 ≤ n ∧ n ≤ 1000 ∧ u.length ≤ 1000
    · rw [if_pos c] at h'
      cases h'
      cases hx with
      | @tup a vs _ h1 h2 =>
        refine ⟨a, n, vs, rfl, rfl, (ex.n h1).t, fun q => ?_, c.2.1, c.2.2.1, by rw [h2.length]; exact c.2.2.2, fun p o hp hd => ?_⟩
        · subst q
          cases h2
          exact c.1 rfl
        · have g : Grow G H (upd G p (.frz o (.tup (List.replicate n.toNat vs).flatten))) (upd H p (.frz o (.tup (List.replicate n.toNat vs).flatten))) := Grow.one ex hp
          exact k _ _ _ (.tup (.inl ⟨o, upd_same, hd⟩) ((h2.rep n.toNat).up g.gg)) g
    · rw [if_neg c] at h'
      cases h'
  · left
    have h' : dMulS d e = some z := by
      cases d <;> first | exact h | (cases e <;> first | exact h | exact absurd ⟨_, _, rfl, rfl⟩ hs)
    exact od_mulS x y d e z G H Q hx hy ex h' k
end
end DL
set_option Elab.async false
set_option linter.all false
set_option maxRecDepth 100000
set_option autoImplicit false
namespace DL
open PySem L2 PySem.Spec PyProof.Rows
end DL
set_option Elab.async false
set_option linter.all false
set_option maxRecDepth 100000
set_option autoImplicit false
namespace DL
open PySem L2 PySem.Spec PyProof.Rows
end DL
set_option Elab.async false
set_option linter.all false
set_option maxRecDepth 100000
set_option autoImplicit false
namespace DL
open PySem L2
/-- a def that makes a dict, by data: the dict, what comes back -/
abbrev DfM := DEnv → Option (List (D × D) × DEnv)
section
variable (K : PySem.W.Frag) (mg : Str → Option Value)
def RunFM (args : DEnv) (σ : L2.St) (G H : Hp) (r : Option (List (D × D) × DEnv)) (Q : VK) : Prop := match r with
  | some (kvs, outs) => ∀ a ws G' H', Rel K outs σ G' H' → H' a = some (.dK ws) → G' a = none → H a = none → ¬ Own outs σ H' a → DvKv K G' ws kvs → Fr args σ G H outs σ G' H' → Q (.ref a) H'
  | none => False
def spM (np : Nat) (F : DfM) : L2.Sp := fun vs H Q E => vs.length = np ∧ ∃ args G, Rel K args (vs.map some) G H ∧ RunFM K args (vs.map some) G H (F args) Q
end
/-- what a caller knows of such a def -/
structure CalM (P : Program) (w : World) (K : PySem.W.Frag) (mg : Str → Option Value) (base : Heap) (k : Nat) (x : Str) (np : Nat) (F : DfM) : Prop where
  ex : ∃ (fd : FuncData) (ps : List Str), ps.length = np ∧ FnOk P w K mg base (L2N.CX P w) k (He.ga K x) fd ps (spM K ps.length F) ∧ Binds K fd ps []
  mg_ : mg x = some (.ref (He.ga K x))
  kp : PySem.W.keepIn K (.ref (He.ga K x)) = true
section
variable {P : Program} {w : World} {K : PySem.W.Frag} {mg : Str → Option Value} {base : Heap}
theorem CalM.mono {j k : Nat} {x : Str} {np : Nat} {F : DfM} (C : CalM P w K mg base j x np F) (h : j ≤ k) : CalM P w K mg base k x np F :=
  let ⟨fd, ps, e, f, b⟩ := C.ex
  ⟨⟨fd, ps, e, f.mono h, b⟩, C.mg_, C.kp⟩
end
section
variable {X : Cx} {W : WX} {pos p : Pos} {e : Expr} {es : List Expr} {da : DAr} {j k np : Nat} {F : DfM} {x : Str}
theorem RunM.shift {K : PySem.W.Frag} {mg : Str → Option Value} {env env1 : DEnv} {σ : L2.St} {G H G1 H1 : Hp} {r : Rs (List (D × D))} {Q : VK} (h : RunM K mg W env σ G H r Q) (f : Fr env σ G H env1 σ G1 H1) : RunM K mg W env1 σ G1 H1 r Q := by
  cases r with
  | stuck => exact h
  | ex x e => exact RunX.shift h f
  | ok ds e2 => exact fun p vs G' H' R' h1 h2 h3 h4 dv F => h p vs G' H' R' h1 h2 (f.dom p h3) h4 dv (f.trans F)
end
end DL
set_option Elab.async false
set_option linter.all false
set_option maxRecDepth 100000
set_option autoImplicit false
set_option maxHeartbeats 4000000
namespace DL
open PySem L2 PySem.Spec PyProof.Rows
abbrev Rows := List (List Int)
/-- lists within a list, apart from one another -/
structure NL (H : Hp) (r : Addr) (bs : List Addr) (rows : Rows) : Prop where
  out : H r = some (.lst (bs.map V.ref))
  len : bs.length = rows.length
  inn : ∀ (j : Nat) (b : Addr) (row : List Int), bs[j]? = some b → rows[j]? = some row → H b = some (.lst (row.map V.int))
  nd : (r :: bs).Nodup
theorem NL.all {H : Hp} {r : Addr} {bs : List Addr} {rows : Rows} (h : NL H r bs rows) {a : Addr} (ha : a ∈ r :: bs) : H a ≠ none := by
  rcases List.mem_cons.1 ha with rfl | ha
  · rw [h.out]; exact fun z => by cases z
  · obtain ⟨j, hj, e⟩ := List.getElem_of_mem ha
    have hj2 : j < rows.length := by rw [← h.len]; exact hj
    rw [← e, h.inn j _ _ (List.getElem?_eq_getElem hj) (List.getElem?_eq_getElem hj2)]
    exact fun z => by cases z
theorem NL.keep {H H' : Hp} {r : Addr} {bs : List Addr} {rows : Rows} (h : NL H r bs rows) (k : ∀ a, a ∈ r :: bs → H' a = H a) : NL H' r bs rows :=
  ⟨by rw [k r (List.mem_cons_self ..)]; exact h.out, h.len, fun j b row hb hr => by rw [k b (List.mem_cons_of_mem _ (List.mem_of_getElem? hb))]; exact h.inn j b row hb hr, h.nd⟩
def putRows : Rows → Int → Int → Int → Option Rows
  | [], _, _, _ => none
  | row :: rows, name, new, more => if name ∈ row then (if row.length ≤ 100000 ∧ 0 ≤ (row.idxOf name : Int) + more ∧ (row.idxOf name : Int) + more ≤ 200000 then some ((row.take ((row.idxOf name : Int) + more).toNat ++ [new] ++ row.drop ((row.idxOf name : Int) + more).toNat) :: rows) else none)
    else (putRows rows name new more).map (row :: ·)
def spP : L2.Sp := fun vs H Q _ => ∃ r bs rows name new more rows', vs = [.ref r, .int name, .int new, .int more] ∧ NL H r bs rows ∧ putRows rows name new more = some rows' ∧ ∀ H', NL H' r bs rows' → (∀ a, a ∉ bs → H' a = H a) → Q .non H'
structure CalP (P : Program) (w : World) (K : PySem.W.Frag) (mg : Str → Option Value) (base : Heap) (k : Nat) (x : Str) : Prop where
  ex : ∃ (fd : FuncData) (ps : List Str), ps.length = 4 ∧ FnOk P w K mg base (L2N.CX P w) k (He.ga K x) fd ps spP ∧ Binds K fd ps []
  mg_ : mg x = some (.ref (He.ga K x))
  kp : PySem.W.keepIn K (.ref (He.ga K x)) = true
end DL
namespace DL
open PySem L2 PySem.Spec PyProof.Rows
section
variable {P : Program} {w : World} {K : PySem.W.Frag} {mg : Str → Option Value} {base : Heap}
theorem CalP.mono {j k : Nat} {x : Str} (C : CalP P w K mg base j x) (h : j ≤ k) : CalP P w K mg base k x :=
  let ⟨fd, ps, e, f, b⟩ := C.ex
  ⟨⟨fd, ps, e, f.mono h, b⟩, C.mg_, C.kp⟩
end
/-- a def that makes lists within a list -/
abbrev DfN := DEnv → Option (Rows × DEnv)
section
variable (K : PySem.W.Frag)
def spN (np : Nat) (F : DfN) : L2.Sp := fun vs H Q _ => vs.length = np ∧ ∃ args G, Rel K args (vs.map some) G H ∧ match F args with
  | some (rows, outs) => ∀ a bs G' H', Rel K outs (vs.map some) G' H' → NL H' a bs rows → (∀ z, z ∈ a :: bs → H z = none ∧ G' z = none ∧ ¬ Own outs (vs.map some) H' z) → Fr args (vs.map some) G H outs (vs.map some) G' H' → Q (.ref a) H'
  | none => False
end
structure CalN (P : Program) (w : World) (K : PySem.W.Frag) (mg : Str → Option Value) (base : Heap) (k : Nat) (x : Str) (np : Nat) (F : DfN) : Prop where
  ex : ∃ (fd : FuncData) (ps : List Str), ps.length = np ∧ FnOk P w K mg base (L2N.CX P w) k (He.ga K x) fd ps (spN K ps.length F) ∧ Binds K fd ps []
  mg_ : mg x = some (.ref (He.ga K x))
  kp : PySem.W.keepIn K (.ref (He.ga K x)) = true
section
variable {P : Program} {w : World} {K : PySem.W.Frag} {mg : Str → Option Value} {base : Heap}
theorem CalN.mono {j k : Nat} {x : Str} {np : Nat} {F : DfN} (C : CalN P w K mg base j x np F) (h : j ≤ k) : CalN P w K mg base k x np F :=
  let ⟨fd, ps, e, f, b⟩ := C.ex
  ⟨⟨fd, ps, e, f.mono h, b⟩, C.mg_, C.kp⟩
end
end DL
set_option Elab.async false
set_option linter.all false
set_option maxRecDepth 100000
set_option autoImplicit false
set_option maxHeartbeats 4000000
namespace DL
open PySem L2
/-- the lists are the def's own, and new -/
def NS (H0 G H : Hp) (env : DEnv) (σ : L2.St) (r : Addr) (rows : Rows) : Prop := ∃ bs, NL H r bs rows ∧ ∀ z, z ∈ r :: bs → H0 z = none ∧ G z = none ∧ ¬ Own env σ H z
theorem NS.fr {H0 G H G' H' : Hp} {env env' : DEnv} {σ σ' : L2.St} {r : Addr} {rows : Rows} (h : NS H0 G H env σ r rows) (F : Fr env σ G H env' σ' G' H') : NS H0 G' H' env' σ' r rows := by
  obtain ⟨bs, nl, k⟩ := h
  have kp : ∀ z, z ∈ r :: bs → H' z = H z := fun z hz => by
    cases q : H z with
    | none => exact absurd q (nl.all hz)
    | some o => exact F.keep z o q (k z hz).2.2
  refine ⟨bs, nl.keep kp, fun z hz => ⟨(k z hz).1, ?_, fun o => ?_⟩⟩
  · cases q : G' z with
    | none => rfl
    | some o =>
      rcases F.fresh z (by rw [q]; exact fun w => by cases w) with w | w | w
      · exact absurd (k z hz).2.1 w
      · exact absurd w (nl.all hz)
      · exact absurd w (k z hz).2.2
  · rcases F.own z o with w | w
    · exact (k z hz).2.2 w
    · exact nl.all hz w
end DL
set_option Elab.async false
set_option linter.all false
set_option maxRecDepth 100000
set_option autoImplicit false
set_option maxHeartbeats 4000000
namespace PySem
open PySem.W PySem.Calls PyProof.Rows PySem.Spec SrtO L2
end PySem
namespace DL
open PySem L2 PySem.Spec PyProof.Rows
end DL
set_option Elab.async false
set_option linter.all false
set_option maxRecDepth 100000
set_option autoImplicit false
set_option maxHeartbeats 4000000
namespace DL
open PySem L2 PySem.Spec PyProof.Rows
/-- rows that stand still, and one new row of the def's own behind them -/
structure PL (K : PySem.W.Frag) (H0 G H : Hp) (env : DEnv) (σ : L2.St) (r b : Addr) (vs : List V) (rs : List D) (acc : List Int) : Prop where
  out : H r = some (.lst (vs ++ [.ref b]))
  inn : H b = some (.lst (acc.map V.int))
  dv : DvAll K G vs rs
  ne : r ≠ b
  new : ∀ z, z ∈ [r, b] → H0 z = none ∧ G z = none ∧ ¬ Own env σ H z
theorem PL.fr {K : PySem.W.Frag} {H0 G H G' H' : Hp} {env env' : DEnv} {σ σ' : L2.St} {r b : Addr} {vs : List V} {rs : List D} {acc : List Int} (h : PL K H0 G H env σ r b vs rs acc) (F : Fr env σ G H env' σ' G' H') : PL K H0 G' H' env' σ' r b vs rs acc := by
  have hr := h.new r (by simp)
  have hb := h.new b (by simp)
  have kr := F.keep r _ h.out hr.2.2
  have kb := F.keep b _ h.inn hb.2.2
  have all : ∀ z, z ∈ [r, b] → H z ≠ none := fun z hz => by
    simp only [List.mem_cons, List.not_mem_nil, or_false] at hz
    rcases hz with rfl | rfl
    · rw [h.out]; exact fun w => nomatch w
    · rw [h.inn]; exact fun w => nomatch w
  refine ⟨kr, kb, h.dv.up F.gg, h.ne, fun z hz => ⟨(h.new z hz).1, ?_, fun o => ?_⟩⟩
  · cases q : G' z with
    | none => rfl
    | some o =>
      rcases F.fresh z (by rw [q]; exact fun w => by cases w) with w | w | w
      · exact absurd (h.new z hz).2.1 w
      · exact absurd w (all z hz)
      · exact absurd w (h.new z hz).2.2
  · rcases F.own z o with w | w
    · exact (h.new z hz).2.2 w
    · exact all z hz w
end DL
set_option Elab.async false
set_option linter.all false
set_option maxRecDepth 100000
set_option autoImplicit false
set_option maxHeartbeats 4000000
namespace DL
open PySem L2 PySem.Spec PyProof.Rows
end DL
set_option Elab.async false
set_option linter.all false
set_option maxRecDepth 100000
set_option autoImplicit false
set_option maxHeartbeats 4000000
namespace DL
open PySem L2 PySem.Spec PyProof.Rows
end DL
set_option Elab.async false
set_option linter.all false
set_option maxRecDepth 100000
set_option autoImplicit false
set_option maxHeartbeats 4000000
namespace DL
open PySem L2 PySem.Spec PyProof.Rows
end DL
set_option Elab.async false
set_option linter.all false
set_option maxRecDepth 100000
set_option autoImplicit false
set_option maxHeartbeats 8000000
namespace PySem
open PySem.W PySem.Calls PyProof.Rows PySem.Spec SrtO L2 HT
end PySem
set_option Elab.async false
set_option linter.all false
set_option maxRecDepth 100000
set_option autoImplicit false
set_option maxHeartbeats 4000000
namespace DL
open PySem L2 PySem.Spec PyProof.Rows
end DL
namespace DL
open PySem L2 PySem.Spec PyProof.Rows
end DL
set_option Elab.async false
set_option linter.all false
set_option maxRecDepth 100000
set_option autoImplicit false
set_option maxHeartbeats 8000000
namespace PySem
open PySem.W PySem.Calls PyProof.Rows PySem.Spec SrtO L2
end PySem
namespace DL
open PySem L2 PySem.Spec PyProof.Rows
end DL
set_option Elab.async false
set_option linter.all false
set_option maxRecDepth 100000
set_option autoImplicit false
namespace DL
open PySem L2
end DL
set_option Elab.async false
set_option linter.all false
set_option maxRecDepth 100000
set_option autoImplicit false
namespace DL
open PySem L2 PySem.Spec PyProof.Rows
end DL
set_option Elab.async false
set_option linter.all false
set_option maxRecDepth 100000
set_option autoImplicit false
set_option maxHeartbeats 4000000
namespace DL
open PySem L2 PySem.Spec PyProof.Rows
/-- comparable, not too deep -/
structure CmpOk (ds : List D) : Prop where
  al : ∀ d, d ∈ ds → ∀ e, e ∈ ds → W.alike d e = true
  nn : ∀ d, d ∈ ds → d ≠ PyData.none
  cl : PyData.canLayAll0 ds = true
  dp : PyData.depthAll ds ≤ 60
  sz : ds.length ≤ 100000
noncomputable instance (ds : List D) : Decidable (CmpOk ds) := Classical.propDecidable _
/-- all are tuples with something in them, or none is a tuple -/
structure SrtOk (ds : List D) : Prop where
  c : CmpOk ds
  s : W.Sortable ds
noncomputable instance (ds : List D) : Decidable (SrtOk ds) := Classical.propDecidable _
end DL
set_option Elab.async false
set_option linter.all false
set_option maxRecDepth 100000
set_option autoImplicit false
set_option maxHeartbeats 4000000
namespace PySem.W
open PySem PySem.Calls PyProof.Rows
end PySem.W
namespace DL
open PySem L2 PySem.Spec PyProof.Rows
end DL
set_option Elab.async false
set_option linter.all false
set_option maxRecDepth 100000
set_option autoImplicit false
set_option maxHeartbeats 4000000
namespace DL
open PySem L2 PySem.Spec PyProof.Rows
end DL
set_option Elab.async false
set_option linter.all false
set_option maxRecDepth 100000
set_option autoImplicit false
set_option maxHeartbeats 4000000
namespace DL
open PySem L2 PySem.Spec PyProof.Rows
def dL (xs : List D) : Tr := .l (xs.map Tr.d)
end DL
set_option Elab.async false
set_option linter.all false
set_option maxRecDepth 100000
set_option autoImplicit false
set_option maxHeartbeats 4000000
namespace DL
open PySem L2 PySem.Spec PyProof.Rows
end DL
set_option Elab.async false
set_option linter.all false
set_option maxRecDepth 100000
set_option autoImplicit false
set_option maxHeartbeats 4000000
namespace DL
open PySem L2 PySem.Spec PyProof.Rows
end DL
set_option Elab.async false
set_option linter.all false
set_option maxRecDepth 100000
set_option autoImplicit false
set_option maxHeartbeats 4000000
namespace DL
open PySem L2 PySem.Spec PyProof.Rows
end DL
set_option Elab.async false
set_option linter.all false
set_option maxRecDepth 100000
set_option autoImplicit false
set_option maxHeartbeats 4000000
namespace DL
open PySem L2 PySem.Spec PyProof.Rows
end DL
set_option Elab.async false
set_option linter.all false
set_option maxRecDepth 100000
set_option autoImplicit false
set_option maxHeartbeats 4000000
namespace DL
open PySem L2 PySem.Spec PyProof.Rows
end DL
set_option Elab.async false
set_option linter.all false
set_option maxRecDepth 100000
set_option autoImplicit false
set_option maxHeartbeats 4000000
namespace DL
open PySem L2 PySem.Spec PyProof.Rows
end DL
set_option Elab.async false
set_option linter.all false
set_option maxRecDepth 100000
set_option autoImplicit false
set_option maxHeartbeats 4000000
namespace DL
open PySem L2 PySem.Spec PyProof.Rows
end DL
set_option Elab.async false
set_option linter.all false
set_option maxRecDepth 100000
set_option autoImplicit false
set_option maxHeartbeats 4000000
namespace DL
open PySem L2 PySem.Spec PyProof.Rows
end DL
set_option Elab.async false
set_option linter.all false
set_option maxRecDepth 100000
set_option autoImplicit false
set_option maxHeartbeats 8000000
namespace DL
open PySem L2 PySem.Spec PyProof.Rows
end DL
set_option Elab.async false
set_option linter.all false
set_option maxRecDepth 100000
set_option autoImplicit false
set_option maxHeartbeats 4000000
namespace DL
open PySem L2 PySem.Spec PyProof.Rows
end DL
set_option Elab.async false
set_option linter.all false
set_option maxRecDepth 100000
set_option autoImplicit false
set_option maxHeartbeats 4000000
namespace DL
open PySem L2 PySem.Spec PyProof.Rows
end DL
set_option Elab.async false
set_option linter.all false
set_option maxRecDepth 100000
set_option autoImplicit false
set_option maxHeartbeats 4000000
namespace DL
open PySem L2 PySem.Spec PyProof.Rows
def ks (ws : List (Str × V)) : List (Key × V) := ws.map fun p => (.inr p.1, p.2)
end DL
set_option Elab.async false
set_option linter.all false
set_option maxRecDepth 100000
set_option autoImplicit false
set_option maxHeartbeats 8000000
namespace DL
open PySem L2 PySem.Spec PyProof.Rows
end DL
set_option Elab.async false
set_option linter.all false
set_option maxRecDepth 100000
set_option autoImplicit false
set_option maxHeartbeats 8000000
namespace DL
open PySem L2 PySem.Spec PyProof.Rows
def RunTr (K : PySem.W.Frag) (mg : Str → Option Value) (W : WX) (env : DEnv) (σ : L2.St) (G H : Hp) (r : Rs Tr) (Q : VK) : Prop := match r with
  | .ok T env' => ∀ v G' H', Rel K env' σ G' H' → TreeAt K G' H' v T → (reach H' v T).Nodup → (∀ b, b ∈ reach H' v T → G' b = none ∧ H b = none ∧ ¬ Own env' σ H' b) → Fr env σ G H env' σ G' H' → Q v H'
  | .ex x env' => RunX K mg W env σ G H x env'
  | .stuck => False
end DL
set_option Elab.async false
set_option linter.all false
set_option maxRecDepth 100000
set_option autoImplicit false
set_option maxHeartbeats 8000000
namespace DL
open PySem L2 PySem.Spec PyProof.Rows
abbrev DfT := DEnv → Option (Tr × DEnv)
section
variable (K : PySem.W.Frag)
def RunFT (args : DEnv) (σ : L2.St) (G H : Hp) (r : Option (Tr × DEnv)) (Q : VK) : Prop := match r with
  | some (T, outs) => ∀ v G' H', Rel K outs σ G' H' → TreeAt K G' H' v T → (reach H' v T).Nodup → (∀ b, b ∈ reach H' v T → G' b = none ∧ H b = none ∧ ¬ Own outs σ H' b) → Fr args σ G H outs σ G' H' → Q v H'
  | none => False
def spT (np : Nat) (F : DfT) : L2.Sp := fun vs H Q E => vs.length = np ∧ ∃ args G, Rel K args (vs.map some) G H ∧ RunFT K args (vs.map some) G H (F args) Q
end
structure CalTr (P : Program) (w : World) (K : PySem.W.Frag) (mg : Str → Option Value) (base : Heap) (k : Nat) (x : Str) (np : Nat) (F : DfT) : Prop where
  ex : ∃ (fd : FuncData) (ps : List Str), ps.length = np ∧ FnOk P w K mg base (L2N.CX P w) k (He.ga K x) fd ps (spT K ps.length F) ∧ Binds K fd ps []
  mg_ : mg x = some (.ref (He.ga K x))
  kp : PySem.W.keepIn K (.ref (He.ga K x)) = true
section
variable {P : Program} {w : World} {K : PySem.W.Frag} {mg : Str → Option Value} {base : Heap}
theorem CalTr.mono {j k : Nat} {x : Str} {np : Nat} {F : DfT} (C : CalTr P w K mg base j x np F) (h : j ≤ k) : CalTr P w K mg base k x np F :=
  let ⟨fd, ps, e, f, b⟩ := C.ex
  ⟨⟨fd, ps, e, f.mono h, b⟩, C.mg_, C.kp⟩
end
theorem RunTr.shift {K : PySem.W.Frag} {mg : Str → Option Value} {W : WX} {env env1 : DEnv} {σ : L2.St} {G H G1 H1 : Hp} {r : Rs Tr} {Q : VK} (h : RunTr K mg W env σ G H r Q) (f : Fr env σ G H env1 σ G1 H1) : RunTr K mg W env1 σ G1 H1 r Q := by
  cases r with
  | stuck => exact h
  | ex x e => exact RunX.shift h f
  | ok T e2 => exact fun v G' H' R' h1 h2 h3 F => h v G' H' R' h1 h2 (fun b hb => ⟨(h3 b hb).1, f.dom b (h3 b hb).2.1, (h3 b hb).2.2⟩) (f.trans F)
end DL
namespace DL
open PySem L2 PySem.Spec PyProof.Rows
end DL
set_option Elab.async false
set_option linter.all false
set_option maxRecDepth 100000
set_option autoImplicit false
set_option maxHeartbeats 4000000
namespace DL
open PySem L2 PySem.Spec PyProof.Rows
end DL
set_option Elab.async false
set_option linter.all false
set_option maxRecDepth 100000
set_option autoImplicit false
set_option maxHeartbeats 8000000
namespace DL
open PySem L2 PySem.Spec PyProof.Rows
end DL
set_option Elab.async false
set_option linter.all false
set_option maxRecDepth 100000
set_option autoImplicit false
set_option maxHeartbeats 4000000
namespace DL
open PySem L2 PySem.Spec PyProof.Rows
def withT (s : Sl) (T : Tr) : Sl := match s with
  | .u _ => .u T
  | _ => .t T
end DL
set_option Elab.async false
set_option linter.all false
set_option maxRecDepth 100000
set_option autoImplicit false
set_option maxHeartbeats 4000000
namespace DL
open PySem L2 PySem.Spec PyProof.Rows
def slT : Bool → Sl → Option Tr
  | false, .u t => some t
  | true, .p xs => some (dL xs)
  | _, _ => none
inductive PAr where
  | e (de : DE)
  | s (i : Nat)
  | p (i : Nat) (de : DE) (pl : Bool) (chk : Tr → Bool)
/-- a part that was taken out: slot, place, what the slot held -/
structure Rc where
  i : Nat
  j : Nat
  s : Sl
  ts : List Tr
  pl : Bool
def unc1 (r : Rc) (s : Sl) (e : DEnv) : Option DEnv := (slT r.pl s).map fun t => e.set r.i (withT r.s (.l (r.ts.set r.j t)))
def uncs : List Rc → List Sl → DEnv → Option DEnv
  | [], [], e => some e
  | r :: rs, s :: ss, e => (uncs rs ss e).bind (unc1 r s)
  | _, _, _ => none
abbrev PRes := List Ar × List Rc × List Sl
section
variable (K : PySem.W.Frag) (mg : Str → Option Value) (W : WX)
def RunPs (env ss : DEnv) (σ ex : L2.St) (G H : Hp) (r : Rs PRes) (Q : List V → Hp → Prop) : Prop := match r with
  | .ok (as, rcs, ns) env' => ∀ (vs : List V) (exn : L2.St) (G' H' : Hp), Rel K (env' ++ (ss ++ ns)) (σ ++ (ex ++ exn)) G' H' → Ex G G' → env'.length = σ.length → ArRel K G' (σ ++ (ex ++ exn)) vs as →
      (∀ (e1 ss1 ns1 e2 : DEnv) (G1 H1 : Hp), e1.length = σ.length → ss1.length = ss.length → uncs rcs ns1 e1 = some e2 → Rel K (e1 ++ (ss1 ++ ns1)) (σ ++ (ex ++ exn)) G1 H1 → Fr (env' ++ (ss ++ ns)) (σ ++ (ex ++ exn)) G' H' (e1 ++ (ss1 ++ ns1)) (σ ++ (ex ++ exn)) G1 H1 →
        Rel K (e2 ++ ss1) (σ ++ ex) G1 H1 ∧ Fr (env ++ ss) (σ ++ ex) G H (e2 ++ ss1) (σ ++ ex) G1 H1 ∧ e2.length = σ.length) → Q vs H'
  | .ex x env' => ∀ cls dd (G' H' : Hp), XRel K mg x cls dd G' H' → env'.length = σ.length → Rel K (env' ++ ss) (σ ++ ex) G' H' → Fr (env ++ ss) (σ ++ ex) G H (env' ++ ss) (σ ++ ex) G' H' → W cls dd σ H'
  | .stuck => False
end
section
variable {K : PySem.W.Frag} {mg : Str → Option Value} {W : WX} {env ss : DEnv} {σ ex : L2.St} {G H : Hp} {Q : List V → Hp → Prop} {i : Nat} {de : DE} {pl : Bool} {chk : Tr → Bool} {r : List PAr}
theorem RunPs.shift {r : Rs PRes} {e1 : DEnv} {G1 H1 : Hp} (h : RunPs K mg W env ss σ ex G H r Q) (F : Fr (env ++ ss) (σ ++ ex) G H (e1 ++ ss) (σ ++ ex) G1 H1) : RunPs K mg W e1 ss σ ex G1 H1 r Q := by
  cases r with
  | stuck => exact h
  | ex x e => exact fun cls dd G' H' a b c d => h cls dd G' H' a b c (F.trans d)
  | ok p e =>
    obtain ⟨as, rcs, ns⟩ := p
    exact fun vs exn G' H' a g b c d => h vs exn G' H' a (F.gg.trans g) b c fun e1 ss1 ns1 e2 G1 H1 x1 x2 x3 x4 x5 => let ⟨y1, y2, y3⟩ := d e1 ss1 ns1 e2 G1 H1 x1 x2 x3 x4 x5; ⟨y1, F.trans y2, y3⟩
end
end DL
set_option Elab.async false
set_option linter.all false
set_option maxRecDepth 100000
set_option autoImplicit false
set_option maxHeartbeats 4000000
namespace DL
open PySem L2 PySem.Spec PyProof.Rows
end DL
set_option Elab.async false
set_option linter.all false
set_option maxRecDepth 100000
set_option autoImplicit false
set_option maxHeartbeats 4000000
namespace DL
open PySem L2 PySem.Spec PyProof.Rows
end DL
set_option Elab.async false
set_option linter.all false
set_option maxRecDepth 100000
set_option autoImplicit false
set_option maxHeartbeats 4000000
namespace DL
open PySem L2 PySem.Spec PyProof.Rows
end DL
set_option Elab.async false
set_option linter.all false
set_option maxRecDepth 100000
set_option maxHeartbeats 1000000
namespace DL
open PySem L2 PySem.Spec PyProof.Rows RZ
end DL
set_option Elab.async false
set_option linter.all false
set_option maxRecDepth 100000
set_option autoImplicit false
set_option maxHeartbeats 4000000
namespace PySem
open PySem.W PySem.Calls PyProof.Rows PySem.Spec SrtO L2 HT
end PySem
namespace DL
open PySem L2 PySem.Spec PyProof.Rows
end DL
set_option Elab.async false
set_option linter.all false
set_option maxRecDepth 100000
set_option autoImplicit false
set_option maxHeartbeats 4000000
namespace DL
open PySem L2 PySem.Spec PyProof.Rows
end DL
set_option Elab.async false
set_option linter.all false
set_option maxRecDepth 100000
set_option autoImplicit false
set_option maxHeartbeats 4000000
namespace DL
open PySem L2 PySem.Spec PyProof.Rows
end DL
set_option Elab.async false
set_option linter.all false
set_option maxRecDepth 100000
set_option autoImplicit false
set_option maxHeartbeats 4000000
namespace DL
open PySem PySem.W PySem.Calls PyProof.Rows PySem.Spec HT
end DL
namespace DL
open PySem L2 PySem.Spec PyProof.Rows
end DL
set_option Elab.async false
set_option linter.all false
set_option maxRecDepth 100000
set_option autoImplicit false
set_option maxHeartbeats 4000000
namespace DL
open PySem L2 PySem.Spec PyProof.Rows
/-- str(a number) -/
def fStrI : List D → Option D
  | [.int i] => if i.natAbs.log2 < 1920 then some (.str (toString i)) else none
  | _ => none
end DL
set_option Elab.async false
set_option linter.all false
set_option maxRecDepth 100000
set_option autoImplicit false
set_option maxHeartbeats 4000000
namespace DL
open PySem L2 PySem.Spec PyProof.Rows
end DL
set_option Elab.async false
set_option linter.all false
set_option maxRecDepth 100000
set_option autoImplicit false
set_option maxHeartbeats 8000000
namespace PySem
open PySem.W PySem.Calls PyProof.Rows PySem.Spec SrtO L2 HT
def IsLs (h : Heap) (a : Addr) (vs : List Value) : Prop := ∃ n, h.get? a = some { cls := .type "list", data := .seq vs.toArray n }
theorem IsLs.mono {h h' : Heap} {t : Addr} {vs : List Value} (x : IsLs h t vs) (k : ∀ o, h.get? t = some o → h'.get? t = some o) : IsLs h' t vs := by
  obtain ⟨n, e⟩ := x
  exact ⟨n, k _ e⟩
end PySem
namespace DL
open PySem L2 PySem.Spec PyProof.Rows
end DL
set_option Elab.async false
set_option linter.all false
set_option maxRecDepth 100000
set_option autoImplicit false
set_option maxHeartbeats 4000000
namespace DL
open PySem L2 PySem.Spec PyProof.Rows
end DL
set_option Elab.async false
set_option linter.all false
set_option maxRecDepth 100000
set_option autoImplicit false
set_option maxHeartbeats 8000000
namespace DL
open PySem L2 PySem.Spec PyProof.Rows
end DL
set_option Elab.async false
set_option linter.all false
set_option maxRecDepth 100000
set_option autoImplicit false
set_option maxHeartbeats 4000000
namespace DL
open PySem L2 L2H HotX PySem.Spec PyProof.Rows
end DL
set_option Elab.async false
set_option linter.all false
set_option maxRecDepth 100000
set_option autoImplicit false
set_option maxHeartbeats 4000000
namespace DL
open PySem L2 PySem.Spec PyProof.Rows
end DL
set_option Elab.async false
set_option linter.all false
set_option maxRecDepth 100000
set_option autoImplicit false
set_option maxHeartbeats 4000000
namespace DL
open PySem L2 PySem.Spec PyProof.Rows
abbrev LQ := List ((Int × Int) × Int)
def pairD : D → Option (Int × Int)
  | .tuple [.int a, .int b] => some (a, b)
  | _ => none
theorem QKs.up {K : PySem.W.Frag} {G H : Hp} {xs : List QE} (h : QKs K G xs) (e : Ex G H) : QKs K H xs := fun x m => e.n (h x m)
end DL
set_option Elab.async false
set_option linter.all false
set_option maxRecDepth 100000
set_option autoImplicit false
set_option maxHeartbeats 4000000
namespace DL
open PySem L2 L2H HotX PySem.Spec PyProof.Rows
/-- what a clause assigns -/
def eHdH (a : Addr) (d : Option Addr) (c : Str) (i : Nat) : Option (Bool × Str) → DE
  | none => eKinds a d c i
  | some (false, w) => eBin dAdd (eKinds a d c i) (eFld a d i w)
  | some (true, w) => eBin dAdd (eKinds a d c i) (eCB fStrI (aCons (eFld a d i w) aNil))
inductive HsDH (X : Cx) (nE : Str) (iE iK : Nat) : List ExceptHandler → List (Str × Option (Bool × Str)) → Prop
  | nil : HsDH X nE iE iK [] []
  | cons {n : Str} {w : Option (Bool × Str)} {b₀ : Stmt} {su : List Stmt} {np pos' : Pos} {hds : List ExceptHandler} {l : List (Str × Option (Bool × Str))} (hn : n ∈ ("SkinError" : Str) :: kNames) (hg : Gl X n) (hdb : (n == ("__debug__" : Str)) = false)
      (hsu : ∀ (c : Str), c ∈ kNames → mtC n c = true → ∀ (a : Addr) (oe : Obj) (d : Option Addr) (pn : List (Addr × Obj)), L2N.Zn (.ref (He.ga X.K c)) d oe → (∃ vs, oe.data = .fields vs) →
        CSs (X.suite a ((a, oe) :: pn)) WF (b₀ :: su) (sAsg (eHdH a d c iE w) (gN iK))) (r : HsDH X nE iE iK hds l) :
      HsDH X nE iE iK (.ExceptHandler (some (.Name n np)) (some nE) (b₀ :: su) pos' :: hds) ((n, w) :: l)
section
variable {X : Cx} {W : WX} {pos : Pos} {body : List Stmt} {hd0 : ExceptHandler} {hds : List ExceptHandler} {l : List (Str × Option (Bool × Str))} {nE : Str} {iE iK : Nat} {db : DS}
theorem HsDH.names : ∀ {hds : List ExceptHandler} {l : List (Str × Option (Bool × Str))}, HsDH X nE iE iK hds l → ∀ p ∈ l, p.1 ∈ ("SkinError" : Str) :: kNames
  | _, _, .nil, _, h => by cases h
  | _, _, .cons hn _ _ _ r, p, h => by
    rcases List.mem_cons.mp h with e | h
    · subst e; exact hn
    · exact r.names p h
end
end DL
set_option Elab.async false
set_option linter.all false
set_option maxRecDepth 100000
set_option autoImplicit false
set_option maxHeartbeats 4000000
namespace DL
open PySem L2 PySem.Spec PyProof.Rows
end DL
set_option Elab.async false
set_option linter.all false
set_option maxRecDepth 100000
set_option autoImplicit false
set_option maxHeartbeats 8000000
namespace DL
open PySem L2 PySem.Spec PyProof.Rows
end DL
set_option Elab.async false
set_option linter.all false
set_option maxRecDepth 100000
set_option autoImplicit false
set_option maxHeartbeats 4000000
namespace DL
open PySem L2 PySem.Spec PyProof.Rows
end DL
set_option Elab.async false
set_option linter.all false
set_option maxRecDepth 100000
set_option maxHeartbeats 1000000
namespace DL
open PySem L2 PySem.Spec PyProof.Rows RZ
end DL
set_option Elab.async false
set_option linter.all false
set_option maxRecDepth 100000
set_option maxHeartbeats 1000000
namespace DL
open PySem L2 PySem.Spec PyProof.Rows RZ
end DL
set_option Elab.async false
set_option linter.all false
set_option maxRecDepth 100000
set_option autoImplicit false
set_option maxHeartbeats 4000000
namespace DL
open PySem L2 PySem.Spec PyProof.Rows
theorem GKs.up {K : PySem.W.Frag} {G H : Hp} {xs : List GE} (h : GKs K G xs) (e : Ex G H) : GKs K H xs := fun x m => (h x m).upN fun _ _ q => e.n q
end DL
set_option Elab.async false
set_option linter.all false
set_option maxRecDepth 100000
set_option autoImplicit false
set_option maxHeartbeats 8000000
namespace DL
open PySem L2 PySem.Spec PyProof.Rows
end DL
set_option Elab.async false
set_option linter.all false
set_option maxRecDepth 100000
set_option autoImplicit false
set_option maxHeartbeats 4000000
namespace DL
open PySem L2 PySem.Spec PyProof.Rows
end DL
set_option Elab.async false
set_option linter.all false
set_option maxRecDepth 100000
set_option autoImplicit false
set_option maxHeartbeats 4000000
namespace DL
open PySem L2 PySem.Spec PyProof.Rows
end DL
set_option Elab.async false
set_option linter.all false
set_option maxRecDepth 100000
set_option autoImplicit false
set_option maxHeartbeats 4000000
namespace DL
open PySem L2 PySem.Spec PyProof.Rows
section
variable {X : Cx} {e : Expr} {es : List Expr} {ta : TA} {p pos : Pos} {x : Str} {C fI : Addr} {k : Nat} {fd : FuncData} {ps : List Str} {sp : Sp} {CX : CXT}
def tNewX (C : Addr) (sp : Sp) (ta : TA) : TE := fun σ H Q => ta σ H fun vs H1 => vs.length ≤ 1000 ∧ ∀ a, H1 a = none → sp (.ref a :: vs) (upd H1 a (exo a C none)) (fun v H2 => v = .non ∧ Q (.ref a) H2) fun _ _ _ => False
theorem pe_newX (T : OexC X.K C) (iC : PySem.W.findIn X.K (.ref C) "__init__" = some (some (.ref fI))) (tI : PySem.W.typeIn X.K (.ref fI) = some (.type "function")) (F1 : FnOk X.prog X.w X.K X.mg X.base CX k fI fd ps sp) (hr : Room (k + 1) X.A)
    (hb : Binds X.K fd ps []) (hx : Passes CX X (fun _ _ _ => False)) (hg : Gl X x) (hm : X.mg x = some (.ref C)) (ha : PA X (e :: es) ta) (hdb : (x == ("__debug__" : Str)) = false)
    (he : starEach (e :: es) X.env = (false, eval e X.env) :: starEach es X.env) (hpl : (backTo pos (starEach es X.env)).any (·.1) = false) : PE X (.Call (.Name x p) (e :: es) [] pos) (tNewX C sp ta) := by
  refine ⟨fun pins s σ H Q I h => ?_⟩
  obtain ⟨nm, q, N, bs, bm, sn, sub, ab, col, dd, k0, k1, k2, k3, k5, hC, hbm⟩ := T.cls
  refine wpAny_Call_Name_kw (ld_glob I hg hm (PySem.W.callWith_K (h₀ := X.base) I.ok.mod.kin T.kC (thn (ha.run pos pins s σ H _ I h) fun us s1 ⟨vs, H1, I1, r1, hz, q1⟩ => ⟨I1.kIn, ?_⟩) he hpl) hdb)
  show wpAny _ _ (call (.ref C) us) _ _ _
  obtain ⟨hp, g, dr, tk, os⟩ := s1
  have hsz : hp.objs.size ≤ hp.objs.size + 1 := Nat.le_succ _
  have hq := q1 (hp.objs.size + 1) (I1.hok.fresh hsz)
  generalize hh2 : (hp.push (PySem.W.kdv_tup us)).push (PySem.HandSPX.excO C hp.objs.size) = hp2
  have kk : ∀ b o, hp.get? b = some o → hp2.get? b = some o := fun b o e => by
    subst hh2
    exact Heap.get?_push_of_some _ (Heap.get?_push_of_some _ e)
  have hget : hp2.get? (hp.objs.size + 1) = some (PySem.HandSPX.excO C hp.objs.size) := by
    subst hh2
    heap_get
  have I2 : Inv X pins σ (upd H1 (hp.objs.size + 1) (exo (hp.objs.size + 1) C none)) ⟨hp2, g, dr, tk, os⟩ := I1.laid (t' := tk) kk hsz (exo_ok hget)
  have r2 : Vals (V.ref (hp.objs.size + 1) :: vs) (Value.ref (hp.objs.size + 1) :: us) := .cons rfl r1
  have hl : (Value.ref (hp.objs.size + 1) :: us).length = ps.length := r2.length.symm.trans (F1.len _ _ _ _ hq)
  have hus : us.length ≤ sizeLine := by
    rw [← Paired.length r1, sizeLine_eq]
    omega
  have b := hb ⟨hp2, g, dr, tk, os⟩ (Value.ref (hp.objs.size + 1) :: us) I2.kIn (by rw [List.append_nil]; exact hl)
  rw [List.append_nil] at b
  refine wpAny_call (PySem.HandSPX.call_own F.excBase_ValueError (fun Y => PySem.HandSPX.refsVE_contains Y bm hbm) (I1.kIn _ _ hC) (PySem.W.looks_findIn I1.kIn iC) (fun self => PySem.W.bind_fn I1.kIn self tI) hus ?_)
  rw [hh2]
  refine codeAny_mono (F1.run _ X.stack _ _ ⟨Value.ref (hp.objs.size + 1) :: us, []⟩ (Value.ref (hp.objs.size + 1) :: us) _ _ (fun _ _ _ => False) (hr.make C us []) (I2.env0.make C us []) b r2 hq) fun r s' hq' => ?_
  match r, hq' with
  | .error er, hq' => exact hx pins σ _ _ er s' I2 hq'
  | .ok .next, hq' => exact hq'.elim
  | .ok .brk, hq' => exact hq'.elim
  | .ok .cont, hq' => exact hq'.elim
  | .ok (.ret u), hq' =>
    obtain ⟨v, H2, I3, rv, ev, q3⟩ := I2.after hq'
    subst ev
    exact ⟨rv, V.ref (hp.objs.size + 1), H2, I3, rfl, q3⟩
end
def isExcC (c : Str) : Bool := kNames.contains c
/-- what is known of the exception classes, where they are values -/
structure Vx (K : PySem.W.Frag) (mg : Str → Option Value) : Prop where
  kx : Kx K mg
  ek : ∀ c ∈ kNames, ExK K (He.ga K c)
  ks : ∀ c ∈ kNames, PySem.W.kitOne K (.ref (He.ga K c)) (.ref (He.ga K "SkinError")) = some true
theorem vxB_ok {K : PySem.W.Frag} {mg : Str → Option Value} (T : Kx K mg) (h : vxB K = true) : Vx K mg := by
  have h' := fun c hc => List.all_eq_true.mp h c hc
  simp only [Bool.and_eq_true, decide_eq_true_eq, List.all_eq_true] at h'
  exact ⟨T, fun c hc => ⟨T.i c hc, (h' c hc).1⟩, fun c hc => (h' c hc).2⟩
/-- such a value's class and fields -/
def excOf : D → Option (Str × List D)
  | .dict [(.none, .tuple (.str c :: fs))] => some (c, fs)
  | _ => none
theorem excOf_some {d : D} {c : Str} {fs : List D} (h : excOf d = some (c, fs)) : d = .dict [(.none, .tuple (.str c :: fs))] := by
  unfold excOf at h
  split at h
  · cases h; rfl
  · cases h
theorem kv_none {K : PySem.W.Frag} {G : Hp} {xs : List (Key × V)} {ds : List (D × D)} (h : DvKv K G xs ds) : ∀ p, p ∈ ds → p.1 ≠ .none := by
  intro p hp
  induction ds generalizing xs with
  | nil => cases hp
  | cons q l ih =>
    generalize hq : q :: l = ql at h hp
    cases h with
    | nil => cases hq
    | @cons k v d xs ys a b =>
      cases hq
      rcases List.mem_cons.1 hp with rfl | hp
      · cases k <;> exact fun z => nomatch z
      · exact ih b hp
theorem dv_exc {K : PySem.W.Frag} {G : Hp} {v : V} {c : Str} {fs : List D} (h : Dv K G v (.dict [(.none, .tuple (.str c :: fs))])) : ∃ a f, v = .ref a ∧ fs = xfD f ∧ ExK K (He.ga K c) ∧ XO G a (He.ga K c) f := by
  cases h with
  | dct _ b => exact absurd rfl (kv_none b _ (List.mem_cons_self ..))
  | exc a b => exact ⟨_, _, rfl, rfl, a, b⟩
def eMkX (x : Str) (de : DE) : DE := fun env => (de env).bind fun _ e1 => .ok (excD x none) e1
/-- C(e), C with an own __init__ that puts a field -/
def eMkXF (x n : Str) (de : DE) : DE := fun env => (de env).bind fun d e1 => match keyOf d with
  | some k => .ok (excD x (some (n, k))) e1
  | none => .stuck
/-- isinstance(e, C) -/
def tblX (n c : Str) : Bool := n == ("SkinError" : Str) || (n == ("ValueError" : Str) || c == n)
def isXD (n : Str) (d : D) : Option D := match excOf d with
  | some (c, _) => if isExcC c then some (.bool (tblX n c)) else none
  | none => none
def eIsX (n : Str) (de : DE) : DE := fun env => (de env).bind fun d e1 => put (isXD n d) e1
/-- e.f -/
def xfOf (n : Str) (d : D) : Option D := match excOf d with
  | some (c, [.str m, x]) => if isExcC c ∧ m = n then some x else none
  | _ => none
def eXf (n : Str) (de : DE) : DE := fun env => (de env).bind fun d e1 => put (xfOf n d) e1
section
variable {X : Cx} {W : WX} {pos p p1 p2 p3 : Pos} {x y f n : Str} {e : Expr} {de : DE} {k j : Nat}
theorem ce_mkX (V : Vx X.K X.mg) (hx : x ∈ kNames) (T : ExC X.K X.mg x) (he : CE X W e de) (hg : Gl X x := by rfl) (hdb : (x == ("__debug__" : Str)) = false := by decide) (hs : starEach [e] X.env = (false, eval e X.env) :: starEach [] X.env := by rfl) :
    CE X W (.Call (.Name x p) [e] [] pos) (eMkX x de) := pe_imp (pe_exc1 F.excBase_ValueError T.e T.g T.k hg he hs hdb) fun σ H Q h => by
  obtain ⟨env, G, R, h⟩ := h
  refine E_thenE R h fun d e1 v G1 H1 _ R1 dv F1 h1 a ha => ?_
  have gr : Grow G1 H1 (upd G1 a (ExO (.ref (He.ga X.K x)) a)) (upd H1 a (ExO (.ref (He.ga X.K x)) a)) := Grow.one R1.ex ha
  exact h1 (.ref a) _ _ (R1.grow gr) (.exc (f := none) (V.ek x hx) upd_same) (gr.fr R1)
theorem ce_mkXF (V : Vx X.K X.mg) (hx : x ∈ kNames) (T : CalF X.prog X.w X.K X.mg X.base x y f) (he : CE X W e de) (hr : Room k X.A) (hk : 2 ≤ k) (hg : Gl X x := by rfl) (hdb : (x == ("__debug__" : Str)) = false := by decide)
    (hs : starEach [e] X.env = (false, eval e X.env) :: starEach [] X.env := by rfl) (hpl : (backTo pos (starEach [] X.env)).any (·.1) = false := by rfl) :
    CE X W (.Call (.Name x p) [e] [] pos) (eMkXF x f de) := by
  obtain ⟨fd, ps, hb, F1⟩ := T.ex
  refine pe_imp (pe_newX T.t.o T.t.iC T.t.tI F1 (hr.mono hk) hb (fun _ _ _ _ _ _ _ h => let ⟨_, _, _, _, _, _, _, _, _, _, _, _, z⟩ := h; z.elim) hg T.t.g (pa_cons he pa_nil hs) hdb hs hpl) fun σ H Q h => ?_
  obtain ⟨env, G, R, h⟩ := h
  refine E_thenE R h fun d e1 v G1 H1 _ R1 dv F1 h1 => ⟨by show 1 ≤ 1000; omega, fun a ha => ⟨a, v, rfl, upd_same, fun dx hd1 hd2 => ⟨rfl, ?_⟩⟩⟩
  have hdx : H1 dx = none := by rw [← hd1, upd_ne hd2]
  cases q : keyOf d with
  | none => rw [q] at h1; exact h1.elim
  | some key =>
    rw [q] at h1
    have e0 := keyOf_some q
    subst e0
    have ev := dv_key dv
    subst ev
    have ek : kV key = xkV key := by cases key <;> rfl
    rw [ek]
    have g1 : Grow G1 H1 (upd G1 dx (exd dx [(f, xkV key)])) (upd H1 dx (exd dx [(f, xkV key)])) := Grow.one R1.ex hdx
    have R2 := R1.grow g1
    have ha2 : upd H1 dx (exd dx [(f, xkV key)]) a = none := by rw [upd_ne (fun z => hd2 z.symm)]; exact ha
    have g2 : Grow _ _ (upd (upd G1 dx (exd dx [(f, xkV key)])) a (exo a (He.ga X.K x) (some dx))) (upd (upd H1 dx (exd dx [(f, xkV key)])) a (exo a (He.ga X.K x) (some dx))) := Grow.one R2.ex ha2
    have eH : upd (upd (upd H1 a (exo a (He.ga X.K x) none)) dx (exd dx [(f, xkV key)])) a (exo a (He.ga X.K x) (some dx)) = upd (upd H1 dx (exd dx [(f, xkV key)])) a (exo a (He.ga X.K x) (some dx)) := by
      funext b
      by_cases z : b = a
      · subst z; rw [upd_same, upd_same]
      · rw [upd_ne z, upd_ne z]
        by_cases z2 : b = dx
        · subst z2; rw [upd_same, upd_same]
        · rw [upd_ne z2, upd_ne z2, upd_ne z]
    rw [eH]
    have fr := (g1.fr R1).trans (g2.fr R2)
    exact h1 (.ref a) _ _ (R2.grow g2) (.exc (f := some (f, key)) (V.ek x hx) ⟨dx, upd_same, by rw [upd_ne hd2, upd_same]⟩) fr
theorem isX_core {cv : Value} {v2 : V} {e2 : Expr} (hk : ∀ c ∈ kNames, PySem.W.kitOne X.K (.ref (He.ga X.K c)) cv = some (tblX n c)) (he : CE X W e de) (he2 : PE X e2 (tC v2)) (hv2 : ∀ u, RelV v2 u → u = cv) (hm : X.mg "isinstance" = none)
    (hb : bootBuiltins "isinstance" = some (.builtin "isinstance")) (hg : Gl X "isinstance") (hs : starEach (e :: [e2]) X.env = (false, eval e X.env) :: starEach [e2] X.env) (hs2 : starEach [e2] X.env = (false, eval e2 X.env) :: starEach [] X.env)
    (hpl : (backTo pos (starEach [e2] X.env)).any (·.1) = false) : CE X W (.Call (.Name "isinstance" p3) [e, e2] [] pos) (eIsX n de) := pe_imp (pe_callB cr_isT hg hm hb (pa_cons he (pa_cons he2 pa_nil hs2) hs) (by decide) (by decide) hs hpl) fun σ H Q h => by
  obtain ⟨env, G, R, h⟩ := h
  refine E_thenE R h fun d e1 v G1 H1 _ R1 dv F1 h1 => ?_
  obtain ⟨z, ez, kk⟩ := RunE.put R1 h1
  unfold isXD at ez
  cases q : excOf d with
  | none => rw [q] at ez; cases ez
  | some r =>
    obtain ⟨c, fs⟩ := r
    rw [q] at ez
    have ez : (if isExcC c then some (PyData.bool (tblX n c)) else none) = some z := ez
    by_cases hc : isExcC c = true
    · rw [if_pos hc] at ez
      cases ez
      have := excOf_some q
      subst this
      obtain ⟨a, f, rfl, _, xk, xo⟩ := dv_exc dv
      exact ⟨a, _, f, v2, cv, _, rfl, xk.i, xo.up R1.ex, hv2, hk c (by simpa [isExcC] using hc), kk _ G1 H1 (.bl _) (Grow.refl R1.ex)⟩
    · rw [if_neg hc] at ez; cases ez
theorem ce_isXK (n : Str) (V : Vx X.K X.mg) (hn : n ∈ kNames) (he : CE X W e de) (hm : X.mg "isinstance" = none) (hgn : Gl X n := by rfl) (hdn : (n == ("__debug__" : Str)) = false := by decide) (hnn : ∀ c ∈ kNames, tblX n c = (c == n) := by decide) (hb : bootBuiltins "isinstance" = some (.builtin "isinstance") := by decide +kernel) (hg : Gl X "isinstance" := by rfl)
    (hs : starEach (e :: [.Name n p2]) X.env = (false, eval e X.env) :: starEach [.Name n p2] X.env := by rfl) (hs2 : starEach [.Name n p2] X.env = (false, eval (.Name n p2) X.env) :: starEach [] X.env := by rfl) (hpl : (backTo pos (starEach [.Name n p2] X.env)).any (·.1) = false := by rfl) :
    CE X W (.Call (.Name "isinstance" p3) [e, .Name n p2] [] pos) (eIsX n de) :=
  isX_core (v2 := .ref (He.ga X.K n)) (fun c hc => by rw [hnn c hc]; exact V.kx.kk c hc n hn) he (pe_glob hgn (V.kx.g n hn) rfl hdn) (fun _ h => h) hm hb hg hs hs2 hpl
theorem ce_isXS (V : Vx X.K X.mg) (he : CE X W e de) (hm : X.mg "isinstance" = none) (hgn : Gl X "SkinError" := by rfl) (hb : bootBuiltins "isinstance" = some (.builtin "isinstance") := by decide +kernel) (hg : Gl X "isinstance" := by rfl)
    (hs : starEach (e :: [.Name "SkinError" p2]) X.env = (false, eval e X.env) :: starEach [.Name "SkinError" p2] X.env := by rfl) (hs2 : starEach [.Name "SkinError" p2] X.env = (false, eval (.Name "SkinError" p2) X.env) :: starEach [] X.env := by rfl) (hpl : (backTo pos (starEach [.Name "SkinError" p2] X.env)).any (·.1) = false := by rfl) :
    CE X W (.Call (.Name "isinstance" p3) [e, .Name "SkinError" p2] [] pos) (eIsX "SkinError" de) :=
  isX_core (v2 := .ref (He.ga X.K "SkinError")) (fun c hc => V.ks c hc) he (pe_glob hgn V.kx.gs rfl (by decide)) (fun _ h => h) hm hb hg hs hs2 hpl
theorem ce_isXV (V : Vx X.K X.mg) (he : CE X W e de) (hm : X.mg "isinstance" = none) (hmv : X.mg "ValueError" = none) (hgn : Gl X "ValueError" := by rfl) (hb : bootBuiltins "isinstance" = some (.builtin "isinstance") := by decide +kernel) (hg : Gl X "isinstance" := by rfl)
    (hs : starEach (e :: [.Name "ValueError" p2]) X.env = (false, eval e X.env) :: starEach [.Name "ValueError" p2] X.env := by rfl) (hs2 : starEach [.Name "ValueError" p2] X.env = (false, eval (.Name "ValueError" p2) X.env) :: starEach [] X.env := by rfl) (hpl : (backTo pos (starEach [.Name "ValueError" p2] X.env)).any (·.1) = false := by rfl) :
    CE X W (.Call (.Name "isinstance" p3) [e, .Name "ValueError" p2] [] pos) (eIsX "ValueError" de) :=
  isX_core (v2 := .ty "ValueError") (fun c hc => V.kx.kv c hc) he (pe_bltn hgn hmv PyProof.Rows.Boot.«ValueError» rfl (by decide) (by decide)) (fun _ h => h) hm hb hg hs hs2 hpl
def tXt (K : PySem.W.Frag) (n : Str) (te : TE) : TE := fun σ H Q => te σ H fun x H1 => ∃ (a C : Addr) (k : Key), x = .ref a ∧ XfC K C ∧ PySem.W.findIn K (.ref C) n = some none ∧ XO H1 a C (some (n, k)) ∧ Q (xkV k) H1
theorem pe_xt {te : TE} (he : PE X e te) (hb : attributeBase e n X.env (eval e X.env) = eval e X.env) : PE X (.Attribute e n pos) (tXt X.K n te) := by
  refine ⟨fun pins s σ H Q I h => ?_⟩
  refine attr_of hb (thn (he.run pins s σ H _ I h) fun u s1 hh => ?_)
  obtain ⟨x, H1, I1, rx, a, C, k, rfl, T, hno, ⟨dx, h1, h2⟩, q⟩ := hh
  obtain rfl : u = Value.ref a := rx
  obtain ⟨t1, o1⟩ := exo_at I1.hok h1
  obtain ⟨mA, hns, hr⟩ := exd_at I1.hok h2
  obtain ⟨od, ho, hl⟩ := lookIn_ns hns
  have l : ([(n, xkV k)] : List (Str × V)).lookup n = some (xkV k) := by simp [List.lookup]
  obtain ⟨u, hu, ru⟩ := RelO.some_of (v := xkV k) (o := mA n) (by rw [← l]; exact hr n)
  have J : PySem.W.InstAt s1.heap a _ C (some od) := ⟨o1, rfl, rfl, ho⟩
  exact HandSPX.exc_get I1.kIn J T.ga T.gg T.exC (PySem.W.findObj_own T.hdC hno rfl (by rw [hl, hu])) (handed_of ru) ⟨xkV k, H1, I1.tok _, ru, q⟩
theorem xfD_two {f : Option (Str × Key)} {m : Str} {x : D} (h : [.str m, x] = xfD f) : ∃ k, f = some (m, k) ∧ x = kD k := by
  cases f with
  | none => cases h
  | some p =>
    obtain ⟨n, k⟩ := p
    simp only [xfD, List.cons.injEq, PyData.str.injEq, and_true] at h
    obtain ⟨rfl, rfl⟩ := h
    exact ⟨k, rfl, rfl⟩
theorem ce_xf (V : Vx X.K X.mg) (he : CE X W e de) (hn : n = "word" ∨ n = "half") (hb : attributeBase e n X.env (eval e X.env) = eval e X.env := by rfl) : CE X W (.Attribute e n pos) (eXf n de) := pe_imp (pe_xt he hb) fun σ H Q h => by
  obtain ⟨env, G, R, h⟩ := h
  refine E_thenE R h fun d e1 v G1 H1 _ R1 dv F1 h1 => ?_
  obtain ⟨z, ez, kk⟩ := RunE.put R1 h1
  unfold xfOf at ez
  split at ez
  · rename_i c m x q
    by_cases hc : isExcC c = true ∧ m = n
    · rw [if_pos hc] at ez
      cases ez
      obtain ⟨hc, rfl⟩ := hc
      have hc : c ∈ kNames := by simpa [isExcC] using hc
      have := excOf_some q
      subst this
      obtain ⟨a, f, rfl, ef, xk, xo⟩ := dv_exc dv
      obtain ⟨k, rfl, rfl⟩ := xfD_two ef
      have no : PySem.W.findIn X.K (.ref (He.ga X.K c)) m = some none := by
        rcases hn with rfl | rfl
        · exact (V.kx.xf c hc).2.1
        · exact (V.kx.xf c hc).2.2
      refine ⟨a, _, k, rfl, (V.kx.xf c hc).1, no, xo.up R1.ex, kk _ G1 H1 ?_ (Grow.refl R1.ex)⟩
      cases k with
      | inl i => exact .int i
      | inr s => exact .str s
    · rw [if_neg hc] at ez; cases ez
  · cases ez
end
end DL
set_option Elab.async false
set_option linter.all false
set_option maxRecDepth 100000
set_option maxHeartbeats 4000000
namespace LW
open PySem L2 DL
noncomputable section
def b__law_take : DS :=
    (sSeq (sIf ((tTst (eBin dGt ((eIxN 0 (eC (.int 0)))) (eC (.int 0))))) (sSeq (sAsg ((eBin dMod ((eIxN 0 (eC (.int 0)))) (eVar 1))) (gN 2))
    (sSeq (sSetO 0 (eC (.int 0)) ((eBin dFdiv ((eIxN 0 (eC (.int 0)))) (eVar 1))))
    (sRet (eVar 2)))) sNx)
    (sSeq (sSetO 0 (eC (.int 1)) ((eBin dMod ((eBin dMulT ((eIxN 0 (eC (.int 1)))) (eC (.int 48271)))) (eC (.int 2147483647)))))
    (sRet ((eBin dMod ((eBin dFdiv ((eBin dMod ((eBin dMulT ((eIxN 0 (eC (.int 1)))) ((eIxN 0 (eC (.int 1)))))) (eC (.int 2147483629)))) (eC (.int 64)))) (eVar 1))))))
def f__law_take : Df := bodyF 3 b__law_take
def b__law_bag : DS :=
    (sSeq (sAsg (eC (.int 0)) (gN 2))
    (sSeq (sIf ((tTst (eBin dLt (eVar 1) ((eCB fLen (aCons (eVar 0) aNil)))))) (sAsg ((eBin dMod ((eIxN 0 (eVar 1))) ((eBin dMulT ((eBin dPow (eC (.int 10)) (eC (.int 60)))) ((eBin dPow (eC (.int 10)) (eC (.int 60)))))))) (gN 2)) sNx)
    (sSeq (sIf ((tTst (eBin dLt (eVar 2) ((eBin dPow (eC (.int 10)) (eC (.int 18))))))) (sRetL (lLst (aCons (eC (.int 0)) (aCons ((eBin dAdd (eC (.int 1)) ((eBin dMod ((eBin dAdd ((eBin dMulT (eVar 2) (eC (.int 7919)))) ((eBin dMulT (eC (.int 104729)) (eVar 1))))) (eC (.int 2147483646)))))) aNil)))) sNx)
    (sRetL (lLst (aCons (eVar 2) (aCons ((eBin dAdd (eC (.int 1)) ((eBin dMod ((eBin dAdd (eVar 2) (eVar 1))) (eC (.int 2147483646)))))) aNil)))))))
def f__law_bag : Df := bodyF 3 b__law_bag
def b__law_kinds (a : Addr) (d : Option Addr) (c : Str) : DS :=
    (sSeq (sAsgL 1 (lLst (aCons ((eIsE a d 0 (c == "Harm"))) (aCons ((eIsE a d 0 (c == "NoHalf"))) (aCons ((eIsE a d 0 (c == "NoMarks"))) (aCons ((eIsE a d 0 (c == "NoPlain"))) aNil))))))
    (sSeq (sAsgL 1 (eBinL dCat (eVar 1) ((eLst ((lLst (aCons ((eIsE a d 0 (c == "NoRim"))) (aCons ((eIsE a d 0 (c == "NoRow"))) (aCons ((eIsE a d 0 (c == "NoSkin"))) (aCons ((eIsE a d 0 (c == "NoText"))) aNil))))))))))
    (sSeq (sAsgL 1 (eBinL dCat (eVar 1) ((eLst ((lLst (aCons ((eIsE a d 0 (c == "NothingLeft"))) (aCons ((eIsE a d 0 (c == "TooMany"))) (aCons ((eIsE a d 0 (c == "Unfit"))) (aCons ((eIsE a d 0 (c == "Unlike"))) aNil))))))))))
    (sSeq (sAsg ((eLst ((lLst (aCons (eC (.str "Harm")) (aCons (eC (.str "NoHalf")) (aCons (eC (.str "NoMarks")) (aCons (eC (.str "NoPlain")) (aCons (eC (.str "NoRim")) (aCons (eC (.str "NoRow")) (aCons (eC (.str "NoSkin")) (aCons (eC (.str "NoText")) (aCons (eC (.str "NothingLeft")) (aCons (eC (.str "TooMany")) aNil)))))))))))))) (gN 2))
    (sSeq (sAsg ((eLst ((eBinL dCat (eVar 2) ((eLst ((lLst (aCons (eC (.str "Unfit")) (aCons (eC (.str "Unlike")) (aCons (eC (.str "+")) aNil))))))))))) (gN 2))
    (sSeq (sDrop ((eMO 1 mAppend (aCons ((eIsE a d 0 true)) aNil))))
    (sRet ((eJoin (eC (.str "")) ((eLst ((lComp (iRng1 (aCons (eC (.int 13)) aNil)) (gN 3) (tTru ((eIxN 1 (eVar 3)))) ((eIxN 2 (eVar 3))) [3])))))))))))))
def f__law_kinds : DfX := fun a d c => bodyF 4 (b__law_kinds a d c)
end
end LW
set_option Elab.async false
set_option linter.all false
set_option maxRecDepth 100000
set_option maxHeartbeats 4000000
namespace K52
open PySem L2 DL LW
noncomputable section
def b__law_kinds : DS :=
    (sSeq (sAsgL 1 (lLst (aCons ((eIsX "Harm" (eVar 0))) (aCons ((eIsX "NoHalf" (eVar 0))) (aCons ((eIsX "NoMarks" (eVar 0))) (aCons ((eIsX "NoPlain" (eVar 0))) aNil))))))
    (sSeq (sAsgL 1 (eBinL dCat (eVar 1) ((eLst ((lLst (aCons ((eIsX "NoRim" (eVar 0))) (aCons ((eIsX "NoRow" (eVar 0))) (aCons ((eIsX "NoSkin" (eVar 0))) (aCons ((eIsX "NoText" (eVar 0))) aNil))))))))))
    (sSeq (sAsgL 1 (eBinL dCat (eVar 1) ((eLst ((lLst (aCons ((eIsX "NothingLeft" (eVar 0))) (aCons ((eIsX "TooMany" (eVar 0))) (aCons ((eIsX "Unfit" (eVar 0))) (aCons ((eIsX "Unlike" (eVar 0))) aNil))))))))))
    (sSeq (sAsg ((eLst ((lLst (aCons (eC (.str "Harm")) (aCons (eC (.str "NoHalf")) (aCons (eC (.str "NoMarks")) (aCons (eC (.str "NoPlain")) (aCons (eC (.str "NoRim")) (aCons (eC (.str "NoRow")) (aCons (eC (.str "NoSkin")) (aCons (eC (.str "NoText")) (aCons (eC (.str "NothingLeft")) (aCons (eC (.str "TooMany")) aNil)))))))))))))) (gN 2))
    (sSeq (sAsg ((eLst ((eBinL dCat (eVar 2) ((eLst ((lLst (aCons (eC (.str "Unfit")) (aCons (eC (.str "Unlike")) (aCons (eC (.str "+")) aNil))))))))))) (gN 2))
    (sSeq (sDrop ((eMO 1 mAppend (aCons ((eIsX "ValueError" (eVar 0))) aNil))))
    (sRet ((eJoin (eC (.str "")) ((eLst ((lComp (iRng1 (aCons (eC (.int 13)) aNil)) (gN 3) (tTru ((eIxN 1 (eVar 3)))) ((eIxN 2 (eVar 3))) [3])))))))))))))
def f__law_kinds : Df := bodyF 4 b__law_kinds
def b_law : DS :=
    (sSeq (sAsgL 1 (lCallN 2 f__law_bag (rCons (eVar 0) (rCons (eC (.int 0)) rNil))))
    (sSeq (sAsg ((eCallN 2 f__law_take (rLendC 1 (rCons ((eBin dPow (eC (.int 10)) (eC (.int 9)))) rNil)))) (gN 2))
    (sSeq (sAsg ((eSl (eC (.str "abcdefghij")) .no (.of ((eBin dAdd (eC (.int 1)) ((eCallN 2 f__law_take (rLendC 1 (rCons (eC (.int 10)) rNil))))))))) (gN 3))
    (sSeq (sAsg ((eLst ((lLst (aCons ((eMkXF "Harm" "word" (eVar 3))) (aCons ((eMkX "NoHalf" (eVar 3))) (aCons ((eMkX "NoMarks" (eVar 3))) (aCons ((eMkX "NoPlain" (eVar 3))) (aCons ((eMkX "NoRim" (eVar 3))) (aCons ((eMkX "NoRow" (eVar 3))) (aCons ((eMkXF "NoSkin" "half" (eVar 2))) aNil))))))))))) (gN 4))
    (sSeq (sAsg ((eLst ((eBinL dCat (eVar 4) ((eLst ((lLst (aCons ((eMkX "NoText" (eVar 3))) (aCons ((eMkX "NothingLeft" (eVar 3))) (aCons ((eMkX "TooMany" (eVar 3))) (aCons ((eMkX "Unfit" (eVar 3))) (aCons ((eMkX "Unlike" (eVar 3))) aNil))))))))))))) (gN 4))
    (sSeq (sAsg ((eLst ((lLst (aCons (eC (.str "Harm")) (aCons (eC (.str "NoHalf")) (aCons (eC (.str "NoMarks")) (aCons (eC (.str "NoPlain")) (aCons (eC (.str "NoRim")) (aCons (eC (.str "NoRow")) (aCons (eC (.str "NoSkin")) (aCons (eC (.str "NoText")) (aCons (eC (.str "NothingLeft")) (aCons (eC (.str "TooMany")) aNil)))))))))))))) (gN 5))
    (sSeq (sAsg ((eLst ((eBinL dCat (eVar 5) ((eLst ((lLst (aCons (eC (.str "Unfit")) (aCons (eC (.str "Unlike")) aNil)))))))))) (gN 5))
    (sSeq (sIf ((tTst (eBin dNe ((eLst ((lComp (iSeqS (eVar 4)) (gN 6) tYesD ((eCallN 1 f__law_kinds (rCons (eVar 6) rNil))) [6])))) ((eLst ((lComp (iSeqS (eVar 5)) (gN 6) tYesD ((eBin dAdd (eVar 6) (eC (.str "+")))) [6]))))))) (sRet (eC (.bool false))) sNx)
    (sSeq (sIf ((tTst (eBin dNe ((eLst ((lComp (iSeqS (eVar 4)) (gN 6) (tNotD ((tTst (eIsX "SkinError" (eVar 6))))) (eVar 6) [6])))) ((eLst ((lLst aNil))))))) (sRet (eC (.bool false))) sNx)
    (sRet ((eAnd ((eBin dEq ((eXf "word" ((eIxN 4 (eC (.int 0)))))) (eVar 3))) ((eAnd ((eBin dEq ((eXf "half" ((eIxN 4 (eC (.int 6)))))) (eVar 2))) ((eNot ((eIsi "bool" ((eXf "half" ((eIxN 4 (eC (.int 6))))))))))))))))))))))))
def f_law : Df := bodyF 7 b_law
end
end K52
set_option Elab.async false
set_option linter.all false
set_option maxRecDepth 100000
set_option maxHeartbeats 4000000
namespace K52
open PySem L2 DL LW
structure Txt (K : PySem.W.Frag) (mg : Str → Option Value) : Prop where
  d__law_bag : ∃ fd, FnT K "_law_bag" s__law_bag fd
  g__law_bag : mg "_law_bag" = some (.ref (He.ga K "_law_bag"))
  d__law_take : ∃ fd, FnT K "_law_take" s__law_take fd
  g__law_take : mg "_law_take" = some (.ref (He.ga K "_law_take"))
  d__law_kinds : ∃ fd, FnT K "_law_kinds" s__law_kinds fd
  g__law_kinds : mg "_law_kinds" = some (.ref (He.ga K "_law_kinds"))
  d_law : ∃ fd, FnT K "law" s_law fd
  g_law : mg "law" = some (.ref (He.ga K "law"))
  n_ValueError : mg "ValueError" = none
  n_bool : mg "bool" = none
  n_isinstance : mg "isinstance" = none
  n_len : mg "len" = none
  n_range : mg "range" = none
  x_NoHalf : ExC K mg "NoHalf"
  x_NoMarks : ExC K mg "NoMarks"
  x_NoPlain : ExC K mg "NoPlain"
  x_NoRim : ExC K mg "NoRim"
  x_NoRow : ExC K mg "NoRow"
  x_NoText : ExC K mg "NoText"
  x_NothingLeft : ExC K mg "NothingLeft"
  x_TooMany : ExC K mg "TooMany"
  x_Unfit : ExC K mg "Unfit"
  x_Unlike : ExC K mg "Unlike"
  kx : Kx K mg
  vb : vxB K = true
  f_Harm : ExF K mg "Harm" "SkinError" "word"
  i_Harm : ∃ fd, FunD K "__init__" "Harm.__init__" (defArgs si_Harm) (defBody si_Harm) (defScope si_Harm) [] [] (He.ma K (He.ga K "Harm") "__init__") fd
  f_NoSkin : ExF K mg "NoSkin" "SkinError" "half"
  i_NoSkin : ∃ fd, FunD K "__init__" "NoSkin.__init__" (defArgs si_NoSkin) (defBody si_NoSkin) (defScope si_NoSkin) [] [] (He.ma K (He.ga K "NoSkin") "__init__") fd
section
variable {P : Program} {w : World} {K : PySem.W.Frag} {mg : Str → Option Value} {base : Heap}
section
variable {N : List Str} {x : Str} {sc : Scope} {f : Addr} {cdv : Value} {A : Around} {outer : List Env} {s : Shared} {H : Hp} {E : XK}
theorem tkx : L2N.Takes (cxOf (L2N.CX P w) P w K mg base N x sc f cdv A outer s H E) fun cls d x H => E cls d H := L2N.takes_of (X := cxOf (L2N.CX P w) P w K mg base N x sc f cdv A outer s H E) (E := E) rfl rfl rfl rfl
theorem tk : ∀ σ, PassesAt (L2N.CX P w) (cxOf (L2N.CX P w) P w K mg base N x sc f cdv A outer s H E) σ (WE (fun cls d x H => E cls d H) σ) := fun σ => L2N.passAt tkx σ
theorem hp : PassesOwn (model P w) (cxOf (L2N.CX P w) P w K mg base N x sc f cdv A outer s H E).A (cxOf (L2N.CX P w) P w K mg base N x sc f cdv A outer s H E).env (cxOf (L2N.CX P w) P w K mg base N x sc f cdv A outer s H E).xe := passes_of (X := cxOf (L2N.CX P w) P w K mg base N x sc f cdv A outer s H E) rfl
end
theorem sci_Harm : FnScope NI_Harm NI_Harm (defScope si_Harm) := ⟨rfl, rfl, rfl, by decide +kernel, rfl, by decide +kernel, by decide +kernel⟩
theorem ok_Harm (T : Txt K mg) : CalF P w K mg base "Harm" "SkinError" "word" := by
  obtain ⟨fd, F⟩ := T.i_Harm
  refine ⟨T.f_Harm, fd, NI_Harm, F.bindsN (fun _ _ _ _ _ _ us hl => match us, hl with | [_, _], _ => rfl), F.ok (k := 0) sci_Harm (fun vs H Q E h => by obtain ⟨a, v, rfl, _⟩ := h; rfl) fun cdv A outer s H vs Q E hr h => ⟨_, pss_cons (ps_expr (pe_binit T.f_Harm (pa_cons (pe_var (i := 0) rfl (.inl rfl)) (pa_cons (pe_var (i := 1) rfl (.inl rfl)) pa_nil)))) (pss_one (ps_ost (pe_var (i := 0) rfl (.inl rfl)) (pe_var (i := 1) rfl (.inl rfl)))), init_read T.f_Harm rfl h (fun σ H R hl hw hR => let ⟨w, hw⟩ := hw; ⟨w, hw, hR w⟩)⟩⟩
theorem sci_NoSkin : FnScope NI_NoSkin NI_NoSkin (defScope si_NoSkin) := ⟨rfl, rfl, rfl, by decide +kernel, rfl, by decide +kernel, by decide +kernel⟩
theorem ok_NoSkin (T : Txt K mg) : CalF P w K mg base "NoSkin" "SkinError" "half" := by
  obtain ⟨fd, F⟩ := T.i_NoSkin
  refine ⟨T.f_NoSkin, fd, NI_NoSkin, F.bindsN (fun _ _ _ _ _ _ us hl => match us, hl with | [_, _], _ => rfl), F.ok (k := 0) sci_NoSkin (fun vs H Q E h => by obtain ⟨a, v, rfl, _⟩ := h; rfl) fun cdv A outer s H vs Q E hr h => ⟨_, pss_cons (ps_expr (pe_binit T.f_NoSkin (pa_cons (pe_var (i := 0) rfl (.inl rfl)) (pa_cons pe_str pa_nil)))) (pss_one (ps_ost (pe_var (i := 0) rfl (.inl rfl)) (pe_var (i := 1) rfl (.inl rfl)))), init_read T.f_NoSkin rfl h (fun σ H R hl hw hR => hR _)⟩⟩
theorem sc__law_bag : FnScope N__law_bag P__law_bag (defScope s__law_bag) := ⟨rfl, rfl, rfl, by decide +kernel, rfl, by decide +kernel, by decide +kernel⟩
theorem ok__law_bag (T : Txt K mg)  : Cal P w K mg base 1 "_law_bag" 2 f__law_bag := by
  refine cal_of (k := 0) T.d__law_bag T.g__law_bag sc__law_bag (by decide) (fun _ _ _ _ _ _ us hl => match us, hl with | [_, _], _ => rfl) fun cdv A outer s H E hr => ?_
  have nd := sc__law_bag.nd
  exact (css_cons (cs_set (i := 2) nd ce_int)
    (css_cons (cs_if (ct_cmp op_lt od_lt (ce_var 1) (ce_cb cd_len cr_lenA (by rfl) T.n_len PySem.boot_len (ca_cons (ce_var 0) ca_nil)) (nomark _)) (css_one (cs_set (i := 2) nd (ce_bin op_mod od_mod (ce_ixN 0 (ce_var 1) (fun _ _ => rfl)) (ce_bin op_mulAT od_mulT (ce_bin op_pow od_pow ce_int ce_int) (ce_bin op_pow od_pow ce_int ce_int))))) css_nil)
    (css_cons (cs_if (ct_cmp op_lt od_lt (ce_var 2) (ce_bin op_pow od_pow ce_int ce_int) (nomark _)) (css_one (cs_retL (cl_lst (ca_cons ce_int (ca_cons (ce_bin op_addA od_add ce_int (ce_bin op_mod od_mod (ce_bin op_addA od_add (ce_bin op_mulAT od_mulT (ce_var 2) ce_int) (ce_bin op_mulAT od_mulT ce_int (ce_var 1))) ce_int)) ca_nil))))) css_nil)
    (css_one (cs_retL (cl_lst (ca_cons (ce_var 2) (ca_cons (ce_bin op_addA od_add ce_int (ce_bin op_mod od_mod (ce_bin op_addA od_add (ce_var 2) (ce_var 1)) ce_int)) ca_nil))))))))
theorem sc__law_take : FnScope N__law_take P__law_take (defScope s__law_take) := ⟨rfl, rfl, rfl, by decide +kernel, rfl, by decide +kernel, by decide +kernel⟩
theorem ok__law_take (T : Txt K mg)  : Cal P w K mg base 1 "_law_take" 2 f__law_take := by
  refine cal_of (k := 0) T.d__law_take T.g__law_take sc__law_take (by decide) (fun _ _ _ _ _ _ us hl => match us, hl with | [_, _], _ => rfl) fun cdv A outer s H E hr => ?_
  have nd := sc__law_take.nd
  exact (css_cons (cs_if (ct_cmp op_gt od_gt (ce_ixN 0 ce_int (fun _ _ => rfl)) ce_int (nomark _)) (css_cons (cs_set (i := 2) nd (ce_bin op_mod od_mod (ce_ixN 0 ce_int (fun _ _ => rfl)) (ce_var 1)))
    (css_cons (cs_setO 0 ce_int (ce_bin op_fdivW od_fdiv (ce_ixN 0 ce_int (fun _ _ => rfl)) (ce_var 1)))
    (css_one (cs_ret (ce_var 2))))) css_nil)
    (css_cons (cs_setO 0 ce_int (ce_bin op_mod od_mod (ce_bin op_mulAT od_mulT (ce_ixN 0 ce_int (fun _ _ => rfl)) ce_int) ce_int))
    (css_one (cs_ret (ce_bin op_mod od_mod (ce_bin op_fdivW od_fdiv (ce_bin op_mod od_mod (ce_bin op_mulAT od_mulT (ce_ixN 0 ce_int (fun _ _ => rfl)) (ce_ixN 0 ce_int (fun _ _ => rfl))) ce_int) ce_int) (ce_var 1))))))
theorem sc__law_kinds : FnScope N__law_kinds P__law_kinds (defScope s__law_kinds) := ⟨rfl, rfl, rfl, by decide +kernel, rfl, by decide +kernel, by decide +kernel⟩
theorem ok__law_kinds (T : Txt K mg)  : Cal P w K mg base 1 "_law_kinds" 1 f__law_kinds := by
  refine cal_of (k := 0) T.d__law_kinds T.g__law_kinds sc__law_kinds (by decide) (fun _ _ _ _ _ _ us hl => match us, hl with | [_], _ => rfl) fun cdv A outer s H E hr => ?_
  have nd := sc__law_kinds.nd
  exact (css_cons (cs_setL (i := 1) nd (cl_lst (ca_cons (ce_isXK "Harm" (vxB_ok T.kx T.vb) (by decide) (ce_var 0) T.n_isinstance) (ca_cons (ce_isXK "NoHalf" (vxB_ok T.kx T.vb) (by decide) (ce_var 0) T.n_isinstance) (ca_cons (ce_isXK "NoMarks" (vxB_ok T.kx T.vb) (by decide) (ce_var 0) T.n_isinstance) (ca_cons (ce_isXK "NoPlain" (vxB_ok T.kx T.vb) (by decide) (ce_var 0) T.n_isinstance) ca_nil))))))
    (css_cons (cs_setL (i := 1) nd (cl_bin op_catR ol_cat (ce_var 1) (ce_lst (cl_lst (ca_cons (ce_isXK "NoRim" (vxB_ok T.kx T.vb) (by decide) (ce_var 0) T.n_isinstance) (ca_cons (ce_isXK "NoRow" (vxB_ok T.kx T.vb) (by decide) (ce_var 0) T.n_isinstance) (ca_cons (ce_isXK "NoSkin" (vxB_ok T.kx T.vb) (by decide) (ce_var 0) T.n_isinstance) (ca_cons (ce_isXK "NoText" (vxB_ok T.kx T.vb) (by decide) (ce_var 0) T.n_isinstance) ca_nil))))))))
    (css_cons (cs_setL (i := 1) nd (cl_bin op_catR ol_cat (ce_var 1) (ce_lst (cl_lst (ca_cons (ce_isXK "NothingLeft" (vxB_ok T.kx T.vb) (by decide) (ce_var 0) T.n_isinstance) (ca_cons (ce_isXK "TooMany" (vxB_ok T.kx T.vb) (by decide) (ce_var 0) T.n_isinstance) (ca_cons (ce_isXK "Unfit" (vxB_ok T.kx T.vb) (by decide) (ce_var 0) T.n_isinstance) (ca_cons (ce_isXK "Unlike" (vxB_ok T.kx T.vb) (by decide) (ce_var 0) T.n_isinstance) ca_nil))))))))
    (css_cons (cs_set (i := 2) nd (ce_lst (cl_lst (ca_cons ce_str (ca_cons ce_str (ca_cons ce_str (ca_cons ce_str (ca_cons ce_str (ca_cons ce_str (ca_cons ce_str (ca_cons ce_str (ca_cons ce_str (ca_cons ce_str ca_nil)))))))))))))
    (css_cons (cs_set (i := 2) nd (ce_lst (cl_bin op_catR ol_cat (ce_var 2) (ce_lst (cl_lst (ca_cons ce_str (ca_cons ce_str (ca_cons ce_str ca_nil))))))))
    (css_cons (cs_drop (ce_mo 1 om_append PySem.F.slot_list_append PySem.F.type_list_append mt_append (ca_cons (ce_isXV (vxB_ok T.kx T.vb) (ce_var 0) T.n_isinstance T.n_ValueError) ca_nil)))
    (css_one (cs_ret (ce_join ce_str (ce_lst (cl_comp rfl nd (own := [("k", 3)]) (ci_range1 T.n_range (ca_cons ce_int ca_nil)) (blkOk_by (own := [("k", 3)]) (N := N__law_kinds) (sc := defScope s__law_kinds) (by decide +kernel)) (fun _ _ _ _ _ => (cg_name (i := 3) nd)) (fun _ _ _ _ _ => (cts_one (ct_tru (ce_ixN 1 (ce_var 3) (fun _ _ => rfl))))) (fun _ _ _ _ _ => (ce_ixN 2 (ce_var 3) (fun _ _ => rfl))))))))))))))
theorem sc_law : FnScope N_law P_law (defScope s_law) := ⟨rfl, rfl, rfl, by decide +kernel, rfl, by decide +kernel, by decide +kernel⟩
theorem ok_law (T : Txt K mg) (c__law_bag : Cal P w K mg base 1 "_law_bag" 2 f__law_bag) (c__law_take : Cal P w K mg base 1 "_law_take" 2 f__law_take) (c__law_kinds : Cal P w K mg base 1 "_law_kinds" 1 f__law_kinds) (c_Harm : CalF P w K mg base "Harm" "SkinError" "word") (c_NoSkin : CalF P w K mg base "NoSkin" "SkinError" "half") {fd : FuncData} (F : FnT K "law" s_law fd) : FnOk P w K mg base (L2N.CX P w) 3 (He.ga K "law") fd P_law (spD K mg 1 f_law) := by
  refine fn_bodyD (k := 2) F sc_law (by decide) fun cdv A outer s H E hr => ?_
  have nd := sc_law.nd
  exact (css_cons (cs_setL (i := 1) nd (cl_callC c__law_bag hr (by decide) tk (cr_cons (ce_var 0) (cr_cons ce_int cr_nil))))
    (css_cons (cs_set (i := 2) nd (ce_callC c__law_take hr (by decide) tk (cr_lend 1 (cr_cons (ce_bin op_pow od_pow ce_int ce_int) cr_nil))))
    (css_cons (cs_set (i := 3) nd (ce_sl ce_str co_none (co_some (ce_bin op_addA od_add ce_int (ce_callC c__law_take hr (by decide) tk (cr_lend 1 (cr_cons ce_int cr_nil)))))))
    (css_cons (cs_set (i := 4) nd (ce_lst (cl_lst (ca_cons (ce_mkXF (vxB_ok T.kx T.vb) (by decide) c_Harm (ce_var 3) hr (by decide)) (ca_cons (ce_mkX (vxB_ok T.kx T.vb) (by decide) T.x_NoHalf (ce_var 3)) (ca_cons (ce_mkX (vxB_ok T.kx T.vb) (by decide) T.x_NoMarks (ce_var 3)) (ca_cons (ce_mkX (vxB_ok T.kx T.vb) (by decide) T.x_NoPlain (ce_var 3)) (ca_cons (ce_mkX (vxB_ok T.kx T.vb) (by decide) T.x_NoRim (ce_var 3)) (ca_cons (ce_mkX (vxB_ok T.kx T.vb) (by decide) T.x_NoRow (ce_var 3)) (ca_cons (ce_mkXF (vxB_ok T.kx T.vb) (by decide) c_NoSkin (ce_var 2) hr (by decide)) ca_nil))))))))))
    (css_cons (cs_set (i := 4) nd (ce_lst (cl_bin op_catR ol_cat (ce_var 4) (ce_lst (cl_lst (ca_cons (ce_mkX (vxB_ok T.kx T.vb) (by decide) T.x_NoText (ce_var 3)) (ca_cons (ce_mkX (vxB_ok T.kx T.vb) (by decide) T.x_NothingLeft (ce_var 3)) (ca_cons (ce_mkX (vxB_ok T.kx T.vb) (by decide) T.x_TooMany (ce_var 3)) (ca_cons (ce_mkX (vxB_ok T.kx T.vb) (by decide) T.x_Unfit (ce_var 3)) (ca_cons (ce_mkX (vxB_ok T.kx T.vb) (by decide) T.x_Unlike (ce_var 3)) ca_nil))))))))))
    (css_cons (cs_set (i := 5) nd (ce_lst (cl_lst (ca_cons ce_str (ca_cons ce_str (ca_cons ce_str (ca_cons ce_str (ca_cons ce_str (ca_cons ce_str (ca_cons ce_str (ca_cons ce_str (ca_cons ce_str (ca_cons ce_str ca_nil)))))))))))))
    (css_cons (cs_set (i := 5) nd (ce_lst (cl_bin op_catR ol_cat (ce_var 5) (ce_lst (cl_lst (ca_cons ce_str (ca_cons ce_str ca_nil)))))))
    (css_cons (cs_if (ct_cmp (op_neD hr.units) od_ne (ce_lst (cl_comp rfl nd (own := [("one", 6)]) (ci_seqS (ce_var 4)) (blkOk_by (own := [("one", 6)]) (N := N_law) (sc := defScope s_law) (by decide +kernel)) (fun _ _ _ _ _ => (cg_name (i := 6) nd)) (fun _ _ _ _ _ => cts_nil) (fun _ _ _ _ _ => (ce_callC c__law_kinds hr (by decide) passF (cr_cons (ce_var 6) cr_nil))))) (ce_lst (cl_comp rfl nd (own := [("one", 6)]) (ci_seqS (ce_var 5)) (blkOk_by (own := [("one", 6)]) (N := N_law) (sc := defScope s_law) (by decide +kernel)) (fun _ _ _ _ _ => (cg_name (i := 6) nd)) (fun _ _ _ _ _ => cts_nil) (fun _ _ _ _ _ => (ce_bin op_addA od_add (ce_var 6) ce_str)))) (nomark _)) (css_one (cs_ret ce_bool)) css_nil)
    (css_cons (cs_if (ct_cmp (op_neD hr.units) od_ne (ce_lst (cl_comp rfl nd (own := [("one", 6)]) (ci_seqS (ce_var 4)) (blkOk_by (own := [("one", 6)]) (N := N_law) (sc := defScope s_law) (by decide +kernel)) (fun _ _ _ _ _ => (cg_name (i := 6) nd)) (fun _ _ _ _ _ => (cts_one (ct_not (ct_val (ce_isXS (vxB_ok T.kx T.vb) (ce_var 6) T.n_isinstance))))) (fun _ _ _ _ _ => (ce_var 6)))) (ce_lst (cl_lst ca_nil)) (nomark _)) (css_one (cs_ret ce_bool)) css_nil)
    (css_one (cs_ret (ce_and (ce_cmp (op_eqD hr.units) od_eq (ce_xf (vxB_ok T.kx T.vb) (ce_ixN 4 ce_int (fun _ _ => rfl)) (.inl rfl)) (ce_var 3) (nomark _)) (ce_and (ce_cmp (op_eqD hr.units) od_eq (ce_xf (vxB_ok T.kx T.vb) (ce_ixN 4 ce_int (fun _ _ => rfl)) (.inr rfl)) (ce_var 2) (nomark _)) (ce_one (ce_not (ce_isi "bool" (by decide +kernel) T.n_bool T.n_isinstance (ce_xf (vxB_ok T.kx T.vb) (ce_ixN 4 ce_int (fun _ _ => rfl)) (.inr rfl))))))))))))))))))
end
end K52
set_option Elab.async false
set_option linter.all false
set_option maxRecDepth 100000
set_option maxHeartbeats 4000000
namespace K52
open PySem L2 DL LW
theorem txt {K : PySem.W.Frag} {h : Heap} {mg : Str → Option Value} (X : K.In h) (G : h.Ns mainGlobals mg) (c : He.SaysD fa fn K) (e : exB K = true) : Txt K mg where
  d__law_bag := c.def_ 0 (d := defD "_law_bag" s__law_bag) rfl
  g__law_bag := He.glo_ok X G (c.fact 0 (f := .glo "_law_bag") rfl)
  d__law_take := c.def_ 1 (d := defD "_law_take" s__law_take) rfl
  g__law_take := He.glo_ok X G (c.fact 1 (f := .glo "_law_take") rfl)
  d__law_kinds := c.def_ 2 (d := defD "_law_kinds" s__law_kinds) rfl
  g__law_kinds := He.glo_ok X G (c.fact 2 (f := .glo "_law_kinds") rfl)
  d_law := c.def_ 3 (d := defD "law" s_law) rfl
  g_law := He.glo_ok X G (c.fact 3 (f := .glo "law") rfl)
  n_ValueError := He.free_ok X G (c.fact 4 (f := .free "ValueError") rfl)
  n_bool := He.free_ok X G (c.fact 5 (f := .free "bool") rfl)
  n_isinstance := He.free_ok X G (c.fact 6 (f := .free "isinstance") rfl)
  n_len := He.free_ok X G (c.fact 7 (f := .free "len") rfl)
  n_range := He.free_ok X G (c.fact 8 (f := .free "range") rfl)
  x_NoHalf := let q := He.exc_ok (c.fact 19 (f := .exc "NoHalf") rfl); ⟨He.glo_ok X G (c.fact 9 (f := .glo "NoHalf") rfl), q.1, q.2.1, q.2.2.1, q.2.2.2⟩
  x_NoMarks := let q := He.exc_ok (c.fact 20 (f := .exc "NoMarks") rfl); ⟨He.glo_ok X G (c.fact 10 (f := .glo "NoMarks") rfl), q.1, q.2.1, q.2.2.1, q.2.2.2⟩
  x_NoPlain := let q := He.exc_ok (c.fact 21 (f := .exc "NoPlain") rfl); ⟨He.glo_ok X G (c.fact 11 (f := .glo "NoPlain") rfl), q.1, q.2.1, q.2.2.1, q.2.2.2⟩
  x_NoRim := let q := He.exc_ok (c.fact 22 (f := .exc "NoRim") rfl); ⟨He.glo_ok X G (c.fact 12 (f := .glo "NoRim") rfl), q.1, q.2.1, q.2.2.1, q.2.2.2⟩
  x_NoRow := let q := He.exc_ok (c.fact 23 (f := .exc "NoRow") rfl); ⟨He.glo_ok X G (c.fact 13 (f := .glo "NoRow") rfl), q.1, q.2.1, q.2.2.1, q.2.2.2⟩
  x_NoText := let q := He.exc_ok (c.fact 24 (f := .exc "NoText") rfl); ⟨He.glo_ok X G (c.fact 14 (f := .glo "NoText") rfl), q.1, q.2.1, q.2.2.1, q.2.2.2⟩
  x_NothingLeft := let q := He.exc_ok (c.fact 25 (f := .exc "NothingLeft") rfl); ⟨He.glo_ok X G (c.fact 15 (f := .glo "NothingLeft") rfl), q.1, q.2.1, q.2.2.1, q.2.2.2⟩
  x_TooMany := let q := He.exc_ok (c.fact 26 (f := .exc "TooMany") rfl); ⟨He.glo_ok X G (c.fact 16 (f := .glo "TooMany") rfl), q.1, q.2.1, q.2.2.1, q.2.2.2⟩
  x_Unfit := let q := He.exc_ok (c.fact 27 (f := .exc "Unfit") rfl); ⟨He.glo_ok X G (c.fact 17 (f := .glo "Unfit") rfl), q.1, q.2.1, q.2.2.1, q.2.2.2⟩
  x_Unlike := let q := He.exc_ok (c.fact 28 (f := .exc "Unlike") rfl); ⟨He.glo_ok X G (c.fact 18 (f := .glo "Unlike") rfl), q.1, q.2.1, q.2.2.1, q.2.2.2⟩
  kx := kxB_ok (He.ba e).1 (fun c1 hc => by
    simp only [kNames, List.mem_cons, List.not_mem_nil, or_false] at hc
    rcases hc with rfl | rfl | rfl | rfl | rfl | rfl | rfl | rfl | rfl | rfl | rfl | rfl
    · exact He.glo_ok X G (c.fact 29 (f := .glo "Harm") rfl)
    · exact He.glo_ok X G (c.fact 30 (f := .glo "NoHalf") rfl)
    · exact He.glo_ok X G (c.fact 31 (f := .glo "NoMarks") rfl)
    · exact He.glo_ok X G (c.fact 32 (f := .glo "NoPlain") rfl)
    · exact He.glo_ok X G (c.fact 33 (f := .glo "NoRim") rfl)
    · exact He.glo_ok X G (c.fact 34 (f := .glo "NoRow") rfl)
    · exact He.glo_ok X G (c.fact 35 (f := .glo "NoSkin") rfl)
    · exact He.glo_ok X G (c.fact 36 (f := .glo "NoText") rfl)
    · exact He.glo_ok X G (c.fact 37 (f := .glo "NothingLeft") rfl)
    · exact He.glo_ok X G (c.fact 38 (f := .glo "TooMany") rfl)
    · exact He.glo_ok X G (c.fact 39 (f := .glo "Unfit") rfl)
    · exact He.glo_ok X G (c.fact 40 (f := .glo "Unlike") rfl)
    ) (He.glo_ok X G (c.fact 41 (f := .glo "SkinError") rfl))
  vb := (He.ba (He.ba e).2).1
  f_Harm := exfB_ok (He.ba (He.ba (He.ba e).2).2).1 (He.glo_ok X G (c.fact 29 (f := .glo "Harm") rfl)) (He.glo_ok X G (c.fact 41 (f := .glo "SkinError") rfl))
  i_Harm := c.def_ 4 (d := ⟨("Harm", some "__init__"), "__init__", "Harm.__init__", defArgs si_Harm, defBody si_Harm, defScope si_Harm, [], []⟩) rfl
  f_NoSkin := exfB_ok (He.ba (He.ba (He.ba (He.ba e).2).2).2).1 (He.glo_ok X G (c.fact 35 (f := .glo "NoSkin") rfl)) (He.glo_ok X G (c.fact 41 (f := .glo "SkinError") rfl))
  i_NoSkin := c.def_ 5 (d := ⟨("NoSkin", some "__init__"), "__init__", "NoSkin.__init__", defArgs si_NoSkin, defBody si_NoSkin, defScope si_NoSkin, [], []⟩) rfl
theorem law_fn {P : Program} {w : World} {K : PySem.W.Frag} {mg : Str → Option Value} {base : Heap} (T : Txt K mg) {fd : FuncData} (F : FnT K "law" s_law fd) : FnOk P w K mg base (L2N.CX P w) 3 (He.ga K "law") fd P_law (spD K mg 1 f_law) := by
  have c_Harm := ok_Harm (P := P) (w := w) (base := base) T
  have c_NoSkin := ok_NoSkin (P := P) (w := w) (base := base) T
  have c__law_bag := ok__law_bag (P := P) (w := w) (base := base) T 
  have c__law_take := ok__law_take (P := P) (w := w) (base := base) T 
  have c__law_kinds := ok__law_kinds (P := P) (w := w) (base := base) T 
  exact ok_law (P := P) (w := w) (base := base) T c__law_bag c__law_take c__law_kinds c_Harm c_NoSkin F
end K52
set_option Elab.async false
set_option linter.all false
set_option maxRecDepth 100000
set_option maxHeartbeats 4000000
namespace LW
open PySem L2 DL
def isBoolD : D → Bool
  | .bool _ => true
  | _ => false
theorem isi_of {T : String} {d : D} {b : Bool} (h : kitB (tyD d) T = some b) (hd : ∀ kvs, d ≠ .dict kvs := by exact fun _ z => nomatch z) : isiD T d = some (.bool b) := by
  cases d with
  | dict kvs => exact absurd rfl (hd kvs)
  | _ => show Option.map PyData.bool (kitB _ T) = _; first | rw [h]; rfl | (have h := h; unfold tyD at h; rw [h]; rfl)
theorem isi_dict {T : String} (kvs : List (D × D)) (h : T ∈ isTs) : isiD T (.dict kvs) = some (.bool false) := if_pos h
theorem isi_bool (d : D) : isiD "bool" d = some (.bool (isBoolD d)) := by
  cases d with
  | none => exact isi_of (show kitB "NoneType" "bool" = some false by decide +kernel)
  | bool _ => exact isi_of (show kitB "bool" "bool" = some true by decide +kernel)
  | int _ => exact isi_of (show kitB "int" "bool" = some false by decide +kernel)
  | str _ => exact isi_of (show kitB "str" "bool" = some false by decide +kernel)
  | list _ => exact isi_of (show kitB "list" "bool" = some false by decide +kernel)
  | tuple _ => exact isi_of (show kitB "tuple" "bool" = some false by decide +kernel)
  | dict kvs => exact isi_dict kvs (by decide)
theorem divOk_of {m : Int} (h : 0 < m) (h2 : m < 2 ^ 64) : divOk m = true := by
  unfold divOk
  have h3 : m.natAbs < 2 ^ 64 := by omega
  have h4 : m.natAbs < 2 ^ 4000 := Nat.lt_of_lt_of_le h3 (Nat.pow_le_pow_right (by decide) (by decide))
  rw [decide_eq_true h, decide_eq_true h4]
  rfl
theorem mulOk_r {i j : Int} (h1 : -(2 ^ 64) < j) (h2 : j < 2 ^ 64) : mulOk i j = true := by
  unfold mulOk
  rw [decide_eq_true h1, decide_eq_true h2]
  simp
theorem mulOk_l {i j : Int} (h1 : -(2 ^ 64) < i) (h2 : i < 2 ^ 64) : mulOk i j = true := by
  unfold mulOk
  rw [decide_eq_true h1, decide_eq_true h2]
  simp
def T18 : Int := 10 ^ 18
def T120 : Int := 10 ^ 60 * 10 ^ 60
theorem T120_pos : 0 < T120 := by decide +kernel
theorem powOk60 : powOk 10 60 = true := by decide +kernel
theorem powOk18 : powOk 10 18 = true := by decide +kernel
theorem mulOk60 : mulOk ((10 : Int) ^ (60 : Int).toNat) ((10 : Int) ^ (60 : Int).toNat) = true := by decide +kernel
end LW
set_option Elab.async false
set_option linter.all false
set_option maxRecDepth 100000
set_option maxHeartbeats 4000000
namespace DL
open PySem L2
def np : Sl → Bool
  | .p _ => false
  | _ => true
def Fl.out (args : DEnv) : Fl → Fo
  | .nx e => .ok .none (outsOf args e)
  | .rt d e => .ok d (outsOf args e)
  | .rl xs e => .okl xs (outsOf args e)
  | .ex x e => .ex x (outsOf args e)
  | _ => .stuck
theorem bodyF_ap (n : Nat) (ds : DS) (args : DEnv) : bodyF n ds args = (ds (args ++ List.replicate (n - args.length) Sl.no)).out args := by
  unfold bodyF
  cases ds (args ++ List.replicate (n - args.length) Sl.no) <;> rfl
end DL
namespace LW
open PySem L2 DL
def shD (k : Nat) (d : D) : Prop := d.canLay0 = true ∧ d.depth ≤ k
def shA (k : Nat) (xs : List D) : Prop := ∀ x, x ∈ xs → shD k x
theorem shA_lay {k : Nat} : ∀ {xs : List D}, shA k xs → PyData.canLayAll0 xs = true ∧ PyData.depthAll xs ≤ k
  | [], _ => ⟨rfl, Nat.zero_le _⟩
  | x :: xs, h => by
    have a := h x (List.mem_cons_self ..)
    have b := shA_lay (xs := xs) fun y hy => h y (List.mem_cons_of_mem _ hy)
    simp only [PyData.canLayAll0, PyData.depthAll, Bool.and_eq_true]
    exact ⟨⟨a.1, b.1⟩, Nat.max_le.2 ⟨a.2, b.2⟩⟩
theorem shD_tup {k : Nat} {xs : List D} (h : shA k xs) : shD (k + 1) (.tuple xs) := by
  obtain ⟨a, b⟩ := shA_lay h
  exact ⟨by simpa [PyData.canLay0] using a, by simp [PyData.depth]; exact b⟩
theorem shD_lst {k : Nat} {xs : List D} (h : shA k xs) : shD (k + 1) (.list xs) := by
  obtain ⟨a, b⟩ := shA_lay h
  exact ⟨by simpa [PyData.canLay0] using a, by simp [PyData.depth]; exact b⟩
theorem shD_int (k : Nat) (i : Int) : shD k (.int i) := ⟨rfl, by simp [PyData.depth]⟩
theorem shD_bool (k : Nat) (i : Bool) : shD k (.bool i) := ⟨rfl, by simp [PyData.depth]⟩
theorem shD_none (k : Nat) : shD k .none := ⟨rfl, by simp [PyData.depth]⟩
theorem shD_up {k m : Nat} (hk : k ≤ m) {d : D} (h : shD k d) : shD m d := ⟨h.1, Nat.le_trans h.2 hk⟩
theorem shaped_of {k : Nat} (hk : k ≤ 64) {d : D} (h : shD k d) : SeqAt.shaped d = true := by
  unfold SeqAt.shaped
  simp [h.1]
  exact Nat.le_trans h.2 hk
theorem dEq_of {k : Nat} (hk : k ≤ 64) {a b : D} (ha : shD k a) (hb : shD k b) : dEq a b = some (.bool (PyData.eqv a b)) := by
  unfold dEq
  rw [if_pos ⟨shaped_of hk ha, shaped_of hk hb⟩]
theorem dNe_of {k : Nat} (hk : k ≤ 64) {a b : D} (ha : shD k a) (hb : shD k b) : dNe a b = some (.bool (!PyData.eqv a b)) := by
  unfold dNe
  rw [if_pos ⟨shaped_of hk ha, shaped_of hk hb⟩]
@[simp] theorem dEq_int (i j : Int) : dEq (.int i) (.int j) = some (.bool (decide (i = j))) := by
  rw [dEq_of (k := 0) (by decide) (shD_int ..) (shD_int ..)]
  simp [PyData.eqv]
  rfl
@[simp] theorem dNe_int (i j : Int) : dNe (.int i) (.int j) = some (.bool (!decide (i = j))) := by
  rw [dNe_of (k := 0) (by decide) (shD_int ..) (shD_int ..)]
  simp [PyData.eqv]
  rfl
@[simp] theorem dNe_bool (i j : Bool) : dNe (.bool i) (.bool j) = some (.bool (i != j)) := by
  rw [dNe_of (k := 0) (by decide) (shD_bool ..) (shD_bool ..)]
  simp only [PyData.eqv, bne]
def nD (k : Nat) : D := .int (k : Int)
def nsD (L : List Nat) : List D := L.map nD
def oD : Option Nat → D
  | none => .none
  | some k => nD k
def osD (L : List (Option Nat)) : List D := L.map oD
@[simp] theorem nsD_len (L : List Nat) : (nsD L).length = L.length := by simp [nsD]
@[simp] theorem osD_len (L : List (Option Nat)) : (osD L).length = L.length := by simp [osD]
@[simp] theorem nsD_empty (L : List Nat) : (nsD L).isEmpty = L.isEmpty := by cases L <;> rfl
theorem ixN_of {n k : Nat} (h : k < n) : ixN n (k : Int) = some k := by
  unfold ixN
  rw [if_pos (by omega), if_pos (by omega)]
  simp
theorem getD_inj {p : List Nat} (hn : p.Nodup) {i j : Nat} (hi : i < p.length) (hj : j < p.length) (h : p.getD i 0 = p.getD j 0) : i = j := by
  simp [List.getD, List.getElem?_eq_getElem hi, List.getElem?_eq_getElem hj] at h
  have pw := List.pairwise_iff_getElem.1 hn
  rcases Nat.lt_trichotomy i j with c | c | c
  · exact absurd h (pw i j hi hj c)
  · exact c
  · exact absurd h.symm (pw j i hj hi c)
structure SkinP (n : Nat) (on : List Nat) (ms : List (Option Nat)) : Prop where
  perm : on.Perm (List.range n)
  len : ms.length = n
  mate : ∀ i j : Nat, ms[i]? = some (some j) → j < n ∧ j ≠ i ∧ ms[j]? = some (some i)
structure SkM (n : Nat) (ms : List (Option Nat)) (wt : List Nat) : Prop where
  len : ms.length = n
  nod : wt.Nodup
  lew : wt.length ≤ n
  lone : ∀ x, x ∈ wt → x < n ∧ ms[x]? = some none
  mate : ∀ i j : Nat, ms[i]? = some (some j) → j < n ∧ j ≠ i ∧ ms[j]? = some (some i)
theorem SkM.put {n : Nat} {ms : List (Option Nat)} {wt : List Nat} (h : SkM n ms wt) {a b : Nat} (ha : a ∉ wt) (hb : b ∉ wt) (hab : a ≠ b) (la : a < n) (lb : b < n) (na : ms[a]? = some none) (nb : ms[b]? = some none) : SkM n ((ms.set a (some b)).set b (some a)) wt where
  len := by simp [h.len]
  nod := h.nod
  lew := h.lew
  lone := fun x hx => by
    have := h.lone x hx
    refine ⟨this.1, ?_⟩
    have xb : b ≠ x := fun e => hb (by rw [e]; exact hx)
    have xa : a ≠ x := fun e => ha (by rw [e]; exact hx)
    rw [List.getElem?_set_ne xb, List.getElem?_set_ne xa]
    exact this.2
  mate := fun i j hij => by
    have l1 : a < ms.length := by rw [h.len]; exact la
    have l2 : b < (ms.set a (some b)).length := by simp [h.len, lb]
    by_cases c : i = b
    · subst c
      rw [List.getElem?_set_self l2] at hij
      cases hij
      refine ⟨la, hab, ?_⟩
      rw [List.getElem?_set_ne (Ne.symm hab), List.getElem?_set_self l1]
    · rw [List.getElem?_set_ne (Ne.symm c)] at hij
      by_cases d : i = a
      · subst d
        rw [List.getElem?_set_self l1] at hij
        cases hij
        exact ⟨lb, Ne.symm c, by rw [List.getElem?_set_self l2]⟩
      · rw [List.getElem?_set_ne (Ne.symm d)] at hij
        obtain ⟨x, y, z⟩ := h.mate i j hij
        have ja : j ≠ a := fun e => by rw [e, na] at z; cases z
        have jb : j ≠ b := fun e => by rw [e, nb] at z; cases z
        refine ⟨x, y, ?_⟩
        rw [List.getElem?_set_ne (Ne.symm jb), List.getElem?_set_ne (Ne.symm ja)]
        exact z
theorem SkM.drop {n : Nat} {ms : List (Option Nat)} {wt : List Nat} (h : SkM n ms wt) (k : Nat) : SkM n ms (wt.eraseIdx k) :=
  ⟨h.len, h.nod.sublist (List.eraseIdx_sublist _ _), Nat.le_trans (List.eraseIdx_sublist _ _).length_le h.lew, fun x hx => h.lone x ((List.eraseIdx_sublist _ _).subset hx), h.mate⟩
end LW
set_option Elab.async false
set_option linter.all false
set_option autoImplicit false
namespace NT
open PySem L2 DL LW
inductive N (α : Type) where
  | ok (a : α)
  | ex (x : Xc)
  | stuck
inductive Ct (σ l ρ : Type) where
  | nx (s : σ)
  | rt (r : ρ)
  | bk (s : l)
  | ct (s : l)
  | ex (x : Xc)
  | stuck
section
variable {α β σ τ l ρ : Type}
def N.bd (m : N α) (k : α → N β) : N β := match m with
  | .ok a => k a
  | .ex x => .ex x
  | .stuck => .stuck
def N.ct (m : N α) (k : α → Ct σ l ρ) : Ct σ l ρ := match m with
  | .ok a => k a
  | .ex x => .ex x
  | .stuck => .stuck
def Ct.sq (m : Ct σ l ρ) (k : σ → Ct τ l ρ) : Ct τ l ρ := match m with
  | .nx s => k s
  | .rt r => .rt r
  | .bk s => .bk s
  | .ct s => .ct s
  | .ex x => .ex x
  | .stuck => .stuck
/-- a def's answer: what it returns -/
def Ct.fn (m : Ct σ l ρ) : N ρ := match m with
  | .rt r => .ok r
  | .ex x => .ex x
  | _ => .stuck
/-- the answer of a def that returns nothing: what it leaves -/
def Ct.fp (m : Ct ρ l ρ) : N ρ := match m with
  | .nx r => .ok r
  | .rt r => .ok r
  | .ex x => .ex x
  | _ => .stuck
def ofO (o : Option α) : N α := match o with
  | some a => .ok a
  | none => .stuck
def gd (b : Bool) : N Unit := match b with
  | true => .ok ()
  | false => .stuck
def optC {γ : Type} (x : Option α) (a : γ) (b : α → γ) : γ := match x with
  | none => a
  | some y => b y
@[simp] theorem bd_ok (a : α) (k : α → N β) : (N.ok a).bd k = k a := rfl
@[simp] theorem bd_ex (x : Xc) (k : α → N β) : (N.ex x : N α).bd k = .ex x := rfl
@[simp] theorem bd_stuck (k : α → N β) : (N.stuck : N α).bd k = .stuck := rfl
@[simp] theorem ct_ok (a : α) (k : α → Ct σ l ρ) : (N.ok a).ct k = k a := rfl
@[simp] theorem ct_ex (x : Xc) (k : α → Ct σ l ρ) : (N.ex x : N α).ct k = .ex x := rfl
@[simp] theorem ct_stuck (k : α → Ct σ l ρ) : (N.stuck : N α).ct k = .stuck := rfl
@[simp] theorem sq_nx (s : σ) (k : σ → Ct τ l ρ) : (Ct.nx s : Ct σ l ρ).sq k = k s := rfl
@[simp] theorem sq_rt (s : ρ) (k : σ → Ct τ l ρ) : (Ct.rt s : Ct σ l ρ).sq k = .rt s := rfl
@[simp] theorem sq_bk (s : l) (k : σ → Ct τ l ρ) : (Ct.bk s : Ct σ l ρ).sq k = .bk s := rfl
@[simp] theorem sq_ct (s : l) (k : σ → Ct τ l ρ) : (Ct.ct s : Ct σ l ρ).sq k = .ct s := rfl
@[simp] theorem sq_ex (s : Xc) (k : σ → Ct τ l ρ) : (Ct.ex s : Ct σ l ρ).sq k = .ex s := rfl
@[simp] theorem sq_stuck (k : σ → Ct τ l ρ) : (Ct.stuck : Ct σ l ρ).sq k = .stuck := rfl
@[simp] theorem sq_Nct (m : N α) (k : α → Ct σ l ρ) (j : σ → Ct τ l ρ) : (m.ct k).sq j = m.ct fun a => (k a).sq j := by cases m <;> rfl
@[simp] theorem fn_rt (r : ρ) : (Ct.rt r : Ct σ l ρ).fn = .ok r := rfl
@[simp] theorem fn_ex (r : Xc) : (Ct.ex r : Ct σ l ρ).fn = .ex r := rfl
@[simp] theorem fn_stuck : (Ct.stuck : Ct σ l ρ).fn = .stuck := rfl
@[simp] theorem fn_Nct (m : N α) (k : α → Ct σ l ρ) : (m.ct k).fn = m.bd fun a => (k a).fn := by cases m <;> rfl
@[simp] theorem fp_rt (r : ρ) : (Ct.rt r : Ct ρ l ρ).fp = .ok r := rfl
@[simp] theorem fp_nx (r : ρ) : (Ct.nx r : Ct ρ l ρ).fp = .ok r := rfl
@[simp] theorem fp_ex (r : Xc) : (Ct.ex r : Ct ρ l ρ).fp = .ex r := rfl
@[simp] theorem fp_stuck : (Ct.stuck : Ct ρ l ρ).fp = .stuck := rfl
@[simp] theorem fp_Nct (m : N α) (k : α → Ct ρ l ρ) : (m.ct k).fp = m.bd fun a => (k a).fp := by cases m <;> rfl
@[simp] theorem ofO_some (a : α) : ofO (some a) = .ok a := rfl
@[simp] theorem ofO_none : ofO (none : Option α) = .stuck := rfl
@[simp] theorem gd_true : gd true = .ok () := rfl
@[simp] theorem gd_false : gd false = .stuck := rfl
@[simp] theorem optC_none {γ : Type} (a : γ) (b : α → γ) : optC none a b = a := rfl
@[simp] theorem optC_some {γ : Type} (x : α) (a : γ) (b : α → γ) : optC (some x) a b = b x := rfl
@[simp] theorem fn_ite (c : Prop) [Decidable c] (a b : Ct σ l ρ) : (if c then a else b).fn = if c then a.fn else b.fn := by split <;> rfl
@[simp] theorem fp_ite (c : Prop) [Decidable c] (a b : Ct ρ l ρ) : (if c then a else b).fp = if c then a.fp else b.fp := by split <;> rfl
@[simp] theorem sq_ite (c : Prop) [Decidable c] (a b : Ct σ l ρ) (k : σ → Ct τ l ρ) : (if c then a else b).sq k = if c then a.sq k else b.sq k := by split <;> rfl
@[simp] theorem fn_opt (x : Option α) (a : Ct σ l ρ) (b : α → Ct σ l ρ) : (optC x a b).fn = optC x a.fn fun y => (b y).fn := by cases x <;> rfl
@[simp] theorem sq_opt (x : Option α) (a : Ct σ l ρ) (b : α → Ct σ l ρ) (k : σ → Ct τ l ρ) : (optC x a b).sq k = optC x (a.sq k) fun y => (b y).sq k := by cases x <;> rfl
def Ct.again (r : Ct σ σ ρ) (k : σ → Ct σ l ρ) : Ct σ l ρ := match r with
  | .nx s => k s
  | .ct s => k s
  | .bk s => .nx s
  | .rt r => .rt r
  | .ex x => .ex x
  | .stuck => .stuck
def forC (body : α → σ → Ct σ σ ρ) : List α → σ → Ct σ l ρ
  | [], s => .nx s
  | a :: as, s => (body a s).again (forC body as)
def whileC (t : σ → N Bool) (body : σ → Ct σ σ ρ) : Nat → σ → Ct σ l ρ
  | 0, _ => .stuck
  | n + 1, s => (t s).ct fun b => if b = true then (body s).again (whileC t body n) else .nx s
@[simp] theorem again_nx (s : σ) (k : σ → Ct σ l ρ) : (Ct.nx s : Ct σ σ ρ).again k = k s := rfl
@[simp] theorem again_ct (s : σ) (k : σ → Ct σ l ρ) : (Ct.ct s : Ct σ σ ρ).again k = k s := rfl
@[simp] theorem again_bk (s : σ) (k : σ → Ct σ l ρ) : (Ct.bk s : Ct σ σ ρ).again k = .nx s := rfl
@[simp] theorem again_rt (s : ρ) (k : σ → Ct σ l ρ) : (Ct.rt s : Ct σ σ ρ).again k = .rt s := rfl
@[simp] theorem again_ex (s : Xc) (k : σ → Ct σ l ρ) : (Ct.ex s : Ct σ σ ρ).again k = .ex s := rfl
@[simp] theorem again_stuck (k : σ → Ct σ l ρ) : (Ct.stuck : Ct σ σ ρ).again k = .stuck := rfl
@[simp] theorem forC_nil (body : α → σ → Ct σ σ ρ) (s : σ) : (forC body [] s : Ct σ l ρ) = .nx s := rfl
@[simp] theorem forC_cons (body : α → σ → Ct σ σ ρ) (a : α) (as : List α) (s : σ) : (forC body (a :: as) s : Ct σ l ρ) = (body a s).again (forC body as) := rfl
/-- a while loop: m tells how often it goes on at most -/
theorem while_ok {t : σ → N Bool} {body : σ → Ct σ σ ρ} (I : Nat → σ → Prop) (Z : σ → Prop) : ∀ (f m : Nat) (s : σ), m < f → I m s → (∀ m s, I m s → (t s = .ok false ∧ Z s) ∨ (t s = .ok true ∧ ∃ s' k, (body s = .nx s' ∨ body s = .ct s') ∧ k < m ∧ I k s')) → ∃ s', (whileC t body f s : Ct σ l ρ) = .nx s' ∧ Z s'
  | 0, m, s, hm, _, _ => by omega
  | f + 1, m, s, hm, h0, h => by
    rcases h m s h0 with ⟨e, z⟩ | ⟨e, s', k, e2, hk, hI⟩
    · exact ⟨s, by simp [whileC, e], z⟩
    · obtain ⟨s2, e3, z⟩ := while_ok I Z f k s' (by omega) hI h
      refine ⟨s2, ?_, z⟩
      rcases e2 with e2 | e2 <;> simp [whileC, e, e2, e3]
def compN (f : α → N (Option β)) : List α → N (List β)
  | [] => .ok []
  | a :: as => match f a with
    | .ok none => compN f as
    | .ok (some b) => match compN f as with
      | .ok bs => .ok (b :: bs)
      | _ => .stuck
    | _ => .stuck
@[simp] theorem compN_nil (f : α → N (Option β)) : compN f [] = .ok [] := rfl
end
abbrev eI : Int → D := PyData.int
abbrev eB : Bool → D := PyData.bool
abbrev eS : Str → D := PyData.str
abbrev eD (d : D) : D := d
abbrev eU (_ : Unit) : D := PyData.none
section
variable {α β γ δ : Type}
def eO (f : α → D) : Option α → D
  | none => .none
  | some a => f a
abbrev eLs (f : α → D) (xs : List α) : D := .list (xs.map f)
abbrev eTs (f : α → D) (xs : List α) : D := .tuple (xs.map f)
abbrev eP2 (f : α → D) (g : β → D) (p : α × β) : D := .tuple [f p.1, g p.2]
abbrev eP3 (f : α → D) (g : β → D) (h : γ → D) (p : α × β × γ) : D := .tuple [f p.1, g p.2.1, h p.2.2]
abbrev eKv (f : α → D) (g : β → D) (kvs : List (α × β)) : List (D × D) := kvs.map fun p => (f p.1, g p.2)
end
/-- equality of what is written is equality -/
class EqE {α : Type} (f : α → D) : Prop where
  eq : ∀ a b, PyData.eqv (f a) (f b) = true ↔ a = b
/-- what is written can be compared -/
class ShE {α : Type} (f : α → D) (k : outParam Nat) : Prop where
  sh : ∀ a, shD k (f a)
class NnE {α : Type} (f : α → D) : Prop where
  nn : ∀ a, f a ≠ .none
class FlE {α : Type} (f : α → D) : Prop where
  fl : ∀ a, flatD (f a) = true
instance : NnE eI := ⟨fun _ h => by cases h⟩
instance : NnE eB := ⟨fun _ h => by cases h⟩
instance : NnE eS := ⟨fun _ h => by cases h⟩
instance {α : Type} {f : α → D} : NnE (eLs f) := ⟨fun _ h => by cases h⟩
instance {α : Type} {f : α → D} : NnE (eTs f) := ⟨fun _ h => by cases h⟩
instance {α β : Type} {f : α → D} {g : β → D} : NnE (eP2 f g) := ⟨fun _ h => by cases h⟩
instance : FlE eI := ⟨fun _ => rfl⟩
instance : FlE eB := ⟨fun _ => rfl⟩
instance : FlE eS := ⟨fun _ => rfl⟩
instance {α : Type} {f : α → D} [h : FlE f] : FlE (eO f) := ⟨fun a => by cases a; rfl; exact h.fl _⟩
instance : EqE eI := ⟨fun a b => by simp [PyData.eqv, eI]⟩
instance : EqE eB := ⟨fun a b => by simp [PyData.eqv, eB]⟩
instance : EqE eU := ⟨fun a b => by simp [PyData.eqv, eU]⟩
instance : EqE eS := ⟨fun a b => by simp [PyData.eqv, eS]⟩
instance : ShE eI 0 := ⟨fun a => shD_int 0 a⟩
instance : ShE eB 0 := ⟨fun a => shD_bool 0 a⟩
instance : ShE eU 0 := ⟨fun a => shD_none 0⟩
theorem eqv_none {d : D} (h : d ≠ .none) : PyData.eqv .none d = false ∧ PyData.eqv d .none = false := by cases d <;> first | (exact absurd rfl h) | (simp [PyData.eqv])
instance {α : Type} {f : α → D} [h : EqE f] [n : NnE f] : EqE (eO f) := ⟨fun a b => by
  cases a <;> cases b
  · simp [eO, PyData.eqv]
  · simp [eO, (eqv_none (n.nn _)).1]
  · simp [eO, (eqv_none (n.nn _)).2]
  · simp [eO, h.eq]⟩
instance {α : Type} {f : α → D} {k : Nat} [h : ShE f k] : ShE (eO f) k := ⟨fun a => by
  cases a
  · exact shD_none k
  · exact h.sh _⟩
theorem eqvAll_map {α : Type} {f : α → D} [h : EqE f] : ∀ (xs ys : List α), PyData.eqvAll (xs.map f) (ys.map f) = true ↔ xs = ys
  | [], [] => by simp [PyData.eqvAll]
  | [], _ :: _ => by simp [PyData.eqvAll]
  | _ :: _, [] => by simp [PyData.eqvAll]
  | x :: xs, y :: ys => by simp [PyData.eqvAll, h.eq, eqvAll_map xs ys]
theorem shA_map {α : Type} {f : α → D} {k : Nat} [h : ShE f k] (xs : List α) : shA k (xs.map f) := fun x hx => by
  obtain ⟨a, _, rfl⟩ := List.mem_map.1 hx
  exact h.sh a
instance {α : Type} {f : α → D} [h : EqE f] : EqE (eLs f) := ⟨fun a b => by simp [PyData.eqv, eqvAll_map]⟩
instance {α : Type} {f : α → D} [h : EqE f] : EqE (eTs f) := ⟨fun a b => by simp [PyData.eqv, eqvAll_map]⟩
instance {α : Type} {f : α → D} {k : Nat} [h : ShE f k] : ShE (eLs f) (k + 1) := ⟨fun a => shD_lst (shA_map a)⟩
instance {α : Type} {f : α → D} {k : Nat} [h : ShE f k] : ShE (eTs f) (k + 1) := ⟨fun a => shD_tup (shA_map a)⟩
theorem shA_cons {k : Nat} {x : D} {xs : List D} (h : shD k x) (g : shA k xs) : shA k (x :: xs) := fun y hy => by
  rcases List.mem_cons.1 hy with rfl | hy
  · exact h
  · exact g y hy
theorem shA_nil {k : Nat} : shA k [] := fun _ h => absurd h List.not_mem_nil
instance {α β : Type} {f : α → D} {g : β → D} [h : EqE f] [i : EqE g] : EqE (eP2 f g) := ⟨fun a b => by
  obtain ⟨a1, a2⟩ := a
  obtain ⟨b1, b2⟩ := b
  simp [PyData.eqv, PyData.eqvAll, h.eq, i.eq]⟩
instance {α β : Type} {f : α → D} {g : β → D} {k m : Nat} [h : ShE f k] [i : ShE g m] : ShE (eP2 f g) (max k m + 1) := ⟨fun a => shD_tup (shA_cons (shD_up (by omega) (h.sh _)) (shA_cons (shD_up (by omega) (i.sh _)) shA_nil))⟩
instance {α β γ : Type} {f : α → D} {g : β → D} {e : γ → D} [h : EqE f] [i : EqE g] [j : EqE e] : EqE (eP3 f g e) := ⟨fun a b => by
  obtain ⟨a1, a2, a3⟩ := a
  obtain ⟨b1, b2, b3⟩ := b
  simp [PyData.eqv, PyData.eqvAll, h.eq, i.eq, j.eq]⟩
instance {α β γ : Type} {f : α → D} {g : β → D} {e : γ → D} {k m n : Nat} [h : ShE f k] [i : ShE g m] [j : ShE e n] : ShE (eP3 f g e) (max k (max m n) + 1) := ⟨fun a => shD_tup (shA_cons (shD_up (by omega) (h.sh _)) (shA_cons (shD_up (by omega) (i.sh _)) (shA_cons (shD_up (by omega) (j.sh _)) shA_nil)))⟩
theorem atI_map {α : Type} (f : α → D) (xs : List α) (i : Int) : atI (xs.map f) i = (atI xs i).map f := by
  unfold atI
  rw [List.length_map]
  cases ixN xs.length i <;> simp
end NT
set_option Elab.async false
set_option linter.all false
set_option autoImplicit false
namespace NT
open PySem L2 DL LW
/-- what is known of a slot: it is so; it may be stored to; it holds nothing of its own -/
inductive Sp where
  | is (s : Sl)
  | np
  | nw
def Sp.ok : Sp → Sl → Prop
  | .is s, t => t = s
  | .np, t => DL.np t = true
  | .nw, t => t.own = false
abbrev Sps := List Sp
structure Fits (c : Sps) (e : DEnv) : Prop where
  len : c.length = e.length
  at_ : ∀ (i : Nat) x t, c[i]? = some x → e[i]? = some t → x.ok t
theorem Fits.get {c : Sps} {e : DEnv} (h : Fits c e) {i : Nat} {x : Sp} (hc : c[i]? = some x) : ∃ t, e[i]? = some t ∧ x.ok t := by
  have l := (List.getElem?_eq_some_iff.mp hc).1
  have l2 : i < e.length := by rw [← h.len]; exact l
  exact ⟨e[i], List.getElem?_eq_getElem l2, h.at_ i x _ hc (List.getElem?_eq_getElem l2)⟩
theorem Fits.is {c : Sps} {e : DEnv} (h : Fits c e) {i : Nat} {s : Sl} (hc : c[i]? = some (.is s)) : e[i]? = some s := by
  obtain ⟨t, a, b⟩ := h.get hc
  rw [a]
  exact congrArg _ b
theorem Fits.set {c : Sps} {e : DEnv} (h : Fits c e) (i : Nat) {x : Sp} {t : Sl} (hx : x.ok t) : Fits (c.set i x) (e.set i t) := by
  refine ⟨by simp [h.len], fun j y u hy hu => ?_⟩
  by_cases q : i = j
  · subst q
    have l1 : i < c.length := by have := (List.getElem?_eq_some_iff.mp hy).1; simpa using this
    have l2 : i < e.length := by rw [← h.len]; exact l1
    rw [List.getElem?_set_self l1] at hy
    rw [List.getElem?_set_self l2] at hu
    cases hy; cases hu
    exact hx
  · rw [List.getElem?_set_ne q] at hy hu
    exact h.at_ j y u hy hu
/-- less is known -/
def Wk : Sp → Sp → Prop
  | x, .is s => x = .is s
  | .is s, .np => DL.np s = true
  | .is s, .nw => s.own = false
  | .np, .np => True
  | .nw, .np => True
  | .nw, .nw => True
  | .np, .nw => False
def Sub : Sps → Sps → Prop
  | [], [] => True
  | x :: c, y :: d => Wk x y ∧ Sub c d
  | _, _ => False
theorem Wk.ok {x y : Sp} {t : Sl} (h : Wk x y) (a : x.ok t) : y.ok t := by
  cases y with
  | is s => have : x = .is s := by cases x <;> exact h
            rw [this] at a; exact a
  | np =>
    cases x with
    | is s => exact (show t = s from a) ▸ h
    | np => exact a
    | nw =>
      cases t with
      | p xs => exact absurd a (by intro z; cases z)
      | _ => rfl
  | nw =>
    cases x with
    | is s => exact (show t = s from a) ▸ h
    | np => exact h.elim
    | nw => exact a
theorem Sub.len : ∀ {c d : Sps}, Sub c d → c.length = d.length
  | [], [], _ => rfl
  | _ :: _, _ :: _, h => by rw [List.length_cons, List.length_cons, Sub.len h.2]
  | [], _ :: _, h => h.elim
  | _ :: _, [], h => h.elim
theorem Sub.at_ : ∀ {c d : Sps}, Sub c d → ∀ (i : Nat) y, d[i]? = some y → ∃ x, c[i]? = some x ∧ Wk x y
  | [], [], _, i, y, h => by simp at h
  | x :: c, y :: d, h, 0, z, hz => by simp at hz; subst hz; exact ⟨x, rfl, h.1⟩
  | x :: c, y :: d, h, i + 1, z, hz => by simpa using Sub.at_ h.2 i z (by simpa using hz)
  | [], _ :: _, h, _, _, _ => h.elim
  | _ :: _, [], h, _, _, _ => h.elim
theorem Fits.sub {c d : Sps} {e : DEnv} (h : Fits c e) (s : Sub c d) : Fits d e :=
  ⟨by rw [← s.len]; exact h.len, fun i y t hy ht => by
    obtain ⟨x, hx, w⟩ := s.at_ i y hy
    exact w.ok (h.at_ i x t hx ht)⟩
structure Qs (σ l ρ : Type) where
  nx : σ → DEnv → Prop
  lp : l → DEnv → Prop
  rt : ρ → D → DEnv → Prop
  rl : ρ → List D → DEnv → Prop
  ex : DEnv → Prop
section
variable {α β σ τ l ρ : Type}
def R (m : Ct σ l ρ) (f : Fl) (Q : Qs σ l ρ) : Prop := match m with
  | .nx s => ∃ e, f = .nx e ∧ Q.nx s e
  | .rt r => (∃ d e, f = .rt d e ∧ Q.rt r d e) ∨ ∃ d e, f = .rl d e ∧ Q.rl r d e
  | .bk s => ∃ e, f = .bk e ∧ Q.lp s e
  | .ct s => ∃ e, f = .ct e ∧ Q.lp s e
  | .ex x => ∃ e, f = .ex x e ∧ Q.ex e
  | .stuck => True
def RS (c : Sps) (f : DEnv → Fl) (m : Ct σ l ρ) (Q : Qs σ l ρ) : Prop := ∀ e, Fits c e → R m (f e) Q
def FK {A : Type} (de : DEnv → Rs A) (k : A → DEnv → Fl) : DEnv → Fl := fun e => (de e).fl k
/-- a pure form -/
def EP {A : Type} (c : Sps) (de : DEnv → Rs A) (d : A) : Prop := ∀ e, Fits c e → de e = .ok d e
variable {c : Sps} {m : Ct σ l ρ} {Q : Qs σ l ρ}
theorem rk_pure {A : Type} {de : DEnv → Rs A} {k : A → DEnv → Fl} {d : A} (h : EP c de d) (g : RS c (k d) m Q) : RS c (FK de k) m Q := fun e he => by
  show R m ((de e).fl k) Q
  rw [h e he]
  exact g e he
theorem rk_put {A : Type} {o : Option A} {z : A} {k : A → DEnv → Fl} (h : o = some z) (g : RS c (k z) m Q) : RS c (FK (put o) k) m Q := fun e he => by
  show R m ((put o e).fl k) Q
  rw [h]
  exact g e he
/-- a partial operation -/
theorem rk_opt {A : Type} {o : Option A} {n : N α} {f : α → A} {k : A → DEnv → Fl} {M : α → Ct σ l ρ} (h : ∀ a, n = .ok a → o = some (f a)) (hx : ∀ x, n ≠ .ex x) (g : ∀ a, RS c (k (f a)) (M a) Q) : RS c (FK (put o) k) (n.ct M) Q := fun e he => by
  show R (n.ct M) ((put o e).fl k) Q
  cases q : n with
  | ok a => rw [h a q]; exact g a e he
  | ex x => exact absurd q (hx x)
  | stuck => exact trivial
theorem fl_bind {A B : Type} (r : Rs A) (f : A → DEnv → Rs B) (k : B → DEnv → Fl) : (r.bind f).fl k = r.fl fun a e => (f a e).fl k := by cases r <;> rfl
theorem rk_bin {da db : DE} {f : D → D → Option D} {k : D → DEnv → Fl} (g : RS c (FK da fun x => FK db fun y => FK (put (f x y)) k) m Q) : RS c (FK (eBin f da db) k) m Q := fun e he => by
  have := g e he
  unfold FK at this ⊢
  unfold eBin
  simp only [fl_bind] at this ⊢
  exact this
theorem rk_binL {da db : DE} {f : D → D → Option (List D)} {k : List D → DEnv → Fl} (g : RS c (FK da fun x => FK db fun y => FK (put (f x y)) k) m Q) : RS c (FK (eBinL f da db) k) m Q := fun e he => by
  have := g e he
  unfold FK at this ⊢
  unfold eBinL
  simp only [fl_bind] at this ⊢
  exact this
theorem rk_anil {k : List D → DEnv → Fl} (g : RS c (k []) m Q) : RS c (FK aNil k) m Q := g
theorem rk_acons {de : DE} {da : DA} {k : List D → DEnv → Fl} (g : RS c (FK de fun x => FK da fun xs => k (x :: xs)) m Q) : RS c (FK (aCons de da) k) m Q := fun e he => by
  have := g e he
  unfold FK at this ⊢
  unfold aCons
  simp only [fl_bind] at this ⊢
  exact this
theorem rk_conv {f f' : DEnv → Fl} (h : ∀ e, f e = f' e) (g : RS c f' m Q) : RS c f m Q := fun e he => by rw [h e]; exact g e he
theorem rk_lst {da : DA} {k : List D → DEnv → Fl} (g : RS c (FK da fun xs => FK (put (if xs.length ≤ 100000 then some xs else none)) k) m Q) : RS c (FK (lLst da) k) m Q := rk_conv (fun e => by
  unfold FK lLst
  cases da e with
  | ok xs e1 =>
    show (if xs.length ≤ 100000 then Rs.ok xs e1 else .stuck).fl k = (put (if xs.length ≤ 100000 then some xs else none) e1).fl k
    split <;> rfl
  | ex _ _ => rfl
  | stuck => rfl) g
theorem rk_elst {da : DA} {k : D → DEnv → Fl} (g : RS c (FK da fun xs => k (.list xs)) m Q) : RS c (FK (eLst da) k) m Q := fun e he => by
  have := g e he
  unfold FK at this ⊢
  unfold eLst
  simp only [fl_bind] at this ⊢
  exact this
end
end NT
set_option Elab.async false
set_option linter.all false
set_option autoImplicit false
namespace NT
open PySem L2 DL LW
section
variable {c : Sps} {A B : Type}
theorem ep_var {i : Nat} {d : D} (h : c[i]? = some (.is (.v d)) := by rfl) : EP c (eVar i) d := fun e he => by
  unfold eVar
  rw [he.is h]
theorem ep_C {d : D} : EP c (eC d) d := fun _ _ => rfl
theorem ep_bin {da db : DE} {f : D → D → Option D} {x y z : D} (ha : EP c da x) (hb : EP c db y) (hf : f x y = some z := by rfl) : EP c (eBin f da db) z := fun e he => by
  unfold eBin
  rw [ha e he, bind_ok, hb e he, bind_ok, hf]
  rfl
theorem ep_cb {da : DA} {f : List D → Option D} {x : List D} {z : D} (ha : EP c da x) (hf : f x = some z := by rfl) : EP c (eCB f da) z := fun e he => by
  unfold eCB
  rw [ha e he, bind_ok, hf]
  rfl
theorem ep_anil : EP c aNil [] := fun _ _ => rfl
theorem ep_acons {de : DE} {da : DA} {x : D} {xs : List D} (ha : EP c de x) (hb : EP c da xs) : EP c (aCons de da) (x :: xs) := fun e he => by
  unfold aCons
  rw [ha e he, bind_ok, hb e he]
  rfl
theorem ep_lst {da : DA} {xs : List D} (ha : EP c da xs) (h : Nat.ble xs.length 100000 = true := by rfl) : EP c (lLst da) xs := fun e he => by
  unfold lLst
  rw [ha e he, bind_ok, if_pos (Nat.le_of_ble_eq_true h)]
theorem ep_elst {da : DA} {xs : List D} (ha : EP c da xs) : EP c (eLst da) (.list xs) := fun e he => by
  unfold eLst
  rw [ha e he, bind_ok]
theorem ep_tst {de : DE} {b : Bool} (ha : EP c de (.bool b)) : EP c (tTst de) b := fun e he => by
  unfold tTst
  rw [ha e he, bind_ok]
def slotD (c : Sps) (i : Nat) : Option D := match c[i]? with
  | some (.is (.v d)) => some d
  | some (.is (.l xs)) => some (.list xs)
  | some (.is (.p xs)) => some (.list xs)
  | _ => none
theorem slotD_at {i : Nat} {d : D} (h : slotD c i = some d) {e : DEnv} (he : Fits c e) : known i e = true ∧ ∀ k, ixAt i k e = put (dIx d k) e := by
  unfold slotD at h
  split at h <;> cases h
  all_goals
    rename_i q
    have := he.is q
    exact ⟨by unfold known; rw [this], fun k => by unfold ixAt; rw [this]⟩
end
section
variable {κ β : Type} [DecidableEq κ]
/-- keys of a kind -/
class KeyE (f : κ → D) where
  key : κ → Key
  keyOf : ∀ k, DL.keyOf (f k) = some (key k)
  kEq : ∀ a k, DL.kEq (f a) (key k) = decide (a = k)
  kD : ∀ k, DL.kD (key k) = f k
end
instance : KeyE eI where
  key := .inl
  keyOf := fun _ => rfl
  kEq := fun a k => by simp [DL.kEq, Bool.beq_eq_decide_eq]
  kD := fun _ => rfl
instance : KeyE eS where
  key := .inr
  keyOf := fun _ => rfl
  kEq := fun a k => by simp [DL.kEq, Bool.beq_eq_decide_eq]
  kD := fun _ => rfl
section
variable {α β σ τ l ρ : Type} {c : Sps} {m : Ct σ l ρ} {Q : Qs σ l ρ}
def boolOf : D → Option Bool
  | .bool b => some b
  | _ => none
theorem rk_tst {de : DE} {k : Bool → DEnv → Fl} (g : RS c (FK de fun d => FK (put (boolOf d)) k) m Q) : RS c (FK (tTst de) k) m Q := rk_conv (fun e => by
  unfold FK tTst
  cases de e with
  | ok d e1 => cases d <;> rfl
  | ex _ _ => rfl
  | stuck => rfl) g
theorem rk_tru {de : DE} {k : Bool → DEnv → Fl} (g : RS c (FK de fun d => FK (put (truth d)) k) m Q) : RS c (FK (tTru de) k) m Q := rk_conv (fun e => by
  unfold FK DL.tTru
  cases de e <;> rfl) g
theorem rk_notT {t : DT} {k : Bool → DEnv → Fl} (g : RS c (FK t fun b => k (!b)) m Q) : RS c (FK (tNotD t) k) m Q := rk_conv (fun e => by
  unfold FK tNotD
  cases t e <;> rfl) g
def ifF (b : Bool) (f g : DEnv → Fl) : DEnv → Fl := match b with
  | true => f
  | false => g
theorem rk_ifF {b : Bool} {f g : DEnv → Fl} {m1 m2 : Ct σ l ρ} (h1 : RS c f m1 Q) (h2 : RS c g m2 Q) : RS c (ifF b f g) (if b = true then m1 else m2) Q := by
  cases b
  · exact h2
  · exact h1
theorem rk_and {da db : DE} {k : D → DEnv → Fl} (g : RS c (FK da fun x => FK (put (boolOf x)) fun b => ifF b (FK db k) (k (.bool false))) m Q) : RS c (FK (eAnd da db) k) m Q := rk_conv (fun e => by
  unfold FK eAnd
  cases da e with
  | ok d e1 => cases d <;> first | rfl | (rename_i b; cases b <;> rfl)
  | ex _ _ => rfl
  | stuck => rfl) g
theorem rk_not {da : DE} {k : D → DEnv → Fl} (g : RS c (FK da fun x => FK (put (boolOf x)) fun b => k (.bool (!b))) m Q) : RS c (FK (eNot da) k) m Q := rk_conv (fun e => by
  unfold FK eNot
  cases da e with
  | ok d e1 => cases d <;> rfl
  | ex _ _ => rfl
  | stuck => rfl) g
theorem rk_isi {T : String} {de : DE} {k : D → DEnv → Fl} (g : RS c (FK de fun d => FK (put (isiD T d)) k) m Q) : RS c (FK (eIsi T de) k) m Q := rk_conv (fun e => by
  unfold FK eIsi
  cases de e <;> rfl) g
theorem rk_ptN {k : Option Int → DEnv → Fl} (g : RS c (k none) m Q) : RS c (FK (Pt.run .no) k) m Q := g
def intOf : D → Option Int
  | .int i => some i
  | _ => none
theorem rk_ptS {de : DE} {k : Option Int → DEnv → Fl} (g : RS c (FK de fun d => FK (put (intOf d)) fun i => k (some i)) m Q) : RS c (FK (Pt.run (.of de)) k) m Q := rk_conv (fun e => by
  unfold FK Pt.run
  simp only
  cases de e with
  | ok d e1 => cases d <;> rfl
  | ex _ _ => rfl
  | stuck => rfl) g
theorem rk_sl {de : DE} {p q : Pt} {k : D → DEnv → Fl} (g : RS c (FK de fun d => FK p.run fun lo => FK q.run fun hi => FK (put (dSl d lo hi)) k) m Q) : RS c (FK (eSl de p q) k) m Q := rk_conv (fun e => by
  unfold FK eSl
  simp only [fl_bind]) g
theorem rk_varL {i : Nat} {xs : List D} {k : D → DEnv → Fl} (g : RS (c.set i (.is (.v (.list xs)))) (k (.list xs)) m Q) (h : c[i]? = some (.is (.l xs)) := by rfl) : RS c (FK (eVar i) k) m Q := fun e he => by
  unfold FK eVar
  rw [he.is h]
  exact g _ (he.set i rfl)
def knownC (c : Sps) (i : Nat) : Bool := match c[i]? with
  | some (.is .no) => false
  | some (.is _) => true
  | _ => false
theorem knownC_at {i : Nat} (h : knownC c i = true) {e : DEnv} (he : Fits c e) : known i e = true := by
  unfold knownC at h
  split at h <;> first | cases h | skip
  rename_i s hn q
  have := he.is q
  unfold known
  rw [this]
  cases s <;> first | rfl | (exact (hn q).elim) | (exact (hn rfl).elim)
theorem rk_ixN {i : Nat} {db : DE} {k : D → DEnv → Fl} (g : RS c (FK db fun kk => FK (ixAt i kk) k) m Q) (h : knownC c i = true := by rfl) : RS c (FK (eIxN i db) k) m Q := fun e he => by
  have := g e he
  unfold FK at this ⊢
  unfold eIxN
  rw [knownC_at h he, if_pos rfl, fl_bind]
  exact this
theorem rk_ixAt {i : Nat} {kk d : D} {k : D → DEnv → Fl} (g : RS c (FK (put (dIx d kk)) k) m Q) (h : slotD c i = some d := by rfl) : RS c (FK (ixAt i kk) k) m Q := fun e he => by
  have := g e he
  unfold FK at this ⊢
  rw [(slotD_at h he).2]
  exact this
def idx (xs : List α) (i : Int) : N α := ofO (atI xs i)
theorem ofO_ex {o : Option α} (x : Xc) : ofO o ≠ .ex x := by cases o <;> exact fun h => by cases h
theorem ofO_ok {o : Option α} {a : α} (h : ofO o = .ok a) : o = some a := by cases o <;> cases h; rfl
theorem rk_ixL {f : α → D} {xs : List α} {i : Int} {k : D → DEnv → Fl} {M : α → Ct σ l ρ} (g : ∀ a, RS c (k (f a)) (M a) Q) : RS c (FK (put (dIx (eLs f xs) (.int i))) k) ((idx xs i).ct M) Q :=
  rk_opt (f := f) (fun a h => by show atI (xs.map f) i = _; rw [atI_map, ofO_ok h]; rfl) (fun x => ofO_ex x) g
theorem rk_gd {A : Type} {p : Prop} [Decidable p] {a : A} {k : A → DEnv → Fl} {M : Ct σ l ρ} (g : RS c (k a) M Q) : RS c (FK (put (if p then some a else none)) k) ((gd (decide p)).ct fun _ => M) Q := fun e he => by
  unfold FK
  by_cases h : p
  · rw [if_pos h, decide_eq_true h]; exact g e he
  · rw [if_neg h, decide_eq_false h]; exact trivial
def catG (xs ys : List α) : N Unit := gd (decide (xs.length + ys.length ≤ 100000))
theorem rk_catL {f : α → D} {xs ys : List α} {k : List D → DEnv → Fl} {M : Ct σ l ρ} (g : RS c (k ((xs ++ ys).map f)) M Q) : RS c (FK (put (dCat (eLs f xs) (eLs f ys))) k) ((catG xs ys).ct fun _ => M) Q := by
  show RS c (FK (put (if (xs.map f).length + (ys.map f).length ≤ 100000 then some (xs.map f ++ ys.map f) else none)) k) _ Q
  rw [List.length_map, List.length_map, ← List.map_append]
  exact rk_gd g
def catS (x y : Str) : N Str := if x.length + y.length ≤ 100000 then .ok (x ++ y) else .stuck
theorem rk_catS {x y : Str} {k : D → DEnv → Fl} {M : Str → Ct σ l ρ} (g : ∀ z, RS c (k (eS z)) (M z) Q) : RS c (FK (put (dAdd (eS x) (eS y))) k) ((catS x y).ct M) Q := by
  refine rk_opt (f := eS) (fun a h => ?_) (fun z => ?_) g
  · unfold catS at h
    show (if x.length + y.length ≤ 100000 then some (PyData.str (x ++ y)) else none) = _
    split at h <;> cases h
    rename_i q
    rw [if_pos q]
  · unfold catS; split <;> exact fun h => by cases h
noncomputable def mulN (i j : Int) : N Int := @ite _ (mulOk i j = true) (Classical.propDecidable _) (.ok (i * j)) .stuck
noncomputable def divN (i j : Int) : N Int := @ite _ (divOk j = true) (Classical.propDecidable _) (.ok (i / j)) .stuck
noncomputable def modN (i j : Int) : N Int := if 0 < j then .ok (i % j) else .stuck
noncomputable def powN (i j : Int) : N Int := @ite _ (powOk i j = true) (Classical.propDecidable _) (.ok (i ^ j.toNat)) .stuck
theorem rk_op2 {op : D → D → Option D} {p : Prop} {d1 d2 : Decidable p} {i j r : Int} {k : D → DEnv → Fl} {M : Int → Ct σ l ρ} (ho : op (.int i) (.int j) = @ite _ p d1 (some (.int r)) none) (g : ∀ z, RS c (k (eI z)) (M z) Q) : RS c (FK (put (op (.int i) (.int j))) k) ((@ite _ p d2 (NT.N.ok r) .stuck).ct M) Q := by
  rw [ho]
  by_cases h : p
  · rw [if_pos h, if_pos h]; exact g r
  · rw [if_neg h, if_neg h]; exact fun _ _ => trivial
theorem rk_mul {i j : Int} {k : D → DEnv → Fl} {M : Int → Ct σ l ρ} (g : ∀ z, RS c (k (eI z)) (M z) Q) : RS c (FK (put (dMul (eI i) (eI j))) k) ((mulN i j).ct M) Q := rk_op2 rfl g
theorem rk_div {i j : Int} {k : D → DEnv → Fl} {M : Int → Ct σ l ρ} (g : ∀ z, RS c (k (eI z)) (M z) Q) : RS c (FK (put (dFdiv (eI i) (eI j))) k) ((divN i j).ct M) Q := rk_op2 rfl g
theorem rk_mod {i j : Int} {k : D → DEnv → Fl} {M : Int → Ct σ l ρ} (g : ∀ z, RS c (k (eI z)) (M z) Q) : RS c (FK (put (dMod (eI i) (eI j))) k) ((modN i j).ct M) Q := rk_op2 rfl g
theorem rk_pow {i j : Int} {k : D → DEnv → Fl} {M : Int → Ct σ l ρ} (g : ∀ z, RS c (k (eI z)) (M z) Q) : RS c (FK (put (dPow (eI i) (eI j))) k) ((powN i j).ct M) Q := rk_op2 rfl g
/-- one of these: data compared -/
def eqN (x y : D) : N Bool := if SeqAt.shaped x = true ∧ SeqAt.shaped y = true then .ok (PyData.eqv x y) else .stuck
theorem rk_eqD {x y : D} {k : D → DEnv → Fl} {M : Bool → Ct σ l ρ} (g : ∀ b, RS c (k (eB b)) (M b) Q) : RS c (FK (put (dEq x y)) k) ((eqN x y).ct M) Q := by
  unfold dEq eqN
  by_cases h : SeqAt.shaped x = true ∧ SeqAt.shaped y = true
  · rw [if_pos h, if_pos h]; exact g _
  · rw [if_neg h, if_neg h]; exact fun _ _ => trivial
theorem rk_neD {x y : D} {k : D → DEnv → Fl} {M : Bool → Ct σ l ρ} (g : ∀ b, RS c (k (eB (!b))) (M b) Q) : RS c (FK (put (dNe x y)) k) ((eqN x y).ct M) Q := by
  unfold dNe eqN
  by_cases h : SeqAt.shaped x = true ∧ SeqAt.shaped y = true
  · rw [if_pos h, if_pos h]; exact g _
  · rw [if_neg h, if_neg h]; exact fun _ _ => trivial
def rgI (lo hi : Int) : List Int := (List.range (hi - lo).toNat).map fun k => lo + (k : Nat)
theorem rgI_D (lo hi : Int) : rngD lo hi = (rgI lo hi).map eI := by
  unfold rngD rgI
  rw [List.map_map]
  rfl
noncomputable def rngN (j : Int) : N (List Int) := if I62 j then .ok (rgI 0 j) else .stuck
theorem rk_rng {da : DA} {j : Int} {k : List D → DEnv → Fl} {M : List Int → Ct σ l ρ} (ha : EP c da [eI j]) (g : ∀ xs : List Int, RS c (k (xs.map eI)) (M xs) Q) : RS c (FK (iRng1 da) k) ((rngN j).ct M) Q := fun e he => by
  unfold FK DL.iRng1 rngN
  rw [ha e he, bind_ok]
  simp only [int1]
  by_cases h : I62 j
  · rw [if_pos h, if_pos h, rgI_D]; exact g _ e he
  · rw [if_neg h, if_neg h]; exact trivial
end
end NT
set_option Elab.async false
set_option linter.all false
set_option autoImplicit false
namespace NT
open PySem L2 DL LW
section
variable {α β σ τ l ρ : Type} {c : Sps} {m : Ct σ l ρ} {Q : Qs σ l ρ}
def getC (c : Sps) (i : Nat) : Option (List D) := match c[i]? with
  | some (.is (.l xs)) => some xs
  | some (.is (.p xs)) => some xs
  | _ => none
def reC (c : Sps) (i : Nat) (ys : List D) : Sps := match c[i]? with
  | some (.is (.l _)) => c.set i (.is (.l ys))
  | some (.is (.p _)) => c.set i (.is (.p ys))
  | _ => c
theorem getC_at {i : Nat} {xs : List D} (h : getC c i = some xs) {e : DEnv} (he : Fits c e) : getL i e = some xs ∧ ∀ ys, Fits (reC c i ys) (putL i ys e) := by
  unfold getC at h
  split at h <;> cases h
  all_goals
    rename_i q
    have := he.is q
    refine ⟨by unfold getL; rw [this], fun ys => ?_⟩
    unfold reC putL
    rw [this, q]
    exact he.set i rfl
def moK (i : Nat) (f : List D → List D → Option (D × List D)) (args : List D) (k : D → DEnv → Fl) : DEnv → Fl := fun e => match getL i e with
  | some xs => match f xs args with
    | some (z, ys) => k z (putL i ys e)
    | none => .stuck
  | none => .stuck
theorem rk_mo {i : Nat} {f : List D → List D → Option (D × List D)} {da : DA} {k : D → DEnv → Fl} {xs : List D} (g : RS c (FK da fun args => moK i f args k) m Q) (h : getC c i = some xs := by rfl) : RS c (FK (eMO i f da) k) m Q := fun e he => by
  have := g e he
  unfold FK at this ⊢
  unfold eMO
  rw [(getC_at h he).1, if_pos (by rfl)]
  have e2 : ∀ args e1, (match getL i e1 with
      | some xs => match f xs args with
        | some (z, ys) => Rs.ok z (putL i ys e1)
        | none => .stuck
      | none => .stuck).fl k = moK i f args k e1 := fun args e1 => by
    unfold moK
    cases getL i e1 with
    | none => rfl
    | some xs =>
      dsimp only
      cases f xs args <;> rfl
  have e3 := funext fun a => funext (e2 a)
  rw [fl_bind]
  rw [← e3] at this
  exact this
theorem rk_moX {i : Nat} {f : List D → List D → Option (D × List D)} {args : List D} {k : D → DEnv → Fl} {fe : α → D} {xs : List α} {n : N β} {v : β → D} {ys : β → List α} {M : β → Ct σ l ρ} (hf : ∀ a, n = .ok a → f (xs.map fe) args = some (v a, (ys a).map fe)) (hx : ∀ x, n ≠ .ex x) (g : ∀ a, RS (reC c i ((ys a).map fe)) (k (v a)) (M a) Q) (h : getC c i = some (xs.map fe) := by rfl) : RS c (moK i f args k) (n.ct M) Q := fun e he => by
  unfold moK
  obtain ⟨h1, h2⟩ := getC_at h he
  rw [h1]
  cases q : n with
  | ok a => simp only [hf a q]; exact g a _ (h2 _)
  | ex x => exact absurd q (hx x)
  | stuck => exact trivial
def appN (xs : List α) (a : α) : N (List α) := if xs.length < 100000 then .ok (xs ++ [a]) else .stuck
theorem rk_app {fe : α → D} {xs : List α} {a : α} {i : Nat} {k : D → DEnv → Fl} {M : List α → Ct σ l ρ} (g : ∀ ys, RS (reC c i (ys.map fe)) (k .none) (M ys) Q) (h : getC c i = some (xs.map fe) := by rfl) : RS c (moK i mAppend [fe a] k) ((appN xs a).ct M) Q :=
  rk_moX (v := fun _ => .none) (ys := id) (fun ys hy => by
    unfold appN at hy
    split at hy <;> cases hy
    rename_i q
    show (if (xs.map fe).length < 100000 then some (PyData.none, xs.map fe ++ [fe a]) else none) = _
    rw [List.length_map, if_pos q]
    simp) (fun x => by unfold appN; split <;> exact fun h => by cases h) g h
def stb (c : Sps) (i : Nat) : Bool := match c[i]? with
  | some (.is s) => DL.np s
  | some _ => true
  | none => false
theorem stb_at {i : Nat} (h : stb c i = true) {e : DEnv} (he : Fits c e) (s : Sl) : setV i s e = some (e.set i s) := by
  have go : ∀ t, e[i]? = some t → DL.np t = true → setV i s e = some (e.set i s) := fun t h1 h2 => by
    unfold setV
    rw [h1]
    cases t <;> first | rfl | cases h2
  unfold stb at h
  split at h
  · rename_i q; exact go _ (he.is q) h
  · rename_i x hx q
    obtain ⟨t, a, b⟩ := he.get q
    refine go t a ?_
    cases x with
    | is s => exact absurd rfl (hx s)
    | np => exact b
    | nw => cases t with
      | p xs => exact absurd b (by intro z; cases z)
      | _ => rfl
  · cases h
/-- a target -/
def GS (c : Sps) (g : DG) (d : D) (c' : Sps) : Prop := ∀ e, Fits c e → ∃ e', g d e = some e' ∧ Fits c' e'
theorem gs_N {i : Nat} {d : D} (h : stb c i = true := by rfl) : GS c (gN i) d (c.set i (.is (.v d))) := fun e he => ⟨_, stb_at h he _, he.set i rfl⟩
def asgK (g : DG) (b : DS) (d : D) : DEnv → Fl := fun e => (match g d e with
  | some e2 => Fl.nx e2
  | none => .stuck).seq b
theorem rs_asg {de : DE} {g : DG} {b : DS} (h : RS c (FK de (asgK g b)) m Q) : RS c (sSeq (sAsg de g) b) m Q := rk_conv (fun e => by
  unfold FK sSeq sAsg
  cases de e <;> rfl) h
theorem rk_asg {g : DG} {d : D} {b : DS} {c' : Sps} (hg : GS c g d c') (h : RS c' b m Q) : RS c (asgK g b d) m Q := fun e he => by
  obtain ⟨e', a, f⟩ := hg e he
  unfold asgK
  rw [a]
  exact h e' f
theorem rk_asgN {i : Nat} {d : D} {b : DS} (h : RS (c.set i (.is (.v d))) b m Q) (hs : stb c i = true := by rfl) : RS c (asgK (gN i) b d) m Q := rk_asg (gs_N hs) h
def asgLK (i : Nat) (b : DS) (xs : List D) : DEnv → Fl := fun e => (match setV i (.l xs) e with
  | some e2 => Fl.nx e2
  | none => .stuck).seq b
theorem rs_asgL {dl : DA} {i : Nat} {b : DS} (h : RS c (FK dl (asgLK i b)) m Q) : RS c (sSeq (sAsgL i dl) b) m Q := rk_conv (fun e => by
  unfold FK sSeq sAsgL
  cases dl e <;> rfl) h
theorem rk_asgL {i : Nat} {xs : List D} {b : DS} (h : RS (c.set i (.is (.l xs))) b m Q) (hs : stb c i = true := by rfl) : RS c (asgLK i b xs) m Q := fun e he => by
  unfold asgLK
  rw [stb_at hs he]
  exact h _ (he.set i rfl)
def knK (i : Nat) (f : DEnv → Fl) : DEnv → Fl := fun e => if known i e = true then f e else .stuck
theorem rk_kn {i : Nat} {f : DEnv → Fl} (g : RS c f m Q) (h : knownC c i = true := by rfl) : RS c (knK i f) m Q := fun e he => by
  unfold knK
  rw [knownC_at h he, if_pos rfl]
  exact g e he
def setK (i : Nat) (v kk : D) (b : DS) : DEnv → Fl := fun e2 => (match getL i e2, kk with
  | some xs, .int n => match ixN xs.length n with
    | some j => Fl.nx (putL i (xs.set j v) e2)
    | none => .stuck
  | _, _ => .stuck).seq b
theorem rs_setO {i : Nat} {dk dv : DE} {b : DS} (g : RS c (FK dv fun v => knK i (FK dk fun kk => setK i v kk b)) m Q) : RS c (sSeq (sSetO i dk dv) b) m Q := rk_conv (fun e => by
  unfold FK sSeq sSetO
  cases dv e with
  | ok v e1 =>
    simp only [fl_ok, knK]
    cases known i e1
    · rfl
    · simp only [if_true]
      cases dk e1 <;> rfl
  | ex _ _ => rfl
  | stuck => rfl) g
def setN (xs : List α) (n : Int) (a : α) : N (List α) := match ixN xs.length n with
  | some j => .ok (xs.set j a)
  | none => .stuck
theorem rk_set {i : Nat} {fe : α → D} {a : α} {n : Int} {xs : List α} {b : DS} {M : List α → Ct σ l ρ} (g : ∀ ys : List α, RS (reC c i (ys.map fe)) b (M ys) Q) (h : getC c i = some (xs.map fe) := by rfl) : RS c (setK i (fe a) (eI n) b) ((setN xs n a).ct M) Q := fun e he => by
  obtain ⟨h1, h2⟩ := getC_at h he
  unfold setK setN
  rw [h1]
  simp only [List.length_map]
  cases ixN xs.length n with
  | none => exact trivial
  | some j => simp only [← List.map_set]; exact g _ _ (h2 _)
theorem rs_last {a : DS} (h : RS c (sSeq a sNx) m Q) : RS c a m Q := rk_conv (fun e => by
  unfold sSeq
  cases a e <;> rfl) h
theorem rs_nx {s : σ} (h : ∀ e, Fits c e → Q.nx s e) : RS c sNx (.nx s) Q := fun e he => ⟨e, rfl, h e he⟩
def retK (d : D) : DEnv → Fl := fun e => .rt d e
def retL (d : List D) : DEnv → Fl := fun e => .rl d e
theorem rs_ret {de : DE} {b : DS} (h : RS c (FK de retK) m Q) : RS c (sSeq (sRet de) b) m Q := rk_conv (fun e => by
  unfold FK sSeq sRet
  cases de e <;> rfl) h
theorem rs_retL {de : DA} {b : DS} (h : RS c (FK de retL) m Q) : RS c (sSeq (sRetL de) b) m Q := rk_conv (fun e => by
  unfold FK sSeq sRetL
  cases de e <;> rfl) h
theorem rk_ret {d : D} {r : ρ} (h : ∀ e, Fits c e → Q.rt r d e) : RS c (retK d) (.rt r : Ct σ l ρ) Q := fun e he => .inl ⟨d, e, rfl, h e he⟩
theorem rk_retL {d : List D} {r : ρ} (h : ∀ e, Fits c e → Q.rl r d e) : RS c (retL d) (.rt r : Ct σ l ρ) Q := fun e he => .inr ⟨d, e, rfl, h e he⟩
theorem rs_drop {de : DE} {b : DS} (h : RS c (FK de fun _ => b) m Q) : RS c (sSeq (sDrop de) b) m Q := rk_conv (fun e => by
  unfold FK sSeq sDrop
  cases de e <;> rfl) h
theorem rs_if {t : DT} {a b r : DS} (h : RS c (FK t fun z => ifF z (sSeq a r) (sSeq b r)) m Q) : RS c (sSeq (sIf t a b) r) m Q := rk_conv (fun e => by
  unfold FK sSeq sIf
  cases t e with
  | ok z e1 => cases z <;> rfl
  | ex _ _ => rfl
  | stuck => rfl) h
theorem rs_if0 {t : DT} {a b : DS} (h : RS c (FK t fun z => ifF z a b) m Q) : RS c (sIf t a b) m Q := rk_conv (fun e => by
  unfold FK sIf
  cases t e with
  | ok z e1 => cases z <;> rfl
  | ex _ _ => rfl
  | stuck => rfl) h
theorem rs_nxs {b : DS} (h : RS c b m Q) : RS c (sSeq sNx b) m Q := h
theorem rs_seq {a b : DS} {m1 : Ct τ l ρ} {K : τ → Ct σ l ρ} {c1 : τ → Sps} (h : RS c a m1 { nx := fun s e => Fits (c1 s) e, lp := Q.lp, rt := Q.rt, rl := Q.rl, ex := Q.ex }) (h2 : ∀ s, RS (c1 s) b (K s) Q) : RS c (sSeq a b) (m1.sq K) Q := fun e he => by
  have h' := h e he
  unfold sSeq
  cases m1 with
  | nx s => obtain ⟨e1, q, f⟩ := h'; rw [q]; exact h2 s e1 f
  | rt r =>
    rcases h' with ⟨d, e1, q, f⟩ | ⟨d, e1, q, f⟩
    · rw [q]; exact .inl ⟨d, e1, rfl, f⟩
    · rw [q]; exact .inr ⟨d, e1, rfl, f⟩
  | bk s => obtain ⟨e1, q, f⟩ := h'; rw [q]; exact ⟨e1, rfl, f⟩
  | ct s => obtain ⟨e1, q, f⟩ := h'; rw [q]; exact ⟨e1, rfl, f⟩
  | ex s => obtain ⟨e1, q, f⟩ := h'; rw [q]; exact ⟨e1, rfl, f⟩
  | stuck => exact trivial
end
end NT
set_option Elab.async false
set_option linter.all false
set_option autoImplicit false
namespace NT
open PySem L2 DL LW
section
variable {α β σ τ l ρ : Type} {c : Sps} {m : Ct σ l ρ} {Q : Qs σ l ρ}
abbrev QV (v : β → D) (c' : β → Sps) (ex : DEnv → Prop) : Qs Unit Unit β := { nx := fun _ _ => False, lp := fun _ _ => False, rt := fun r d e => d = v r ∧ Fits (c' r) e, rl := fun _ _ _ => False, ex := ex }
theorem rk_unit {de : DE} {k : D → DEnv → Fl} {mu : Ct Unit Unit β} {v : β → D} {c' : β → Sps} {M : β → Ct σ l ρ} (hu : RS c (FK de retK) mu (QV v c' Q.ex)) (g : ∀ r, RS (c' r) (k (v r)) (M r) Q) : RS c (FK de k) (mu.fn.ct M) Q := fun e he => by
  have h := hu e he
  unfold FK at h ⊢
  cases mu with
  | nx s => obtain ⟨_, _, f⟩ := h; exact f.elim
  | bk s => obtain ⟨_, _, f⟩ := h; exact f.elim
  | ct s => obtain ⟨_, _, f⟩ := h; exact f.elim
  | stuck => exact trivial
  | ex x =>
    obtain ⟨e', q, f⟩ := h
    cases w : de e with
    | ok d e1 => rw [w] at q; cases q
    | ex y e1 => rw [w] at q; cases q; exact ⟨_, rfl, f⟩
    | stuck => rw [w] at q; cases q
  | rt r =>
    rcases h with ⟨d, e', q, f1, f2⟩ | ⟨_, _, _, f⟩
    · cases w : de e with
      | ok d e1 =>
        rw [w] at q
        cases q
        rw [f1]
        exact g r _ f2
      | ex y e1 => rw [w] at q; cases q
      | stuck => rw [w] at q; cases q
    · exact f.elim
def RF (m : N ρ) (fo : Fo) (v : ρ → D) (outs : ρ → DEnv) : Prop := match m with
  | .ok r => fo = .ok (v r) (outs r)
  | .ex x => ∃ o, fo = .ex x o
  | .stuck => True
def RFl (m : N ρ) (fo : Fo) (v : ρ → List D) (outs : ρ → DEnv) : Prop := match m with
  | .ok r => fo = .okl (v r) (outs r)
  | .ex x => ∃ o, fo = .ex x o
  | .stuck => True
def callK (np : Nat) (F : Df) (k : D → DEnv → Fl) (as : List Ar) : DEnv → Fl := fun e => (if as.length = np then (callD F as e).rs else .stuck).fl k
def callKL (np : Nat) (F : Df) (k : List D → DEnv → Fl) (as : List Ar) : DEnv → Fl := fun e => (if as.length = np then (callD F as e).rl else .stuck).fl k
theorem rk_callN {np : Nat} {F : Df} {da : DAr} {k : D → DEnv → Fl} (g : RS c (FK da (callK np F k)) m Q) : RS c (FK (eCallN np F da) k) m Q := rk_conv (fun e => by
  unfold FK eCallN
  rw [fl_bind]
  rfl) g
theorem rk_callNL {np : Nat} {F : Df} {da : DAr} {k : List D → DEnv → Fl} (g : RS c (FK da (callKL np F k)) m Q) : RS c (FK (lCallN np F da) k) m Q := rk_conv (fun e => by
  unfold FK lCallN
  rw [fl_bind]
  rfl) g
theorem rk_rnil {k : List Ar → DEnv → Fl} (g : RS c (k []) m Q) : RS c (FK rNil k) m Q := g
theorem rk_rcons {de : DE} {da : DAr} {k : List Ar → DEnv → Fl} (g : RS c (FK de fun x => FK da fun xs => k (.d x :: xs)) m Q) : RS c (FK (rCons de da) k) m Q := rk_conv (fun e => by
  unfold FK rCons
  simp only [fl_bind]
  rfl) g
def lentC (c : Sps) (i : Nat) : Bool := match c[i]? with
  | some (.is s) => lentS s
  | _ => false
theorem lentC_at {i : Nat} (h : lentC c i = true) {e : DEnv} (he : Fits c e) : lent i e = true := by
  unfold lentC at h
  split at h
  · rename_i q; have := he.is q; unfold lent; rw [this]; exact h
  · cases h
def lendK (i : Nat) (k : List Ar → DEnv → Fl) (xs : List Ar) : DEnv → Fl := fun e => if lent i e = true then k (.s i :: xs) e else .stuck
theorem rk_lend {i : Nat} {da : DAr} {k : List Ar → DEnv → Fl} (g : RS c (FK da (lendK i k)) m Q) (h : lentC c i = true := by rfl) : RS c (FK (rLendC i da) k) m Q := fun e he => by
  have := g e he
  unfold FK at this ⊢
  unfold rLendC
  rw [lentC_at h he, if_pos rfl]
  cases w : da e with
  | ok xs e1 =>
    rw [w] at this
    show R m ((if lent i e1 = true then Rs.ok (.s i :: xs) e1 else .stuck).fl k) Q
    have h2 : R m (if lent i e1 = true then k (.s i :: xs) e1 else .stuck) Q := this
    cases hl : lent i e1 with
    | true => rw [hl] at h2; exact h2
    | false => rw [hl] at h2; exact h2
  | ex _ _ => rw [w] at this; exact this
  | stuck => rw [w] at this; exact this
theorem rk_lendK {i : Nat} {k : List Ar → DEnv → Fl} {xs : List Ar} (g : RS c (k (.s i :: xs)) m Q) (h : lentC c i = true := by rfl) : RS c (lendK i k xs) m Q := fun e he => by
  unfold lendK
  rw [lentC_at h he, if_pos rfl]
  exact g e he
def toC (c : Sps) : Ar → Sl
  | .d x => .v x
  | .g x => .f x
  | .s i => match c[i]? with
    | some (.is s) => lendS s
    | _ => .no
def lentAll (c : Sps) : List Ar → Bool
  | [] => true
  | .d _ :: as => lentAll c as
  | .g _ :: as => lentAll c as
  | .s i :: as => lentC c i && lentAll c as
theorem toC_at {e : DEnv} (he : Fits c e) : ∀ (as : List Ar), lentAll c as = true → as.map (toSl e) = as.map (toC c)
  | [], _ => rfl
  | .d x :: as, h => by rw [List.map_cons, List.map_cons, toC_at he as h]; rfl
  | .g x :: as, h => by rw [List.map_cons, List.map_cons, toC_at he as h]; rfl
  | .s i :: as, h => by
    have h' : lentC c i = true ∧ lentAll c as = true := by unfold lentAll at h; rwa [Bool.and_eq_true] at h
    rw [List.map_cons, List.map_cons, toC_at he as h'.2]
    congr 1
    have h1 := h'.1
    unfold lentC at h1
    split at h1
    · rename_i q; have := he.is q; simp only [toSl, this, toC, q]
    · cases h1
def convC (c : Sps) (i : Nat) (o : Sl) : Sp := match c[i]? with
  | some (.is s) => .is (conv s o)
  | _ => .np
def setBack (c : Sps) : List Ar → DEnv → Sps
  | .d _ :: as, _ :: os => setBack c as os
  | .g _ :: as, _ :: os => setBack c as os
  | .s i :: as, o :: os => setBack (c.set i (convC c i o)) as os
  | _, _ => c
theorem setBack_len : ∀ (as : List Ar) (os : DEnv) (c : Sps), (setBack c as os).length = c.length
  | [], _, _ => rfl
  | .d _ :: as, [], _ => rfl
  | .g _ :: as, [], _ => rfl
  | .s _ :: as, [], _ => rfl
  | .d _ :: as, _ :: os, c => setBack_len as os c
  | .g _ :: as, _ :: os, c => setBack_len as os c
  | .s i :: as, o :: os, c => by
    show (setBack (c.set i (convC c i o)) as os).length = _
    rw [setBack_len as os, List.length_set]
theorem lookS_none {j : Nat} : ∀ (as : List Ar) (os : DEnv), j ∉ slotsOf as → lookS j as os = none
  | [], _, _ => by simp [lookS]
  | .d _ :: as, [], _ => rfl
  | .g _ :: as, [], _ => rfl
  | .s _ :: as, [], _ => rfl
  | .d _ :: as, _ :: os, h => lookS_none as os (by simpa [slotsOf] using h)
  | .g _ :: as, _ :: os, h => lookS_none as os (by simpa [slotsOf] using h)
  | .s i :: as, o :: os, h => by
    have h' : ¬ j = i ∧ j ∉ slotsOf as := by simpa [slotsOf] using h
    show (if i = j then some o else lookS j as os) = none
    rw [if_neg (fun z => h'.1 z.symm)]
    exact lookS_none as os h'.2
theorem setBack_at : ∀ (as : List Ar) (os : DEnv) (c : Sps) (j : Nat), (slotsOf as).Nodup → (setBack c as os)[j]? = match lookS j as os with
    | some o => (c[j]?).map fun _ => convC c j o
    | none => c[j]?
  | [], os, c, j, _ => by simp [lookS, setBack]
  | .d _ :: as, [], c, j, _ => rfl
  | .g _ :: as, [], c, j, _ => rfl
  | .s _ :: as, [], c, j, _ => rfl
  | .d _ :: as, _ :: os, c, j, h => setBack_at as os c j (by simpa [slotsOf] using h)
  | .g _ :: as, _ :: os, c, j, h => setBack_at as os c j (by simpa [slotsOf] using h)
  | .s i :: as, o :: os, c, j, h => by
    have h' : i ∉ slotsOf as ∧ (slotsOf as).Nodup := by simpa [slotsOf] using h
    show (setBack (c.set i (convC c i o)) as os)[j]? = match (if i = j then some o else lookS j as os) with
      | some o => (c[j]?).map fun _ => convC c j o
      | none => c[j]?
    rw [setBack_at as os _ j h'.2]
    by_cases q : i = j
    · subst q
      rw [if_pos rfl, lookS_none as os h'.1]
      simp only
      by_cases li : i < c.length
      · rw [List.getElem?_set_self li, List.getElem?_eq_getElem li]; rfl
      · rw [List.getElem?_eq_none (by simpa using li), List.getElem?_eq_none (by simpa using li)]; rfl
    · rw [if_neg q]
      have e1 : (c.set i (convC c i o))[j]? = c[j]? := List.getElem?_set_ne q
      cases lookS j as os with
      | none => exact e1
      | some o2 =>
        have e4 : convC (c.set i (convC c i o)) j o2 = convC c j o2 := by
          generalize convC c i o = z at e1 ⊢
          unfold convC
          rw [e1]
        simp only [e4, e1]
theorem back_fits {e : DEnv} (he : Fits c e) {as : List Ar} (hl : lentAll c as = true) (hn : (slotsOf as).Nodup) (os : DEnv) : Fits (setBack c as os) (backD as os e) := by
  refine ⟨by rw [setBack_len, he.len]; simp [backD], fun j x t hx ht => ?_⟩
  rw [setBack_at as os c j hn] at hx
  have ht' : (e[j]?).map (fun s => match lookS j as os with
      | some o => conv s o
      | none => s) = some t := by
    unfold backD at ht
    rw [List.getElem?_mapIdx] at ht
    exact ht
  cases w : lookS j as os with
  | none =>
    rw [w] at hx ht'
    simp only at hx ht'
    have : e[j]? = some t := by simpa using ht'
    exact he.at_ j x t hx this
  | some o =>
    rw [w] at hx ht'
    simp only at hx ht'
    cases q : c[j]? with
    | none => rw [q] at hx; cases hx
    | some y =>
      rw [q] at hx
      have hx' : convC c j o = x := by simpa using hx
      have mem : j ∈ slotsOf as := by
        apply Classical.byContradiction
        intro z
        rw [lookS_none as os z] at w
        cases w
      have lj : lentC c j = true := by
        clear hx ht ht' w hx' q he hn
        induction as with
        | nil => simp [slotsOf] at mem
        | cons a as ih =>
          cases a with
          | d x => exact ih hl (by simpa [slotsOf] using mem)
          | g x => exact ih hl (by simpa [slotsOf] using mem)
          | s i =>
            have h' : lentC c i = true ∧ lentAll c as = true := by unfold lentAll at hl; rwa [Bool.and_eq_true] at hl
            rcases (by simpa [slotsOf] using mem : j = i ∨ j ∈ slotsOf as) with rfl | m
            · exact h'.1
            · exact ih h'.2 m
      unfold lentC at lj
      rw [q] at lj
      unfold convC at hx'
      rw [q] at hx'
      split at lj
      · rename_i z
        cases z
        have := he.is q
        rw [this] at ht'
        simp only [Option.map_some, Option.some.injEq] at ht'
        rw [← hx']
        exact ht'.symm
      · cases lj
def nodupB : List Nat → Bool
  | [] => true
  | x :: xs => !xs.contains x && nodupB xs
theorem nodupB_ok : ∀ {xs : List Nat}, nodupB xs = true → xs.Nodup
  | [], _ => List.nodup_nil
  | x :: xs, h => by
    have h' : (!xs.contains x && nodupB xs) = true := h
    rw [Bool.and_eq_true] at h'
    rw [List.nodup_cons]
    exact ⟨by simpa using h'.1, nodupB_ok h'.2⟩
def noS (as : List Ar) : Bool := as.all fun a => match a with
  | .d _ => true
  | .g _ => true
  | .s _ => false
theorem back_noS {as : List Ar} (h : noS as = true) (os : DEnv) (e : DEnv) : backD as os e = e := by
  have hs : slotsOf as = [] := by
    induction as with
    | nil => rfl
    | cons a as ih =>
      cases a with
      | d x => exact ih (by simpa [noS] using h)
      | g x => exact ih (by simpa [noS] using h)
      | s i => simp [noS] at h
  unfold backD
  apply List.ext_getElem?
  intro j
  rw [List.getElem?_mapIdx, lookS_none as os (by rw [hs]; simp)]
  simp
theorem rk_call {np : Nat} {F : Df} {as : List Ar} {k : D → DEnv → Fl} {args : DEnv} {mF : N β} {v : β → D} {outs : β → DEnv} {M : β → Ct σ l ρ} (hf : RF mF (F args) v outs) (g : ∀ r, RS (setBack c as (outs r)) (k (v r)) (M r) Q) (hx : ∀ e e', Fits c e → (noS as = true → e' = e) → Q.ex e') (ha : as.map (toC c) = args := by rfl) (hl : lentAll c as = true := by rfl) (hn : as.length = np := by rfl) (hd0 : nodupB (slotsOf as) = true := by rfl) : RS c (callK np F k as) (mF.ct M) Q := fun e he => by
  have hd := nodupB_ok hd0
  unfold callK callD
  rw [if_pos hn, if_pos hd, toC_at he as hl, ha]
  cases mF with
  | stuck => exact trivial
  | ok r =>
    have hf' : F args = .ok (v r) (outs r) := hf
    rw [hf']
    exact g r _ (back_fits he hl hd _)
  | ex x =>
    obtain ⟨o, ho⟩ := hf
    rw [ho]
    exact ⟨_, rfl, hx e _ he fun z => back_noS z o e⟩
theorem rk_callL {np : Nat} {F : Df} {as : List Ar} {k : List D → DEnv → Fl} {args : DEnv} {mF : N β} {v : β → List D} {outs : β → DEnv} {M : β → Ct σ l ρ} (hf : RFl mF (F args) v outs) (g : ∀ r, RS (setBack c as (outs r)) (k (v r)) (M r) Q) (hx : ∀ e e', Fits c e → (noS as = true → e' = e) → Q.ex e') (ha : as.map (toC c) = args := by rfl) (hl : lentAll c as = true := by rfl) (hn : as.length = np := by rfl) (hd0 : nodupB (slotsOf as) = true := by rfl) : RS c (callKL np F k as) (mF.ct M) Q := fun e he => by
  have hd := nodupB_ok hd0
  unfold callKL callD
  rw [if_pos hn, if_pos hd, toC_at he as hl, ha]
  cases mF with
  | stuck => exact trivial
  | ok r =>
    have hf' : F args = .okl (v r) (outs r) := hf
    rw [hf']
    exact g r _ (back_fits he hl hd _)
  | ex x =>
    obtain ⟨o, ho⟩ := hf
    rw [ho]
    exact ⟨_, rfl, hx e _ he fun z => back_noS z o e⟩
def slC (c : Sps) (i : Nat) : Sl := match c[i]? with
  | some (.is t) => t
  | _ => .no
def isC (c : Sps) (i : Nat) : Bool := match c[i]? with
  | some (.is _) => true
  | _ => false
def outsC (c : Sps) : Nat → DEnv → DEnv
  | i, s :: r => outOf s (slC c i) :: outsC c (i + 1) r
  | _, [] => []
def lendsC (c : Sps) : Nat → DEnv → Bool
  | i, s :: r => (s.pk == 0 || isC c i) && lendsC c (i + 1) r
  | _, [] => true
theorem outOf_no {s : Sl} (h : s.pk = 0) (t : Sl) : outOf s t = .no := by cases s <;> first | rfl | cases h
theorem slC_at {e : DEnv} (he : Fits c e) {i : Nat} (h : isC c i = true) : e.getD i Sl.no = slC c i := by
  unfold isC at h
  split at h
  · rename_i q
    unfold slC
    simp [List.getD, he.is q, q]
  · cases h
theorem outs_at {e : DEnv} (he : Fits c e) : ∀ (args : DEnv) (i : Nat), lendsC c i args = true → (args.mapIdx fun j a => outOf a (e.getD (i + j) Sl.no)) = outsC c i args
  | [], i, _ => rfl
  | a :: r, i, h => by
    rw [List.mapIdx_cons]
    have h' : (a.pk == 0 || isC c i) = true ∧ lendsC c (i + 1) r = true := by
      have : ((a.pk == 0 || isC c i) && lendsC c (i + 1) r) = true := h
      rwa [Bool.and_eq_true] at this
    have tail : (r.mapIdx fun j a => outOf a (e.getD (i + (j + 1)) Sl.no)) = outsC c (i + 1) r := by
      rw [← outs_at he r (i + 1) h'.2]
      congr 1
      funext j a
      rw [show i + (j + 1) = i + 1 + j by omega]
    show _ :: _ = outOf a (slC c i) :: outsC c (i + 1) r
    rw [tail]
    congr 1
    by_cases z : a.pk = 0
    · rw [outOf_no z, outOf_no z]
    · have := h'.1
      rw [Bool.or_eq_true] at this
      rw [Nat.add_zero, slC_at he (this.resolve_left fun w => z (by simpa using w))]
abbrev QF (args : DEnv) (v : ρ → D) (outs : ρ → DEnv) : Qs Unit Unit ρ := { nx := fun _ _ => False, lp := fun _ _ => False, rt := fun r d e => d = v r ∧ outsOf args e = outs r, rl := fun _ _ _ => False, ex := fun _ => True }
abbrev QFl (args : DEnv) (v : ρ → List D) (outs : ρ → DEnv) : Qs Unit Unit ρ := { nx := fun _ _ => False, lp := fun _ _ => False, rt := fun _ _ _ => False, rl := fun r d e => d = v r ∧ outsOf args e = outs r, ex := fun _ => True }
theorem outs_of {args : DEnv} {o : DEnv} (h : lendsC c 0 args = true) (ho : outsC c 0 args = o) {e : DEnv} (he : Fits c e) : outsOf args e = o := by
  rw [← ho, ← outs_at he args 0 h]
  unfold outsOf
  congr 1
  funext j a
  rw [Nat.zero_add]
theorem fits_init (args : DEnv) (n : Nat) : Fits (args.map Sp.is ++ List.replicate n Sp.nw) (args ++ List.replicate n Sl.no) := by
  refine ⟨by simp, fun i x t hx ht => ?_⟩
  by_cases q : i < args.length
  · rw [List.getElem?_append_left (by simpa using q)] at hx
    rw [List.getElem?_append_left q] at ht
    rw [List.getElem?_map, ht] at hx
    cases hx
    rfl
  · rw [List.getElem?_append_right (by simpa using q)] at hx
    rw [List.getElem?_append_right (by omega)] at ht
    rw [List.getElem?_replicate] at hx ht
    split at hx <;> cases hx
    split at ht <;> cases ht
    rfl
theorem rf_of {n : Nat} {b : DS} {args : DEnv} {c0 : Sps} {m : Ct Unit Unit ρ} {v : ρ → D} {outs : ρ → DEnv} (h : RS c0 b m (QF args v outs)) (hc : args.map Sp.is ++ List.replicate (n - args.length) Sp.nw = c0 := by rfl) : RF m.fn (bodyF n b args) v outs := by
  subst hc
  have h' := h _ (fits_init args (n - args.length))
  rw [bodyF_ap]
  cases m with
  | nx s => obtain ⟨_, _, f⟩ := h'; exact f.elim
  | bk s => obtain ⟨_, _, f⟩ := h'; exact f.elim
  | ct s => obtain ⟨_, _, f⟩ := h'; exact f.elim
  | stuck => exact trivial
  | ex x => obtain ⟨e, q, f⟩ := h'; rw [q]; exact ⟨_, rfl⟩
  | rt r =>
    rcases h' with ⟨d, e', q, f1, f2⟩ | ⟨_, _, _, f⟩
    · rw [q]
      show Fo.ok d (outsOf args e') = .ok (v r) (outs r)
      rw [f1, f2]
    · exact f.elim
theorem rfl_of {n : Nat} {b : DS} {args : DEnv} {c0 : Sps} {m : Ct Unit Unit ρ} {v : ρ → List D} {outs : ρ → DEnv} (h : RS c0 b m (QFl args v outs)) (hc : args.map Sp.is ++ List.replicate (n - args.length) Sp.nw = c0 := by rfl) : RFl m.fn (bodyF n b args) v outs := by
  subst hc
  have h' := h _ (fits_init args (n - args.length))
  rw [bodyF_ap]
  cases m with
  | nx s => obtain ⟨_, _, f⟩ := h'; exact f.elim
  | bk s => obtain ⟨_, _, f⟩ := h'; exact f.elim
  | ct s => obtain ⟨_, _, f⟩ := h'; exact f.elim
  | stuck => exact trivial
  | ex x => obtain ⟨e, q, f⟩ := h'; rw [q]; exact ⟨_, rfl⟩
  | rt r =>
    rcases h' with ⟨_, _, _, f⟩ | ⟨d, e', q, f1, f2⟩
    · exact f.elim
    · rw [q]
      show Fo.okl d (outsOf args e') = .okl (v r) (outs r)
      rw [f1, f2]
end
end NT
set_option Elab.async false
set_option linter.all false
set_option autoImplicit false
namespace NT
open PySem L2 DL LW
section
variable {α β σ τ l ρ : Type} {c : Sps} {m : Ct σ l ρ} {Q : Qs σ l ρ}
def compC (f : α → σ → Ct σ Unit (β × σ)) : List α → σ → N (List β × σ)
  | [], s => .ok ([], s)
  | a :: as, s => match f a s with
    | .nx s1 => compC f as s1
    | .rt p => match compC f as p.2 with
      | .ok q => .ok (p.1 :: q.1, q.2)
      | _ => .stuck
    | _ => .stuck
def compP (f : α → Ct Unit Unit β) : List α → N (List β)
  | [] => .ok []
  | a :: as => match f a with
    | .nx _ => compP f as
    | .rt b => match compP f as with
      | .ok bs => .ok (b :: bs)
      | _ => .stuck
    | _ => .stuck
def lcS (f : α → σ → Ct σ Unit (β × σ)) (xs : List α) (s : σ) : N (List β × σ) := if xs.length ≤ 100000 then compC f xs s else .stuck
def lcP (f : α → Ct Unit Unit β) (xs : List α) : N (List β) := if xs.length ≤ 100000 then compP f xs else .stuck
theorem compP_map {f : α → Ct Unit Unit β} {g : α → β} : ∀ (as : List α), (∀ a, a ∈ as → f a = .rt (g a)) → compP f as = .ok (as.map g)
  | [], _ => rfl
  | a :: as, h => by
    unfold compP
    rw [h a (List.mem_cons_self ..), compP_map as fun b hb => h b (List.mem_cons_of_mem _ hb)]
    rfl
theorem lcP_map {f : α → Ct Unit Unit β} {g : α → β} (as : List α) (hl : as.length ≤ 100000) (h : ∀ a, a ∈ as → f a = .rt (g a)) : lcP f as = .ok (as.map g) := by unfold lcP; rw [if_pos hl, compP_map as h]
def wipeC (c : Sps) : List Nat → Sps
  | [] => c
  | v :: vs => (wipeC c vs).set v (.is .no)
def noOwnC (c : Sps) (vs : List Nat) : Bool := vs.all fun i => match c[i]? with
  | some (.is s) => !s.own
  | some .nw => true
  | _ => false
theorem wipe_fits {e : DEnv} (he : Fits c e) : ∀ vs, Fits (wipeC c vs) (wipeD e vs)
  | [] => he
  | v :: vs => (wipe_fits he vs).set v rfl
theorem wipeC_len : ∀ vs, (wipeC c vs).length = c.length
  | [] => rfl
  | v :: vs => by show ((wipeC c vs).set v _).length = _; rw [List.length_set, wipeC_len vs]
theorem wipeC_ne {j : Nat} : ∀ vs, j ∉ vs → (wipeC c vs)[j]? = c[j]?
  | [], _ => rfl
  | v :: vs, h => by
    have h' : ¬ j = v ∧ j ∉ vs := by simpa using h
    show ((wipeC c vs).set v _)[j]? = _
    rw [List.getElem?_set_ne (fun z => h'.1 z.symm), wipeC_ne vs h'.2]
theorem noOwnC_at {e : DEnv} (he : Fits c e) {vs : List Nat} (h : noOwnC c vs = true) : noOwn e vs = true := by
  unfold noOwn
  unfold noOwnC at h
  rw [List.all_eq_true] at h ⊢
  intro i hi
  have := h i hi
  cases q : c[i]? with
  | none => rw [q] at this; cases this
  | some x =>
    rw [q] at this
    obtain ⟨t, a, b⟩ := he.get q
    rw [a]
    cases x with
    | is s => exact (show t = s from b) ▸ this
    | nw => have b' : t.own = false := b; simp [b']
    | np => cases this
theorem mergeD_len (e1 e2 : DEnv) : ∀ vs, (mergeD e1 e2 vs).length = e2.length
  | [] => rfl
  | v :: vs => by show ((mergeD e1 e2 vs).set v _).length = _; rw [List.length_set, mergeD_len e1 e2 vs]
theorem mergeD_ne (e1 e2 : DEnv) {j : Nat} : ∀ vs, j ∉ vs → (mergeD e1 e2 vs)[j]? = e2[j]?
  | [], _ => rfl
  | v :: vs, h => by
    have h' : ¬ j = v ∧ j ∉ vs := by simpa using h
    show ((mergeD e1 e2 vs).set v _)[j]? = _
    rw [List.getElem?_set_ne (fun z => h'.1 z.symm), mergeD_ne e1 e2 vs h'.2]
theorem mergeD_mem (e1 e2 : DEnv) {j : Nat} {t : Sl} : ∀ vs, j ∈ vs → (mergeD e1 e2 vs)[j]? = some t → t = e1.getD j .no
  | [], h, _ => by simp at h
  | v :: vs, h, q => by
    have q' : ((mergeD e1 e2 vs).set v (e1.getD v .no))[j]? = some t := q
    by_cases z : v = j
    · subst z
      have l : v < (mergeD e1 e2 vs).length := by have := (List.getElem?_eq_some_iff.mp q').1; simpa using this
      rw [List.getElem?_set_self l] at q'
      exact (Option.some.inj q').symm
    · rw [List.getElem?_set_ne z] at q'
      exact mergeD_mem e1 e2 vs (by rcases List.mem_cons.1 h with h | h; exact absurd h.symm z; exact h) q'
theorem merge_fits {c' : Sps} {e1 e2 : DEnv} {vs : List Nat} (h1 : Fits c e1) (h2 : Fits (wipeC c' vs) e2) (hv : vs.map (fun v => c'[v]?) = vs.map (fun v => c[v]?)) : Fits c' (mergeD e1 e2 vs) := by
  refine ⟨by rw [mergeD_len, ← h2.len, wipeC_len], fun j x t hx ht => ?_⟩
  by_cases q : j ∈ vs
  · have e := mergeD_mem e1 e2 vs q ht
    have hx' : c[j]? = some x := by
      have := List.map_inj_left.1 hv j q
      rw [← this]; exact hx
    obtain ⟨u, a, b⟩ := h1.get hx'
    have : e1.getD j .no = u := by simp [List.getD, a]
    rw [e, this]
    exact b
  · rw [mergeD_ne e1 e2 vs q] at ht
    refine h2.at_ j x t ?_ ht
    rw [wipeC_ne vs q]
    exact hx
def compK (t : DT) (el : DE) : DEnv → Fl := FK t fun b => ifF b (FK el retK) sNx
def lcK (g : DG) (t : DT) (el : DE) (vs : List Nat) (k : List D → DEnv → Fl) (ds : List D) : DEnv → Fl := fun e1 => (if ds.length ≤ 100000 ∧ noOwn e1 vs = true then match compD g t el vs ds (wipeD e1 vs) with
    | .ok ys e2 => Rs.ok ys (mergeD e1 e2 vs)
    | _ => .stuck
  else .stuck).fl k
theorem rk_lc {di : DA} {g : DG} {t : DT} {el : DE} {vs : List Nat} {k : List D → DEnv → Fl} (h : RS c (FK di (lcK g t el vs k)) m Q) : RS c (FK (lComp di g t el vs) k) m Q := rk_conv (fun e => by
  unfold FK lComp
  rw [fl_bind]
  rfl) h
theorem compK_at {t : DT} {el : DE} {e : DEnv} : compK t el e = match t e with
    | .ok true e1 => (match el e1 with
      | .ok d e2 => .rt d e2
      | .ex x e2 => .ex x e2
      | .stuck => .stuck)
    | .ok false e1 => .nx e1
    | .ex x e1 => .ex x e1
    | .stuck => .stuck := by
  unfold compK FK
  cases t e with
  | ok b e1 =>
    cases b
    · rfl
    · show (el e1).fl retK = (match el e1 with
        | .ok d e2 => Fl.rt d e2
        | .ex x e2 => .ex x e2
        | .stuck => .stuck)
      cases el e1 <;> rfl
  | ex _ _ => rfl
  | stuck => rfl
abbrev QC (fb : β → D) (c' : σ → Sps) : Qs σ Unit (β × σ) := { nx := fun s e => Fits (c' s) e, lp := fun _ _ => False, rt := fun p d e => d = fb p.1 ∧ Fits (c' p.2) e, rl := fun _ _ _ => False, ex := fun _ => True }
theorem compD_R {fe : α → D} {fb : β → D} {g : DG} {t : DT} {el : DE} {vs : List Nat} {cs : σ → Sps} {ca : α → σ → Sps} {nb : α → σ → Ct σ Unit (β × σ)} (hg : ∀ a s, GS (wipeC (cs s) vs) g (fe a) (ca a s)) (hw : ∀ a s, wipeC (ca a s) vs = wipeC (cs s) vs) (hb : ∀ a s, RS (ca a s) (compK t el) (nb a s) (QC fb (ca a))) : ∀ (xs : List α) (s : σ) (e : DEnv), Fits (wipeC (cs s) vs) e → match compC nb xs s with
    | .ok q => ∃ e2, compD g t el vs (xs.map fe) e = .ok (q.1.map fb) e2 ∧ Fits (wipeC (cs q.2) vs) e2
    | _ => True
  | [], s, e, he => ⟨e, rfl, he⟩
  | a :: as, s, e, he => by
    obtain ⟨e1, q, f1⟩ := hg a s e he
    have h' := hb a s e1 f1
    have ih := compD_R hg hw hb as
    have up : compD g t el vs ((a :: as).map fe) e = match compK t el e1 with
        | .nx e2 => compD g t el vs (as.map fe) (wipeD e2 vs)
        | .rt y e3 => (compD g t el vs (as.map fe) (wipeD e3 vs)).bind fun ys e4 => .ok (y :: ys) e4
        | .ex x e => .ex x e
        | _ => .stuck := by
      rw [compK_at]
      show (match g (fe a) e with
        | none => Rs.stuck
        | some e1 => (t e1).bind fun b e2 => if b = true then (el e2).bind fun y e3 => (compD g t el vs (as.map fe) (wipeD e3 vs)).bind fun ys e4 => .ok (y :: ys) e4 else compD g t el vs (as.map fe) (wipeD e2 vs)) = _
      rw [q]
      simp only
      cases t e1 with
      | ok b e2 =>
        cases b
        · rfl
        · simp only [bind_ok, if_true]
          cases el e2 <;> rfl
      | ex _ _ => rfl
      | stuck => rfl
    rw [up]
    cases w : nb a s with
    | nx s1 =>
      rw [w] at h'
      obtain ⟨e2, q2, f2⟩ := h'
      rw [q2]
      simp only [compC, w]
      refine ih s1 (wipeD e2 vs) ?_
      rw [← hw a s1]
      exact wipe_fits f2 vs
    | rt p =>
      rw [w] at h'
      rcases h' with ⟨d, e2, q2, f2, f3⟩ | ⟨_, _, _, f⟩
      · rw [q2]
        simp only [compC, w]
        have ih' := ih p.2 (wipeD e2 vs) (by rw [← hw a p.2]; exact wipe_fits f3 vs)
        cases w2 : compC nb as p.2 with
        | ok q =>
          rw [w2] at ih'
          obtain ⟨e4, a4, b4⟩ := ih'
          refine ⟨e4, ?_, b4⟩
          rw [a4, f2]
          rfl
        | ex x => exact trivial
        | stuck => exact trivial
      · exact f.elim
    | bk s => simp only [compC, w]
    | ct s => simp only [compC, w]
    | ex s => simp only [compC, w]
    | stuck => simp only [compC, w]
theorem compC_ex (nb : α → σ → Ct σ Unit (β × σ)) : ∀ (as : List α) (s : σ) (x : Xc), compC nb as s ≠ .ex x
  | [], _, _ => fun h => by cases h
  | a :: as, s, x => by
    unfold compC
    cases nb a s with
    | nx s1 => exact compC_ex nb as s1 x
    | rt p => simp only; cases compC nb as p.2 <;> exact fun h => by cases h
    | _ => exact fun h => by cases h
theorem rk_lcS {fe : α → D} {fb : β → D} {g : DG} {t : DT} {el : DE} {vs : List Nat} {cs : τ → Sps} {ca : α → τ → Sps} {nb : α → τ → Ct τ Unit (β × τ)} {xs : List α} {s0 : τ} {k : List D → DEnv → Fl} {M : List β × τ → Ct σ l ρ} (hs : Sub c (cs s0)) (hg : ∀ a s, GS (wipeC (cs s) vs) g (fe a) (ca a s)) (hb : ∀ a s, RS (ca a s) (compK t el) (nb a s) (QC fb (ca a))) (h : ∀ p : List β × τ, RS (cs p.2) (k (p.1.map fb)) (M p) Q) (hw : ∀ a s, wipeC (ca a s) vs = wipeC (cs s) vs := by intro _ _; rfl) (hv : ∀ s, vs.map (fun v => (cs s)[v]?) = vs.map (fun v => (cs s0)[v]?) := by intro _; rfl) (ho : noOwnC (cs s0) vs = true := by rfl) : RS c (lcK g t el vs k (xs.map fe)) ((lcS nb xs s0).ct M) Q := fun e he0 => by
  have he := he0.sub hs
  unfold lcK lcS
  rw [List.length_map]
  by_cases hl : xs.length ≤ 100000
  · rw [if_pos hl, if_pos ⟨hl, noOwnC_at he ho⟩]
    have := compD_R hg hw hb xs s0 (wipeD e vs) (wipe_fits he vs)
    cases w : compC nb xs s0 with
    | ok q =>
      rw [w] at this
      obtain ⟨e2, a, b⟩ := this
      rw [a]
      exact h q _ (merge_fits he b (hv q.2))
    | ex x => exact absurd w (compC_ex nb xs s0 x)
    | stuck => exact trivial
  · rw [if_neg hl]
    exact trivial
/-- one that changes nothing -/
abbrev QCp (fb : β → D) (c' : Sps) : Qs Unit Unit β := { nx := fun _ e => Fits c' e, lp := fun _ _ => False, rt := fun b d e => d = fb b ∧ Fits c' e, rl := fun _ _ _ => False, ex := fun _ => True }
def liftP (m : Ct Unit Unit β) : Ct Unit Unit (β × Unit) := match m with
  | .nx s => .nx s
  | .rt b => .rt (b, ())
  | .bk s => .bk s
  | .ct s => .ct s
  | .ex x => .ex x
  | .stuck => .stuck
theorem compP_C (f : α → Ct Unit Unit β) : ∀ as, compC (fun a _ => liftP (f a)) as () = (compP f as).bd fun bs => .ok (bs, ())
  | [] => rfl
  | a :: as => by
    unfold compC compP
    have ih := compP_C f as
    cases f a with
    | nx s => exact ih
    | rt b =>
      have lp : liftP (Ct.rt b) = Ct.rt (b, ()) := rfl
      rw [lp]
      dsimp only
      rw [ih]
      cases compP f as <;> rfl
    | _ => rfl
theorem rk_lcP {fe : α → D} {fb : β → D} {g : DG} {t : DT} {el : DE} {vs : List Nat} {ca : α → Sps} {nb : α → Ct Unit Unit β} {xs : List α} {k : List D → DEnv → Fl} {M : List β → Ct σ l ρ} (hg : ∀ a, GS (wipeC c vs) g (fe a) (ca a)) (hb : ∀ a, RS (ca a) (compK t el) (nb a) (QCp fb (ca a))) (h : ∀ bs : List β, RS c (k (bs.map fb)) (M bs) Q) (hw : ∀ a, wipeC (ca a) vs = wipeC c vs := by intro _; rfl) (ho : noOwnC c vs = true := by rfl) : RS c (lcK g t el vs k (xs.map fe)) ((lcP nb xs).ct M) Q := fun e he => by
  have := rk_lcS (τ := Unit) (Q := Q) (c := c) (cs := fun _ => c) (ca := fun a _ => ca a) (nb := fun a _ => liftP (nb a)) (xs := xs) (s0 := ()) (k := k) (M := fun p => M p.1) (fe := fe) (fb := fb) (g := g) (t := t) (el := el) (vs := vs) (by
    have : ∀ c : Sps, Sub c c := fun c => by
      induction c with
      | nil => exact trivial
      | cons x c ih => exact ⟨by cases x <;> first | rfl | trivial, ih⟩
    exact this c) (fun a _ => hg a) (fun a _ => fun e1 f1 => by
      have h' := hb a e1 f1
      cases w : nb a with
      | nx s => rw [w] at h'; exact h'
      | rt b => rw [w] at h'; exact h'
      | bk s => rw [w] at h'; exact h'
      | ct s => rw [w] at h'; exact h'
      | ex x => rw [w] at h'; exact h'
      | stuck => exact trivial) (fun p => h p.1) (fun a _ => hw a) (fun _ => rfl) ho e he
  unfold lcS at this
  unfold lcP
  by_cases hl : xs.length ≤ 100000
  · rw [if_pos hl] at this ⊢
    rw [compP_C] at this
    cases w : compP nb xs with
    | ok bs => rw [w] at this; exact this
    | ex x => rw [w] at this; exact this
    | stuck => exact trivial
  · rw [if_neg hl]; exact trivial
theorem rk_retC {fb : β → D} {c' : Sps} {b : β} (h : Sub c c') : RS c (retK (fb b)) (.rt b) (QCp fb c') := rk_ret fun e he => ⟨rfl, he.sub h⟩
theorem rk_ck {t : DT} {el : DE} (h : RS c (FK t fun b => ifF b (FK el retK) sNx) m Q) : RS c (compK t el) m Q := h
theorem rk_ck1 {el : DE} (h : RS c (FK el retK) m Q) : RS c (compK tYesD el) m Q := h
end
end NT
set_option Elab.async false
set_option linter.all false
set_option autoImplicit false
namespace NT
open PySem L2 DL LW
section
variable {α β γ δ ε ζ η σ τ l ρ : Type} {c : Sps} {m : Ct σ l ρ} {Q : Qs σ l ρ}
@[simp, reducible] def P2 (f : α → β → γ) (s : α × β) : γ := f s.1 s.2
@[simp, reducible] def P3 (f : α → β → γ → δ) (s : α × β × γ) : δ := f s.1 s.2.1 s.2.2
@[simp, reducible] def P4 (f : α → β → γ → δ → ε) (s : α × β × γ × δ) : ε := f s.1 s.2.1 s.2.2.1 s.2.2.2
@[simp, reducible] def P5 (f : α → β → γ → δ → ε → ζ) (s : α × β × γ × δ × ε) : ζ := f s.1 s.2.1 s.2.2.1 s.2.2.2.1 s.2.2.2.2
@[simp, reducible] def P6 (f : α → β → γ → δ → ε → ζ → η) (s : α × β × γ × δ × ε × ζ) : η := f s.1 s.2.1 s.2.2.1 s.2.2.2.1 s.2.2.2.2.1 s.2.2.2.2.2
theorem sub_nil : Sub [] [] := trivial
theorem sub_cons {x y : Sp} {c d : Sps} (h : Wk x y) (g : Sub c d) : Sub (x :: c) (y :: d) := ⟨h, g⟩
theorem wk_is {s : Sl} : Wk (.is s) (.is s) := rfl
theorem wk_nw : Wk .nw .nw := trivial
theorem rs_assoc {a b r : DS} (h : RS c (sSeq a (sSeq b r)) m Q) : RS c (sSeq (sSeq a b) r) m Q := rk_conv (fun e => by
  unfold sSeq
  cases a e <;> rfl) h
theorem len_L {f : α → D} (xs : List α) : fLen [eLs f xs] = some (eI xs.length) := by simp [fLen]
end
end NT
set_option Elab.async false
set_option linter.all false
set_option autoImplicit false
namespace NT
open PySem L2 DL LW
section
variable {α β σ τ l ρ : Type}
structure Po (σ l ρ : Type) where
  nx : σ → Prop := fun _ => False
  rt : ρ → Prop := fun _ => False
  bk : l → Prop := fun _ => False
  ct : l → Prop := fun _ => False
  ex : Xc → Prop := fun _ => False
def W (c : Ct σ l ρ) (p : Po σ l ρ) : Prop := match c with
  | .nx s => p.nx s
  | .rt r => p.rt r
  | .bk s => p.bk s
  | .ct s => p.ct s
  | .ex x => p.ex x
  | .stuck => False
@[simp] theorem W_nx (s : σ) (p : Po σ l ρ) : W (.nx s) p = p.nx s := rfl
@[simp] theorem W_rt (s : ρ) (p : Po σ l ρ) : W (.rt s) p = p.rt s := rfl
@[simp] theorem W_bk (s : l) (p : Po σ l ρ) : W (.bk s) p = p.bk s := rfl
@[simp] theorem W_ct (s : l) (p : Po σ l ρ) : W (.ct s) p = p.ct s := rfl
@[simp] theorem W_ex (s : Xc) (p : Po σ l ρ) : W (.ex s) p = p.ex s := rfl
@[simp] theorem W_stuck (p : Po σ l ρ) : W .stuck p = False := rfl
/-- the def on slots answers -/
theorem RF_ok {m : N ρ} {fo : Fo} {v : ρ → D} {outs : ρ → DEnv} {r : ρ} (h : RF m fo v outs) (e : m = .ok r) : fo = .ok (v r) (outs r) := by
  rw [e] at h
  exact h
end
end NT
set_option Elab.async false
set_option linter.all false
set_option autoImplicit false
namespace NT
open PySem L2 DL LW
end NT
set_option Elab.async false
set_option linter.all false
set_option autoImplicit false
namespace NT
open PySem L2 DL LW
end NT
set_option Elab.async false
set_option linter.all false
set_option autoImplicit false
namespace NT
open PySem L2 DL LW
section
variable {α β σ τ l ρ : Type} {c : Sps} {Q : Qs σ l ρ}
def tryC (m : Ct σ l ρ) (h : Xc → Ct σ l ρ) : Ct σ l ρ := match m with
  | .ex x => h x
  | r => r
@[simp] theorem tryC_ex (x : Xc) (h : Xc → Ct σ l ρ) : tryC (.ex x) h = h x := rfl
@[simp] theorem tryC_nx (s : σ) (h : Xc → Ct σ l ρ) : tryC (.nx s) h = .nx s := rfl
@[simp] theorem tryC_rt (s : ρ) (h : Xc → Ct σ l ρ) : tryC (.rt s) h = .rt s := rfl
@[simp] theorem tryC_stuck (h : Xc → Ct σ l ρ) : tryC .stuck h = .stuck := rfl
end
end NT
set_option Elab.async false
set_option linter.all false
set_option autoImplicit false
namespace NT
open PySem L2 DL LW
section
variable {α β : Type}
theorem shD_str {s : Str} (h : PyData.strOk s = true) (k : Nat) : shD k (eS s) := ⟨by simpa [PyData.canLay0] using h, by simp [PyData.depth]⟩
theorem eqN_typed [DecidableEq α] {f : α → D} [h : EqE f] {a b : α} {k : Nat} (ha : shD k (f a)) (hb : shD k (f b)) (hk : k ≤ 64 := by decide) : eqN (f a) (f b) = .ok (decide (a = b)) := by
  unfold eqN SeqAt.shaped
  rw [ha.1, hb.1, decide_eq_true (Nat.le_trans ha.2 hk), decide_eq_true (Nat.le_trans hb.2 hk)]
  simp only [Bool.and_self, and_self, if_true]
  congr 1
  rw [Bool.eq_iff_iff, h.eq, decide_eq_true_eq]
theorem sh_of {f : α → D} {k m : Nat} [s : ShE f k] (a : α) (h : k ≤ m := by decide) : shD m (f a) := shD_up h (s.sh a)
end
end NT
set_option Elab.async false
set_option linter.all false
set_option autoImplicit false
namespace NT
open PySem L2 DL LW
section
variable {α β γ σ τ l ρ : Type} {c : Sps} {m : Ct σ l ρ} {Q : Qs σ l ρ}
def eY (f : α → D) (g : β → D) : α ⊕ β → D
  | .inl a => f a
  | .inr b => g b
instance {f : α → D} {g : β → D} [h : NnE f] [i : NnE g] : NnE (eY f g) := ⟨fun a => by
  cases a
  · exact h.nn _
  · exact i.nn _⟩
end
end NT
set_option Elab.async false
set_option linter.all false
set_option autoImplicit false
namespace NT
open PySem L2 DL LW
end NT
set_option Elab.async false
set_option linter.all false
set_option maxRecDepth 100000
set_option autoImplicit false
set_option maxHeartbeats 4000000
namespace NT
open PySem L2 DL LW
section
variable {α β γ σ τ l ρ : Type} {c : Sps} {m : Ct σ l ρ} {Q : Qs σ l ρ}
def unL (x : α ⊕ β) : N α := match x with
  | .inl a => .ok a
  | .inr _ => .stuck
def unR (x : α ⊕ β) : N β := match x with
  | .inl _ => .stuck
  | .inr b => .ok b
@[simp] theorem unL_inl (a : α) : unL (.inl a : α ⊕ β) = .ok a := rfl
@[simp] theorem unR_inr (b : β) : unR (.inr b : α ⊕ β) = .ok b := rfl
end
end NT
set_option Elab.async false
set_option linter.all false
set_option autoImplicit false
namespace NT
open PySem L2 DL LW
structure Dd where
  w : Str
  h : Int
  o : Option Int
deriving DecidableEq
def eDd (d : Dd) : D := match d.o with
  | none => .tuple [.str d.w, .int d.h]
  | some x => .tuple [.str d.w, .int d.h, .int x]
instance : NnE eDd := ⟨fun d h => by
  obtain ⟨w, i, o⟩ := d
  cases o <;> cases h⟩
instance : EqE eDd := ⟨fun a b => by
  obtain ⟨w, i, o⟩ := a
  obtain ⟨w2, i2, o2⟩ := b
  cases o <;> cases o2 <;> simp [eDd, PyData.eqv, PyData.eqvAll]⟩
end NT
set_option Elab.async false
set_option linter.all false
set_option autoImplicit false
namespace NT
open PySem L2 DL LW
section
variable {α β σ l ρ : Type} {c : Sps} {m : Ct σ l ρ} {Q : Qs σ l ρ}
theorem rk_seqS {de : DE} {k : List D → DEnv → Fl} (g : RS c (FK de fun d => FK (put (seqS d)) k) m Q) : RS c (FK (iSeqS de) k) m Q := rk_conv (fun e => by
  unfold FK iSeqS
  cases de e <;> rfl) g
/-- texts put together -/
def joinN (s : Str) (xs : List Str) : N Str := if joinG s xs then .ok (Txt.join s xs) else .stuck
theorem strsOf_map (xs : List Str) : DL.strsD (xs.map eS) = some xs := by
  induction xs with
  | nil => rfl
  | cons x xs ih => simp [DL.strsD, ih]
def strOf : D → Option Str
  | .str a => some a
  | _ => none
theorem rk_join {da db : DE} {k : D → DEnv → Fl} (g : RS c (FK da fun x => FK (put (strOf x)) fun a => FK db fun y => FK (put (dJoin a y)) k) m Q) : RS c (FK (eJoin da db) k) m Q := rk_conv (fun e => by
  unfold FK eJoin
  cases da e with
  | ok d e1 => cases d <;> first | rfl | (show ((db e1).bind _).fl k = _; rw [fl_bind]; rfl)
  | ex _ _ => rfl
  | stuck => rfl) g
theorem rk_joinK {s : Str} {xs : List Str} {k : D → DEnv → Fl} {M : Str → Ct σ l ρ} (g : ∀ a, RS c (k (eS a)) (M a) Q) : RS c (FK (put (dJoin s (eLs eS xs))) k) ((joinN s xs).ct M) Q := rk_opt (f := eS) (fun a h => by
  unfold joinN at h
  unfold dJoin
  simp only [strsOf_map]
  split at h <;> cases h
  rename_i q
  rw [if_pos q]) (fun x => by unfold joinN; split <;> exact fun h => by cases h) g
theorem map_some {f : α → D} (ys : List α) : (ys.map some).map (eO f) = ys.map f := by rw [List.map_map]; rfl
end
end NT
set_option Elab.async false
set_option linter.all false
set_option autoImplicit false
namespace NT
open PySem L2 DL LW
instance : KeyE eS where
  key := .inr
  keyOf := fun _ => rfl
  kEq := fun a k => by
    show decide _ = _
    simp
  kD := fun _ => rfl
end NT
namespace NT
open PySem L2 DL LW
/-- what is known, written out -/
theorem rs_nf {σ l ρ : Type} {c c' : Sps} {f : DEnv → Fl} {m : Ct σ l ρ} {Q : Qs σ l ρ} (g : RS c' f m Q) (h : c = c' := by rfl) : RS c f m Q := h ▸ g
end NT
set_option Elab.async false
set_option linter.all false
set_option autoImplicit false
namespace NT
open PySem L2 DL LW
end NT
set_option Elab.async false
set_option linter.all false
set_option maxRecDepth 100000
set_option autoImplicit false
namespace NT
open PySem L2 DL LW
/-- a dict as data -/
abbrev eM {κ β : Type} (f : κ → D) (g : β → D) (kvs : List (κ × β)) : D := .dict (eKv f g kvs)
instance {κ β : Type} {f : κ → D} {g : β → D} : NnE (eM f g) := ⟨fun _ h => by cases h⟩
section
variable {α β σ τ l ρ : Type} {c : Sps} {m : Ct σ l ρ} {Q : Qs σ l ρ}
section
variable {κ : Type} [DecidableEq κ] {f : κ → D} {g : β → D} [ke : KeyE f]
def ownM (c : Sps) (i : Nat) : Bool := match c[i]? with
  | some (.is (.m _)) => true
  | _ => false
end
end
end NT
namespace NT
open PySem L2 DL LW
end NT
set_option Elab.async false
set_option linter.all false
set_option maxRecDepth 100000
set_option autoImplicit false
namespace NT
open PySem L2 DL LW
end NT
set_option Elab.async false
set_option linter.all false
set_option maxRecDepth 100000
set_option autoImplicit false
namespace NT
open PySem L2 DL LW
end NT
set_option Elab.async false
set_option linter.all false
set_option maxRecDepth 100000
set_option autoImplicit false
namespace NT
open PySem L2 DL LW
end NT
set_option Elab.async false
set_option linter.all false
set_option maxRecDepth 100000
set_option autoImplicit false
namespace NT
open PySem L2 DL LW
end NT
set_option Elab.async false
set_option linter.all false
set_option maxRecDepth 100000
set_option autoImplicit false
namespace NT
open PySem L2 DL LW
end NT
set_option Elab.async false
set_option linter.all false
set_option maxRecDepth 100000
set_option autoImplicit false
namespace NT
open PySem L2 DL LW
def lone (n : Int) : LO := [(.none, some n)]
end NT
set_option Elab.async false
set_option linter.all false
set_option maxRecDepth 100000
set_option autoImplicit false
namespace NT
open PySem L2 DL LW
end NT
set_option Elab.async false
set_option linter.all false
set_option maxRecDepth 100000
set_option autoImplicit false
namespace NT
open PySem L2 DL LW
end NT
set_option Elab.async false
set_option linter.all false
set_option maxRecDepth 100000
set_option autoImplicit false
namespace NT
open PySem L2 DL LW
end NT
set_option Elab.async false
set_option linter.all false
set_option maxRecDepth 100000
set_option autoImplicit false
namespace NT
open PySem L2 DL LW
end NT
set_option Elab.async false
set_option linter.all false
set_option maxRecDepth 100000
set_option autoImplicit false
namespace NT
open PySem L2 DL LW
end NT
set_option Elab.async false
set_option linter.all false
set_option maxRecDepth 100000
set_option autoImplicit false
namespace NT
open PySem L2 DL LW
end NT
set_option Elab.async false
set_option linter.all false
set_option maxRecDepth 100000
set_option autoImplicit false
namespace NT
open PySem L2 DL LW
end NT
set_option Elab.async false
set_option linter.all false
set_option maxRecDepth 100000
set_option autoImplicit false
namespace NT
open PySem L2 DL LW
end NT
set_option Elab.async false
set_option linter.all false
set_option maxRecDepth 100000
set_option autoImplicit false
namespace NT
open PySem L2 DL LW
end NT
set_option Elab.async false
set_option linter.all false
set_option maxRecDepth 100000
set_option autoImplicit false
namespace NT
open PySem L2 DL LW
section
variable {α β σ l ρ : Type} {c : Sps} {m : Ct σ l ρ} {Q : Qs σ l ρ} {cn x : Str} {i np : Nat} {fs : List (Str × Tr)}
def putAt (xs : List α) (j : Int) (x : α) : List α := xs.set ((ixN xs.length j).getD 0) x
theorem idx_at {xs : List α} {j : Int} {x : α} (h : idx xs j = .ok x) : ∃ n, ixN xs.length j = some n ∧ xs[n]? = some x := by
  have h : atI xs j = some x := ofO_ok h
  unfold atI at h
  obtain ⟨n, h1, h2⟩ := Option.bind_eq_some_iff.1 h
  exact ⟨n, h1, h2⟩
end
end NT
namespace NT
open PySem L2 DL LW
end NT
set_option Elab.async false
set_option linter.all false
set_option maxRecDepth 100000
set_option autoImplicit false
namespace NT
open PySem L2 DL LW
end NT
set_option Elab.async false
set_option linter.all false
set_option maxRecDepth 100000
set_option autoImplicit false
namespace NT
open PySem L2 DL LW
end NT
set_option Elab.async false
set_option linter.all false
set_option maxRecDepth 100000
set_option autoImplicit false
namespace NT
open PySem L2 DL LW
end NT
set_option Elab.async false
set_option linter.all false
set_option maxRecDepth 100000
set_option autoImplicit false
namespace NT
open PySem L2 DL LW
end NT
set_option Elab.async false
set_option linter.all false
set_option maxRecDepth 100000
set_option autoImplicit false
namespace NT
open PySem L2 DL LW
section
variable {α β σ τ l ρ : Type} {c : Sps} {m : Ct σ l ρ} {Q : Qs σ l ρ}
def cutSN (z : Str) (lo hi : Option Int) : N Str := if z.length ≤ 100000 then .ok (cutS z lo hi) else .stuck
theorem rk_slS {z : Str} {lo hi : Option Int} {k : D → DEnv → Fl} {M : Str → Ct σ l ρ} (g : ∀ y, RS c (k (eS y)) (M y) Q) : RS c (FK (put (dSl (eS z) lo hi)) k) ((cutSN z lo hi).ct M) Q := fun e he => by
  unfold cutSN
  have e1 : dSl (eS z) lo hi = if z.length ≤ 100000 then some (.str (cutS z lo hi)) else none := rfl
  rw [e1]
  by_cases h : z.length ≤ 100000
  · rw [if_pos h, if_pos h]; exact g _ e he
  · rw [if_neg h, if_neg h]; exact trivial
end
end NT
set_option Elab.async false
set_option linter.all false
set_option maxRecDepth 100000
set_option autoImplicit false
namespace NT
open PySem L2 DL LW
end NT
set_option Elab.async false
set_option linter.all false
set_option maxRecDepth 100000
set_option autoImplicit false
namespace NT
open PySem L2 DL LW
end NT
set_option Elab.async false
set_option linter.all false
set_option maxRecDepth 100000
set_option autoImplicit false
namespace NT
open PySem L2 DL LW
end NT
set_option Elab.async false
set_option linter.all false
set_option maxRecDepth 100000
set_option autoImplicit false
namespace NT
open PySem L2 DL LW
section
variable {α β σ l ρ : Type} {c : Sps} {m : Ct σ l ρ} {Q : Qs σ l ρ} {i : Nat} {kvs : LQ}
@[simp] theorem pairD_e (k : Int × Int) : pairD (eP2 eI eI k) = some k := rfl
end
end NT
set_option Elab.async false
set_option linter.all false
set_option autoImplicit false
namespace NT
open PySem L2 DL LW
end NT
set_option Elab.async false
set_option linter.all false
set_option maxRecDepth 100000
set_option autoImplicit false
namespace NT
open PySem L2 DL LW
end NT
set_option Elab.async false
set_option linter.all false
set_option maxRecDepth 100000
set_option autoImplicit false
namespace NT
open PySem L2 DL LW
end NT
set_option Elab.async false
set_option linter.all false
set_option maxRecDepth 100000
set_option autoImplicit false
namespace NT
open PySem L2 DL LW
end NT
set_option Elab.async false
set_option linter.all false
set_option maxRecDepth 100000
set_option autoImplicit false
namespace NT
open PySem L2 DL LW
end NT
set_option Elab.async false
set_option linter.all false
set_option maxRecDepth 100000
set_option autoImplicit false
namespace NT
open PySem L2 DL LW
end NT
set_option Elab.async false
set_option linter.all false
set_option maxRecDepth 100000
set_option autoImplicit false
namespace NT
open PySem L2 DL LW
end NT
set_option Elab.async false
set_option linter.all false
set_option maxRecDepth 100000
set_option autoImplicit false
namespace NT
open PySem L2 DL LW
end NT
set_option Elab.async false
set_option linter.all false
set_option maxRecDepth 100000
set_option autoImplicit false
set_option maxHeartbeats 4000000
namespace NT
open PySem L2 DL
section
variable {σ l ρ : Type} {c : Sps} {m : Ct σ l ρ} {Q : Qs σ l ρ}
def isXB (n : Str) (d : D) : Option Bool := match excOf d with
  | some (x, _) => if isExcC x then some (tblX n x) else none
  | none => none
theorem isXD_eq (n : Str) (d : D) : isXD n d = (isXB n d).map PyData.bool := by
  unfold isXD isXB
  cases excOf d with
  | none => rfl
  | some p =>
    obtain ⟨x, fs⟩ := p
    show (if isExcC x = true then _ else none) = (if isExcC x = true then _ else none : Option Bool).map _
    cases isExcC x <;> rfl
theorem rk_isX {n : Str} {de : DE} {k : D → DEnv → Fl} (g : RS c (FK de fun d => FK (put (isXD n d)) k) m Q) : RS c (FK (eIsX n de) k) m Q := rk_conv (fun e => by
  unfold FK eIsX
  rw [fl_bind]) g
theorem rk_isXB {n : Str} {d : D} {k : D → DEnv → Fl} {M : Bool → Ct σ l ρ} (g : ∀ b, RS c (k (eB b)) (M b) Q) : RS c (FK (put (isXD n d)) k) ((ofO (isXB n d)).ct M) Q :=
  rk_opt (f := eB) (fun a h => by rw [isXD_eq, ofO_ok h]; rfl) (fun x => ofO_ex x) g
theorem rk_xf {n : Str} {de : DE} {k : D → DEnv → Fl} (g : RS c (FK de fun d => FK (put (xfOf n d)) k) m Q) : RS c (FK (eXf n de) k) m Q := rk_conv (fun e => by
  unfold FK eXf
  rw [fl_bind]) g
theorem rk_xfB {n : Str} {d : D} {k : D → DEnv → Fl} {M : D → Ct σ l ρ} (g : ∀ a, RS c (k a) (M a) Q) : RS c (FK (put (xfOf n d)) k) ((ofO (xfOf n d)).ct M) Q :=
  rk_opt (f := fun a => a) (fun a h => ofO_ok h) (fun x => ofO_ex x) g
theorem ep_mkX {x : Str} {de : DE} {d : D} (h : EP c de d) : EP c (eMkX x de) (excD x none) := fun e he => by
  unfold eMkX
  rw [h e he, bind_ok]
theorem ep_mkXF {x n : Str} {de : DE} {d : D} {k : Key} (h : EP c de d) (hk : DL.keyOf d = some k) : EP c (eMkXF x n de) (excD x (some (n, k))) := fun e he => by
  unfold eMkXF
  rw [h e he, bind_ok, hk]
end
end NT
set_option Elab.async false
set_option linter.all false
set_option maxRecDepth 100000
set_option maxHeartbeats 4000000
namespace NW
open PySem L2 DL LW NT
noncomputable section
def n__law_take (bag0 : (List Int)) (many0 : Int) : N (Int × (List Int)) := Ct.fn (
 (idx bag0 (0 : Int)).ct fun a0 =>
 (if (decide ((0 : Int) < a0)) = true then
 (idx bag0 (0 : Int)).ct fun a1 =>
 (modN a1 many0).ct fun n0 =>
 (idx bag0 (0 : Int)).ct fun a2 =>
 (divN a2 many0).ct fun n1 =>
 (setN bag0 (0 : Int) n1).ct fun bag1 =>
 .rt (n0, bag1) else
 (idx bag0 (1 : Int)).ct fun a3 =>
 (mulN a3 (48271 : Int)).ct fun n2 =>
 (modN n2 (2147483647 : Int)).ct fun n3 =>
 (setN bag0 (1 : Int) n3).ct fun bag2 =>
 (idx bag2 (1 : Int)).ct fun a4 =>
 (idx bag2 (1 : Int)).ct fun a5 =>
 (mulN a4 a5).ct fun n4 =>
 (modN n4 (2147483629 : Int)).ct fun n5 =>
 (divN n5 (64 : Int)).ct fun n6 =>
 (modN n6 many0).ct fun n7 =>
 .rt (n7, bag2)) : Ct Unit Unit (Int × (List Int)))
theorem rf__law_take (bag0 : (List Int)) (many0 : Int) : RF (n__law_take bag0 many0) (f__law_take [.p (List.map eI bag0), .v (eI many0)]) (fun r => (eI r.1)) (fun r => [.p (List.map eI r.2), .no]) := rf_of (n := 3) (b := b__law_take) (c0 := [.is (.p (List.map eI bag0)), .is (.v (eI many0)), .nw])
 (rs_if (rk_tst (rk_bin (rk_ixN (rk_pure (d := (eI (0 : Int))) ep_C  (rk_ixAt (d := ((eLs eI) bag0)) (rk_ixL (f := eI) (xs := bag0) fun a0 => (rk_pure (d := (eI (0 : Int))) ep_C  (rk_put rfl (rk_put rfl (rk_ifF (rs_assoc (rs_asg (rk_bin (rk_ixN (rk_pure (d := (eI (0 : Int))) ep_C  (rk_ixAt (d := ((eLs eI) bag0)) (rk_ixL (f := eI) (xs := bag0) fun a1 => (rk_pure (d := (eI many0)) (ep_var (d := (eI many0)) rfl)  (rk_mod fun n0 => (rk_asgN (rs_assoc (rs_setO (rk_bin (rk_ixN (rk_pure (d := (eI (0 : Int))) ep_C  (rk_ixAt (d := ((eLs eI) bag0)) (rk_ixL (f := eI) (xs := bag0) fun a2 => (rk_pure (d := (eI many0)) (ep_var (d := (eI many0)) rfl)  (rk_div fun n1 => (rk_kn (rk_pure (d := (eI (0 : Int))) ep_C  (rk_set (fe := eI) (a := n1) (xs := bag0) fun bag1 => (rs_nf (c' := [.is (.p (List.map eI bag1)), .is (.v (eI many0)), .is (.v (eI n0))]) (rs_ret (rk_pure (d := (eI n0)) (ep_var (d := (eI n0)) rfl)  (rk_ret (r := (n0, bag1)) fun _ he => ⟨rfl, outs_of rfl rfl he⟩)))))))))) rfl)))))))))) rfl)))))) (rs_nxs (rs_setO (rk_bin (rk_bin (rk_ixN (rk_pure (d := (eI (1 : Int))) ep_C  (rk_ixAt (d := ((eLs eI) bag0)) (rk_ixL (f := eI) (xs := bag0) fun a3 => (rk_pure (d := (eI (48271 : Int))) ep_C  (rk_mul fun n2 => (rk_pure (d := (eI (2147483647 : Int))) ep_C  (rk_mod fun n3 => (rk_kn (rk_pure (d := (eI (1 : Int))) ep_C  (rk_set (fe := eI) (a := n3) (xs := bag0) fun bag2 => (rs_nf (c' := [.is (.p (List.map eI bag2)), .is (.v (eI many0)), .nw]) (rs_last (rs_ret (rk_bin (rk_bin (rk_bin (rk_bin (rk_ixN (rk_pure (d := (eI (1 : Int))) ep_C  (rk_ixAt (d := ((eLs eI) bag2)) (rk_ixL (f := eI) (xs := bag2) fun a4 => (rk_ixN (rk_pure (d := (eI (1 : Int))) ep_C  (rk_ixAt (d := ((eLs eI) bag2)) (rk_ixL (f := eI) (xs := bag2) fun a5 => (rk_mul fun n4 => (rk_pure (d := (eI (2147483629 : Int))) ep_C  (rk_mod fun n5 => (rk_pure (d := (eI (64 : Int))) ep_C  (rk_div fun n6 => (rk_pure (d := (eI many0)) (ep_var (d := (eI many0)) rfl)  (rk_mod fun n7 => (rk_ret (r := (n7, bag2)) fun _ he => ⟨rfl, outs_of rfl rfl he⟩))))))))) rfl)))) rfl)))))))))))))))))) rfl)))))))))))) rfl))))))
def n__law_bag (script0 : (List Int)) (k0 : Int) : N (List Int) := Ct.fn (
 (Ct.sq ((if (decide (k0 < (script0.length : Int))) = true then
 (idx script0 k0).ct fun a0 =>
 (powN (10 : Int) (60 : Int)).ct fun n0 =>
 (powN (10 : Int) (60 : Int)).ct fun n1 =>
 (mulN n0 n1).ct fun n2 =>
 (modN a0 n2).ct fun n3 =>
 .nx n3 else
 .nx (0 : Int)) : Ct Int _ _) fun cell0 =>
 (powN (10 : Int) (18 : Int)).ct fun n4 =>
 (if (decide (cell0 < n4)) = true then
 (mulN cell0 (7919 : Int)).ct fun n5 =>
 (mulN (104729 : Int) k0).ct fun n6 =>
 (modN (n5 + n6) (2147483646 : Int)).ct fun n7 =>
 .rt [(0 : Int), ((1 : Int) + n7)] else
 (modN (cell0 + k0) (2147483646 : Int)).ct fun n8 =>
 .rt [cell0, ((1 : Int) + n8)])) : Ct Unit Unit (List Int))
theorem rf__law_bag (script0 : (List Int)) (k0 : Int) : RFl (n__law_bag script0 k0) (f__law_bag [.v ((eLs eI) script0), .v (eI k0)]) (fun r => List.map eI r) (fun r => [.no, .no]) := rfl_of (n := 3) (b := b__law_bag) (c0 := [.is (.v ((eLs eI) script0)), .is (.v (eI k0)), .nw])
 (rs_asg (rk_pure (d := (eI (0 : Int))) ep_C  (rk_asgN (rs_seq (c1 := fun cell0 => [.is (.v ((eLs eI) script0)), .is (.v (eI k0)), .is (.v (eI cell0))]) (rs_if0 (rk_pure (d := (decide (k0 < (script0.length : Int)))) (ep_tst (ep_bin (ep_var (d := (eI k0)) rfl) (ep_cb (ep_acons (ep_var (d := ((eLs eI) script0)) rfl) ep_anil) (len_L (f := eI) script0)) rfl)) (rk_ifF (rs_last (rs_asg (rk_bin (rk_ixN (rk_pure (d := (eI k0)) (ep_var (d := (eI k0)) rfl)  (rk_ixAt (d := ((eLs eI) script0)) (rk_ixL (f := eI) (xs := script0) fun a0 => (rk_bin (rk_bin (rk_pure (d := (eI (10 : Int))) ep_C  (rk_pure (d := (eI (60 : Int))) ep_C  (rk_pow fun n0 => (rk_bin (rk_pure (d := (eI (10 : Int))) ep_C  (rk_pure (d := (eI (60 : Int))) ep_C  (rk_pow fun n1 => (rk_mul fun n2 => (rk_mod fun n3 => (rk_asgN (rs_nx fun _ he => he.sub (sub_cons wk_is (sub_cons wk_is (sub_cons wk_is sub_nil))))))))))))))))) rfl)))))) (rs_nx fun _ he => he.sub (sub_cons wk_is (sub_cons wk_is (sub_cons wk_is sub_nil))))))) (fun cell0 => (rs_if (rk_tst (rk_bin (rk_pure (d := (eI cell0)) (ep_var (d := (eI cell0)) rfl)  (rk_bin (rk_pure (d := (eI (10 : Int))) ep_C  (rk_pure (d := (eI (18 : Int))) ep_C  (rk_pow fun n4 => (rk_put rfl (rk_put rfl (rk_ifF (rs_retL (rk_lst (rk_acons (rk_pure (d := (eI (0 : Int))) ep_C  (rk_acons (rk_bin (rk_pure (d := (eI (1 : Int))) ep_C  (rk_bin (rk_bin (rk_bin (rk_pure (d := (eI cell0)) (ep_var (d := (eI cell0)) rfl)  (rk_pure (d := (eI (7919 : Int))) ep_C  (rk_mul fun n5 => (rk_bin (rk_pure (d := (eI (104729 : Int))) ep_C  (rk_pure (d := (eI k0)) (ep_var (d := (eI k0)) rfl)  (rk_mul fun n6 => (rk_put rfl (rk_pure (d := (eI (2147483646 : Int))) ep_C  (rk_mod fun n7 => (rk_put rfl (rk_anil (rk_put (if_pos (Nat.le_of_ble_eq_true rfl)) (rk_retL (r := [(0 : Int), ((1 : Int) + n7)]) fun _ he => ⟨rfl, outs_of rfl rfl he⟩)))))))))))))))))))))))) (rs_nxs (rs_last (rs_retL (rk_lst (rk_acons (rk_pure (d := (eI cell0)) (ep_var (d := (eI cell0)) rfl)  (rk_acons (rk_bin (rk_pure (d := (eI (1 : Int))) ep_C  (rk_bin (rk_pure (d := (eI (cell0 + k0))) (ep_bin (ep_var (d := (eI cell0)) rfl) (ep_var (d := (eI k0)) rfl) rfl)  (rk_pure (d := (eI (2147483646 : Int))) ep_C  (rk_mod fun n8 => (rk_put rfl (rk_anil (rk_put (if_pos (Nat.le_of_ble_eq_true rfl)) (rk_retL (r := [cell0, ((1 : Int) + n8)]) fun _ he => ⟨rfl, outs_of rfl rfl he⟩)))))))))))))))))))))))))))))))))
def n_look_at_half (skin0 : ((List Int) × (List (Option Int)))) (half0 : Int) : N Unit := Ct.fp (
 (if ((decide (half0 < (0 : Int))) || (decide ((skin0.1.length : Int) ≤ half0))) = true then
 .ex ⟨"NoHalf", none⟩ else
 .nx ()) : Ct Unit Unit Unit)
def n_patch_of (skin0 : ((List Int) × (List (Option Int)))) (half0 : Int) : N (List Int) := Ct.fn (
 (n_look_at_half skin0 half0).ct fun u0 =>
 (idx skin0.1 half0).ct fun a0 =>
 (whileC ((P2 fun found0 at0 => Ct.fn (.rt (!(decide (at0 = half0))) : Ct Unit Unit Bool))) ((P2 fun found0 at0 =>
 ((appN found0 at0).ct fun found1 =>
 (idx skin0.1 at0).ct fun a1 =>
 .nx (found1, a1) : Ct ((List Int) × Int) ((List Int) × Int) _))) FUEL ([half0], a0)).sq (P2 fun found2 at1 =>
 .rt found2) : Ct Unit Unit (List Int))
end
end NW
set_option Elab.async false
set_option linter.all false
set_option maxRecDepth 100000
set_option maxHeartbeats 4000000
namespace K52
open PySem L2 DL LW NT NW
noncomputable section
def n__law_kinds (e0 : D) : N Str := Ct.fn (
 (ofO (isXB "Harm" e0)).ct fun b0 =>
 (ofO (isXB "NoHalf" e0)).ct fun b1 =>
 (ofO (isXB "NoMarks" e0)).ct fun b2 =>
 (ofO (isXB "NoPlain" e0)).ct fun b3 =>
 (ofO (isXB "NoRim" e0)).ct fun b4 =>
 (ofO (isXB "NoRow" e0)).ct fun b5 =>
 (ofO (isXB "NoSkin" e0)).ct fun b6 =>
 (ofO (isXB "NoText" e0)).ct fun b7 =>
 (catG [b0, b1, b2, b3] [b4, b5, b6, b7]).ct fun _ =>
 (ofO (isXB "NothingLeft" e0)).ct fun b8 =>
 (ofO (isXB "TooMany" e0)).ct fun b9 =>
 (ofO (isXB "Unfit" e0)).ct fun b10 =>
 (ofO (isXB "Unlike" e0)).ct fun b11 =>
 (catG ([b0, b1, b2, b3] ++ [b4, b5, b6, b7]) [b8, b9, b10, b11]).ct fun _ =>
 (catG [("Harm" : Str), ("NoHalf" : Str), ("NoMarks" : Str), ("NoPlain" : Str), ("NoRim" : Str), ("NoRow" : Str), ("NoSkin" : Str), ("NoText" : Str), ("NothingLeft" : Str), ("TooMany" : Str)] [("Unfit" : Str), ("Unlike" : Str), ("+" : Str)]).ct fun _ =>
 (ofO (isXB "ValueError" e0)).ct fun b12 =>
 (appN (([b0, b1, b2, b3] ++ [b4, b5, b6, b7]) ++ [b8, b9, b10, b11]) b12).ct fun some0 =>
 (rngN (13 : Int)).ct fun xs0 =>
 (lcP (fun k0 => ((idx some0 k0).ct fun a0 =>
 (if a0 = true then
 (idx ([("Harm" : Str), ("NoHalf" : Str), ("NoMarks" : Str), ("NoPlain" : Str), ("NoRim" : Str), ("NoRow" : Str), ("NoSkin" : Str), ("NoText" : Str), ("NothingLeft" : Str), ("TooMany" : Str)] ++ [("Unfit" : Str), ("Unlike" : Str), ("+" : Str)]) k0).ct fun a1 =>
 .rt a1 else .nx ()) : Ct Unit Unit Str)) xs0).ct fun ys0 =>
 (joinN ("" : Str) ys0).ct fun z0 =>
 .rt z0 : Ct Unit Unit Str)
theorem rf__law_kinds (e0 : D) : RF (n__law_kinds e0) (f__law_kinds [.v e0]) (fun r => (eS r)) (fun r => [.no]) := rf_of (n := 4) (b := b__law_kinds) (c0 := [.is (.v e0), .nw, .nw, .nw])
 (rs_asgL (rk_lst (rk_acons (rk_isX (rk_pure (d := e0) (ep_var (d := e0) rfl)  (rk_isXB fun b0 => (rk_acons (rk_isX (rk_pure (d := e0) (ep_var (d := e0) rfl)  (rk_isXB fun b1 => (rk_acons (rk_isX (rk_pure (d := e0) (ep_var (d := e0) rfl)  (rk_isXB fun b2 => (rk_acons (rk_isX (rk_pure (d := e0) (ep_var (d := e0) rfl)  (rk_isXB fun b3 => (rk_anil (rk_put (if_pos (Nat.le_of_ble_eq_true rfl)) (rk_asgL (rs_asgL (rk_binL (rk_varL (rk_elst (rk_lst (rk_acons (rk_isX (rk_pure (d := e0) (ep_var (d := e0) rfl)  (rk_isXB fun b4 => (rk_acons (rk_isX (rk_pure (d := e0) (ep_var (d := e0) rfl)  (rk_isXB fun b5 => (rk_acons (rk_isX (rk_pure (d := e0) (ep_var (d := e0) rfl)  (rk_isXB fun b6 => (rk_acons (rk_isX (rk_pure (d := e0) (ep_var (d := e0) rfl)  (rk_isXB fun b7 => (rk_anil (rk_put (if_pos (Nat.le_of_ble_eq_true rfl)) (rk_catL (f := eB) (xs := [b0, b1, b2, b3]) (ys := [b4, b5, b6, b7]) (rk_asgL (rs_asgL (rk_binL (rk_varL (rk_elst (rk_lst (rk_acons (rk_isX (rk_pure (d := e0) (ep_var (d := e0) rfl)  (rk_isXB fun b8 => (rk_acons (rk_isX (rk_pure (d := e0) (ep_var (d := e0) rfl)  (rk_isXB fun b9 => (rk_acons (rk_isX (rk_pure (d := e0) (ep_var (d := e0) rfl)  (rk_isXB fun b10 => (rk_acons (rk_isX (rk_pure (d := e0) (ep_var (d := e0) rfl)  (rk_isXB fun b11 => (rk_anil (rk_put (if_pos (Nat.le_of_ble_eq_true rfl)) (rk_catL (f := eB) (xs := ([b0, b1, b2, b3] ++ [b4, b5, b6, b7])) (ys := [b8, b9, b10, b11]) (rk_asgL (rs_asg (rk_pure (d := ((eLs eS) [("Harm" : Str), ("NoHalf" : Str), ("NoMarks" : Str), ("NoPlain" : Str), ("NoRim" : Str), ("NoRow" : Str), ("NoSkin" : Str), ("NoText" : Str), ("NothingLeft" : Str), ("TooMany" : Str)])) (ep_elst (ep_lst (ep_acons ep_C (ep_acons ep_C (ep_acons ep_C (ep_acons ep_C (ep_acons ep_C (ep_acons ep_C (ep_acons ep_C (ep_acons ep_C (ep_acons ep_C (ep_acons ep_C ep_anil))))))))))))  (rk_asgN (rs_asg (rk_elst (rk_binL (rk_pure (d := ((eLs eS) [("Harm" : Str), ("NoHalf" : Str), ("NoMarks" : Str), ("NoPlain" : Str), ("NoRim" : Str), ("NoRow" : Str), ("NoSkin" : Str), ("NoText" : Str), ("NothingLeft" : Str), ("TooMany" : Str)])) (ep_var (d := ((eLs eS) [("Harm" : Str), ("NoHalf" : Str), ("NoMarks" : Str), ("NoPlain" : Str), ("NoRim" : Str), ("NoRow" : Str), ("NoSkin" : Str), ("NoText" : Str), ("NothingLeft" : Str), ("TooMany" : Str)])) rfl)  (rk_pure (d := ((eLs eS) [("Unfit" : Str), ("Unlike" : Str), ("+" : Str)])) (ep_elst (ep_lst (ep_acons ep_C (ep_acons ep_C (ep_acons ep_C ep_anil)))))  (rk_catL (f := eS) (xs := [("Harm" : Str), ("NoHalf" : Str), ("NoMarks" : Str), ("NoPlain" : Str), ("NoRim" : Str), ("NoRow" : Str), ("NoSkin" : Str), ("NoText" : Str), ("NothingLeft" : Str), ("TooMany" : Str)]) (ys := [("Unfit" : Str), ("Unlike" : Str), ("+" : Str)]) (rk_asgN (rs_drop (rk_mo (xs := List.map eB (([b0, b1, b2, b3] ++ [b4, b5, b6, b7]) ++ [b8, b9, b10, b11])) (rk_acons (rk_isX (rk_pure (d := e0) (ep_var (d := e0) rfl)  (rk_isXB fun b12 => (rk_anil (rk_app (fe := eB) (xs := (([b0, b1, b2, b3] ++ [b4, b5, b6, b7]) ++ [b8, b9, b10, b11])) (a := b12) fun some0 => (rs_nf (c' := [.is (.v e0), .is (.l (List.map eB some0)), .is (.v ((eLs eS) ([("Harm" : Str), ("NoHalf" : Str), ("NoMarks" : Str), ("NoPlain" : Str), ("NoRim" : Str), ("NoRow" : Str), ("NoSkin" : Str), ("NoText" : Str), ("NothingLeft" : Str), ("TooMany" : Str)] ++ [("Unfit" : Str), ("Unlike" : Str), ("+" : Str)]))), .nw]) (rs_last (rs_ret (rk_join (rk_pure (d := (eS ("" : Str))) ep_C  (rk_put rfl (rk_elst (rk_lc (rk_rng (j := (13 : Int)) (ep_acons ep_C ep_anil) fun xs0 => (rk_lcP (fe := eI) (fb := eS) (ca := fun k0 => [.is (.v e0), .is (.l (List.map eB some0)), .is (.v ((eLs eS) ([("Harm" : Str), ("NoHalf" : Str), ("NoMarks" : Str), ("NoPlain" : Str), ("NoRim" : Str), ("NoRow" : Str), ("NoSkin" : Str), ("NoText" : Str), ("NothingLeft" : Str), ("TooMany" : Str)] ++ [("Unfit" : Str), ("Unlike" : Str), ("+" : Str)]))), .is (.v (eI k0))]) (fun _ => gs_N) (fun k0 => (rk_ck (rk_tru (rk_ixN (rk_pure (d := (eI k0)) (ep_var (d := (eI k0)) rfl)  (rk_ixAt (d := ((eLs eB) some0)) (rk_ixL (f := eB) (xs := some0) fun a0 => (rk_put rfl (rk_ifF (rk_ixN (rk_pure (d := (eI k0)) (ep_var (d := (eI k0)) rfl)  (rk_ixAt (d := ((eLs eS) ([("Harm" : Str), ("NoHalf" : Str), ("NoMarks" : Str), ("NoPlain" : Str), ("NoRim" : Str), ("NoRow" : Str), ("NoSkin" : Str), ("NoText" : Str), ("NothingLeft" : Str), ("TooMany" : Str)] ++ [("Unfit" : Str), ("Unlike" : Str), ("+" : Str)]))) (rk_ixL (f := eS) (xs := ([("Harm" : Str), ("NoHalf" : Str), ("NoMarks" : Str), ("NoPlain" : Str), ("NoRim" : Str), ("NoRow" : Str), ("NoSkin" : Str), ("NoText" : Str), ("NothingLeft" : Str), ("TooMany" : Str)] ++ [("Unfit" : Str), ("Unlike" : Str), ("+" : Str)])) fun a1 => (rk_retC (fb := eS) (sub_cons wk_is (sub_cons wk_is (sub_cons wk_is (sub_cons wk_is sub_nil)))))) rfl))) (rs_nx fun _ he => he.sub (sub_cons wk_is (sub_cons wk_is (sub_cons wk_is (sub_cons wk_is sub_nil)))))))) rfl)))))) (fun ys0 => (rk_joinK (s := ("" : Str)) (xs := ys0) fun z0 => (rk_ret (r := z0) fun _ he => ⟨rfl, outs_of rfl rfl he⟩))))))))))))))))))))))))))))))))))))))))))))))))))))))))))))))))))))))))))))))))))))))))))))))))))))))
def n_law (script0 : (List Int)) : N Bool := Ct.fn (
 (n__law_bag script0 (0 : Int)).ct fun r0 =>
 (powN (10 : Int) (9 : Int)).ct fun n0 =>
 (n__law_take r0 n0).ct (P2 fun r1 bag0 =>
 (n__law_take bag0 (10 : Int)).ct (P2 fun r2 bag1 =>
 (cutSN ("abcdefghij" : Str) none (some ((1 : Int) + r2))).ct fun z0 =>
 (catG [(excD "Harm" (some ("word", .inr z0))), (excD "NoHalf" none), (excD "NoMarks" none), (excD "NoPlain" none), (excD "NoRim" none), (excD "NoRow" none), (excD "NoSkin" (some ("half", .inl r1)))] [(excD "NoText" none), (excD "NothingLeft" none), (excD "TooMany" none), (excD "Unfit" none), (excD "Unlike" none)]).ct fun _ =>
 (catG [("Harm" : Str), ("NoHalf" : Str), ("NoMarks" : Str), ("NoPlain" : Str), ("NoRim" : Str), ("NoRow" : Str), ("NoSkin" : Str), ("NoText" : Str), ("NothingLeft" : Str), ("TooMany" : Str)] [("Unfit" : Str), ("Unlike" : Str)]).ct fun _ =>
 (lcP (fun one0 => ((n__law_kinds one0).ct fun r3 =>
 .rt r3 : Ct Unit Unit Str)) ([(excD "Harm" (some ("word", .inr z0))), (excD "NoHalf" none), (excD "NoMarks" none), (excD "NoPlain" none), (excD "NoRim" none), (excD "NoRow" none), (excD "NoSkin" (some ("half", .inl r1)))] ++ [(excD "NoText" none), (excD "NothingLeft" none), (excD "TooMany" none), (excD "Unfit" none), (excD "Unlike" none)])).ct fun ys0 =>
 (lcP (fun one1 => ((catS one1 ("+" : Str)).ct fun s0 =>
 .rt s0 : Ct Unit Unit Str)) ([("Harm" : Str), ("NoHalf" : Str), ("NoMarks" : Str), ("NoPlain" : Str), ("NoRim" : Str), ("NoRow" : Str), ("NoSkin" : Str), ("NoText" : Str), ("NothingLeft" : Str), ("TooMany" : Str)] ++ [("Unfit" : Str), ("Unlike" : Str)])).ct fun ys1 =>
 (eqN ((eLs eS) ys0) ((eLs eS) ys1)).ct fun b0 =>
 (if (!b0) = true then
 .rt false else
 (lcP (fun one2 => ((ofO (isXB "SkinError" one2)).ct fun b1 =>
 (if (!b1) = true then
 .rt one2 else .nx ()) : Ct Unit Unit D)) ([(excD "Harm" (some ("word", .inr z0))), (excD "NoHalf" none), (excD "NoMarks" none), (excD "NoPlain" none), (excD "NoRim" none), (excD "NoRow" none), (excD "NoSkin" (some ("half", .inl r1)))] ++ [(excD "NoText" none), (excD "NothingLeft" none), (excD "TooMany" none), (excD "Unfit" none), (excD "Unlike" none)])).ct fun ys2 =>
 (eqN ((eLs eD) ys2) ((eLs eD) ([] : (List D)))).ct fun b2 =>
 (if (!b2) = true then
 .rt false else
 (Ct.fn ((idx ([(excD "Harm" (some ("word", .inr z0))), (excD "NoHalf" none), (excD "NoMarks" none), (excD "NoPlain" none), (excD "NoRim" none), (excD "NoRow" none), (excD "NoSkin" (some ("half", .inl r1)))] ++ [(excD "NoText" none), (excD "NothingLeft" none), (excD "TooMany" none), (excD "Unfit" none), (excD "Unlike" none)]) (0 : Int)).ct fun a0 =>
 (ofO (xfOf "word" a0)).ct fun a1 =>
 (eqN a1 (eS z0)).ct fun b3 =>
 (if b3 = true then
 (idx ([(excD "Harm" (some ("word", .inr z0))), (excD "NoHalf" none), (excD "NoMarks" none), (excD "NoPlain" none), (excD "NoRim" none), (excD "NoRow" none), (excD "NoSkin" (some ("half", .inl r1)))] ++ [(excD "NoText" none), (excD "NothingLeft" none), (excD "TooMany" none), (excD "Unfit" none), (excD "Unlike" none)]) (6 : Int)).ct fun a2 =>
 (ofO (xfOf "half" a2)).ct fun a3 =>
 (eqN a3 (eI r1)).ct fun b4 =>
 (if b4 = true then
 (idx ([(excD "Harm" (some ("word", .inr z0))), (excD "NoHalf" none), (excD "NoMarks" none), (excD "NoPlain" none), (excD "NoRim" none), (excD "NoRow" none), (excD "NoSkin" (some ("half", .inl r1)))] ++ [(excD "NoText" none), (excD "NothingLeft" none), (excD "TooMany" none), (excD "Unfit" none), (excD "Unlike" none)]) (6 : Int)).ct fun a4 =>
 (ofO (xfOf "half" a4)).ct fun a5 =>
 .rt (!(isBoolD a5)) else
 .rt false) else
 .rt false) : Ct Unit Unit Bool)).ct fun b5 =>
 .rt b5)))) : Ct Unit Unit Bool)
theorem rf_law (script0 : (List Int)) : RF (n_law script0) (f_law [.v ((eLs eI) script0)]) (fun r => (eB r)) (fun r => [.no]) := rf_of (n := 7) (b := b_law) (c0 := [.is (.v ((eLs eI) script0)), .nw, .nw, .nw, .nw, .nw, .nw])
 (rs_asgL (rk_callNL (rk_rcons (rk_pure (d := ((eLs eI) script0)) (ep_var (d := ((eLs eI) script0)) rfl)  (rk_rcons (rk_pure (d := (eI (0 : Int))) ep_C  (rk_rnil (rk_callL (rf__law_bag script0 (0 : Int)) (fun r0 => (rk_asgL (rs_asg (rk_callN (rk_lend (rk_rcons (rk_bin (rk_pure (d := (eI (10 : Int))) ep_C  (rk_pure (d := (eI (9 : Int))) ep_C  (rk_pow fun n0 => (rk_rnil (rk_lendK (rk_call (rf__law_take r0 n0) (fun ⟨r1, bag0⟩ => (rk_asgN (rs_asg (rk_sl (rk_pure (d := (eS ("abcdefghij" : Str))) ep_C  (rk_ptN (rk_ptS (rk_bin (rk_pure (d := (eI (1 : Int))) ep_C  (rk_callN (rk_lend (rk_rcons (rk_pure (d := (eI (10 : Int))) ep_C  (rk_rnil (rk_lendK (rk_call (rf__law_take bag0 (10 : Int)) (fun ⟨r2, bag1⟩ => (rk_put rfl (rk_put rfl (rk_slS fun z0 => (rk_asgN (rs_asg (rk_pure (d := ((eLs eD) [(excD "Harm" (some ("word", .inr z0))), (excD "NoHalf" none), (excD "NoMarks" none), (excD "NoPlain" none), (excD "NoRim" none), (excD "NoRow" none), (excD "NoSkin" (some ("half", .inl r1)))])) (ep_elst (ep_lst (ep_acons (ep_mkXF (ep_var (d := (eS z0)) rfl) rfl) (ep_acons (ep_mkX (ep_var (d := (eS z0)) rfl)) (ep_acons (ep_mkX (ep_var (d := (eS z0)) rfl)) (ep_acons (ep_mkX (ep_var (d := (eS z0)) rfl)) (ep_acons (ep_mkX (ep_var (d := (eS z0)) rfl)) (ep_acons (ep_mkX (ep_var (d := (eS z0)) rfl)) (ep_acons (ep_mkXF (ep_var (d := (eI r1)) rfl) rfl) ep_anil)))))))))  (rk_asgN (rs_asg (rk_elst (rk_binL (rk_pure (d := ((eLs eD) [(excD "Harm" (some ("word", .inr z0))), (excD "NoHalf" none), (excD "NoMarks" none), (excD "NoPlain" none), (excD "NoRim" none), (excD "NoRow" none), (excD "NoSkin" (some ("half", .inl r1)))])) (ep_var (d := ((eLs eD) [(excD "Harm" (some ("word", .inr z0))), (excD "NoHalf" none), (excD "NoMarks" none), (excD "NoPlain" none), (excD "NoRim" none), (excD "NoRow" none), (excD "NoSkin" (some ("half", .inl r1)))])) rfl)  (rk_pure (d := ((eLs eD) [(excD "NoText" none), (excD "NothingLeft" none), (excD "TooMany" none), (excD "Unfit" none), (excD "Unlike" none)])) (ep_elst (ep_lst (ep_acons (ep_mkX (ep_var (d := (eS z0)) rfl)) (ep_acons (ep_mkX (ep_var (d := (eS z0)) rfl)) (ep_acons (ep_mkX (ep_var (d := (eS z0)) rfl)) (ep_acons (ep_mkX (ep_var (d := (eS z0)) rfl)) (ep_acons (ep_mkX (ep_var (d := (eS z0)) rfl)) ep_anil)))))))  (rk_catL (f := eD) (xs := [(excD "Harm" (some ("word", .inr z0))), (excD "NoHalf" none), (excD "NoMarks" none), (excD "NoPlain" none), (excD "NoRim" none), (excD "NoRow" none), (excD "NoSkin" (some ("half", .inl r1)))]) (ys := [(excD "NoText" none), (excD "NothingLeft" none), (excD "TooMany" none), (excD "Unfit" none), (excD "Unlike" none)]) (rk_asgN (rs_asg (rk_pure (d := ((eLs eS) [("Harm" : Str), ("NoHalf" : Str), ("NoMarks" : Str), ("NoPlain" : Str), ("NoRim" : Str), ("NoRow" : Str), ("NoSkin" : Str), ("NoText" : Str), ("NothingLeft" : Str), ("TooMany" : Str)])) (ep_elst (ep_lst (ep_acons ep_C (ep_acons ep_C (ep_acons ep_C (ep_acons ep_C (ep_acons ep_C (ep_acons ep_C (ep_acons ep_C (ep_acons ep_C (ep_acons ep_C (ep_acons ep_C ep_anil))))))))))))  (rk_asgN (rs_asg (rk_elst (rk_binL (rk_pure (d := ((eLs eS) [("Harm" : Str), ("NoHalf" : Str), ("NoMarks" : Str), ("NoPlain" : Str), ("NoRim" : Str), ("NoRow" : Str), ("NoSkin" : Str), ("NoText" : Str), ("NothingLeft" : Str), ("TooMany" : Str)])) (ep_var (d := ((eLs eS) [("Harm" : Str), ("NoHalf" : Str), ("NoMarks" : Str), ("NoPlain" : Str), ("NoRim" : Str), ("NoRow" : Str), ("NoSkin" : Str), ("NoText" : Str), ("NothingLeft" : Str), ("TooMany" : Str)])) rfl)  (rk_pure (d := ((eLs eS) [("Unfit" : Str), ("Unlike" : Str)])) (ep_elst (ep_lst (ep_acons ep_C (ep_acons ep_C ep_anil))))  (rk_catL (f := eS) (xs := [("Harm" : Str), ("NoHalf" : Str), ("NoMarks" : Str), ("NoPlain" : Str), ("NoRim" : Str), ("NoRow" : Str), ("NoSkin" : Str), ("NoText" : Str), ("NothingLeft" : Str), ("TooMany" : Str)]) (ys := [("Unfit" : Str), ("Unlike" : Str)]) (rk_asgN (rs_if (rk_tst (rk_bin (rk_elst (rk_lc (rk_seqS (rk_pure (d := ((eLs eD) ([(excD "Harm" (some ("word", .inr z0))), (excD "NoHalf" none), (excD "NoMarks" none), (excD "NoPlain" none), (excD "NoRim" none), (excD "NoRow" none), (excD "NoSkin" (some ("half", .inl r1)))] ++ [(excD "NoText" none), (excD "NothingLeft" none), (excD "TooMany" none), (excD "Unfit" none), (excD "Unlike" none)]))) (ep_var (d := ((eLs eD) ([(excD "Harm" (some ("word", .inr z0))), (excD "NoHalf" none), (excD "NoMarks" none), (excD "NoPlain" none), (excD "NoRim" none), (excD "NoRow" none), (excD "NoSkin" (some ("half", .inl r1)))] ++ [(excD "NoText" none), (excD "NothingLeft" none), (excD "TooMany" none), (excD "Unfit" none), (excD "Unlike" none)]))) rfl)  (rk_put rfl (rk_lcP (fe := eD) (fb := eS) (ca := fun one0 => [.is (.v ((eLs eI) script0)), .is (.l (List.map eI bag1)), .is (.v (eI r1)), .is (.v (eS z0)), .is (.v ((eLs eD) ([(excD "Harm" (some ("word", .inr z0))), (excD "NoHalf" none), (excD "NoMarks" none), (excD "NoPlain" none), (excD "NoRim" none), (excD "NoRow" none), (excD "NoSkin" (some ("half", .inl r1)))] ++ [(excD "NoText" none), (excD "NothingLeft" none), (excD "TooMany" none), (excD "Unfit" none), (excD "Unlike" none)]))), .is (.v ((eLs eS) ([("Harm" : Str), ("NoHalf" : Str), ("NoMarks" : Str), ("NoPlain" : Str), ("NoRim" : Str), ("NoRow" : Str), ("NoSkin" : Str), ("NoText" : Str), ("NothingLeft" : Str), ("TooMany" : Str)] ++ [("Unfit" : Str), ("Unlike" : Str)]))), .is (.v one0)]) (fun _ => gs_N) (fun one0 => (rk_ck1 (rk_callN (rk_rcons (rk_pure (d := one0) (ep_var (d := one0) rfl)  (rk_rnil (rk_call (rf__law_kinds one0) (fun r3 => (rk_retC (fb := eS) (sub_cons wk_is (sub_cons wk_is (sub_cons wk_is (sub_cons wk_is (sub_cons wk_is (sub_cons wk_is (sub_cons wk_is sub_nil))))))))) (fun _ _ _ _ => trivial)))))))) (fun ys0 => (rk_elst (rk_lc (rk_seqS (rk_pure (d := ((eLs eS) ([("Harm" : Str), ("NoHalf" : Str), ("NoMarks" : Str), ("NoPlain" : Str), ("NoRim" : Str), ("NoRow" : Str), ("NoSkin" : Str), ("NoText" : Str), ("NothingLeft" : Str), ("TooMany" : Str)] ++ [("Unfit" : Str), ("Unlike" : Str)]))) (ep_var (d := ((eLs eS) ([("Harm" : Str), ("NoHalf" : Str), ("NoMarks" : Str), ("NoPlain" : Str), ("NoRim" : Str), ("NoRow" : Str), ("NoSkin" : Str), ("NoText" : Str), ("NothingLeft" : Str), ("TooMany" : Str)] ++ [("Unfit" : Str), ("Unlike" : Str)]))) rfl)  (rk_put rfl (rk_lcP (fe := eS) (fb := eS) (ca := fun one1 => [.is (.v ((eLs eI) script0)), .is (.l (List.map eI bag1)), .is (.v (eI r1)), .is (.v (eS z0)), .is (.v ((eLs eD) ([(excD "Harm" (some ("word", .inr z0))), (excD "NoHalf" none), (excD "NoMarks" none), (excD "NoPlain" none), (excD "NoRim" none), (excD "NoRow" none), (excD "NoSkin" (some ("half", .inl r1)))] ++ [(excD "NoText" none), (excD "NothingLeft" none), (excD "TooMany" none), (excD "Unfit" none), (excD "Unlike" none)]))), .is (.v ((eLs eS) ([("Harm" : Str), ("NoHalf" : Str), ("NoMarks" : Str), ("NoPlain" : Str), ("NoRim" : Str), ("NoRow" : Str), ("NoSkin" : Str), ("NoText" : Str), ("NothingLeft" : Str), ("TooMany" : Str)] ++ [("Unfit" : Str), ("Unlike" : Str)]))), .is (.v (eS one1))]) (fun _ => gs_N) (fun one1 => (rk_ck1 (rk_bin (rk_pure (d := (eS one1)) (ep_var (d := (eS one1)) rfl)  (rk_pure (d := (eS ("+" : Str))) ep_C  (rk_catS fun s0 => (rk_retC (fb := eS) (sub_cons wk_is (sub_cons wk_is (sub_cons wk_is (sub_cons wk_is (sub_cons wk_is (sub_cons wk_is (sub_cons wk_is sub_nil)))))))))))))) (fun ys1 => (rk_neD (x := ((eLs eS) ys0)) (y := ((eLs eS) ys1)) fun b0 => (rk_put rfl (rk_ifF (rs_ret (rk_pure (d := (eB false)) ep_C  (rk_ret (r := false) fun _ he => ⟨rfl, outs_of rfl rfl he⟩))) (rs_nxs (rs_if (rk_tst (rk_bin (rk_elst (rk_lc (rk_seqS (rk_pure (d := ((eLs eD) ([(excD "Harm" (some ("word", .inr z0))), (excD "NoHalf" none), (excD "NoMarks" none), (excD "NoPlain" none), (excD "NoRim" none), (excD "NoRow" none), (excD "NoSkin" (some ("half", .inl r1)))] ++ [(excD "NoText" none), (excD "NothingLeft" none), (excD "TooMany" none), (excD "Unfit" none), (excD "Unlike" none)]))) (ep_var (d := ((eLs eD) ([(excD "Harm" (some ("word", .inr z0))), (excD "NoHalf" none), (excD "NoMarks" none), (excD "NoPlain" none), (excD "NoRim" none), (excD "NoRow" none), (excD "NoSkin" (some ("half", .inl r1)))] ++ [(excD "NoText" none), (excD "NothingLeft" none), (excD "TooMany" none), (excD "Unfit" none), (excD "Unlike" none)]))) rfl)  (rk_put rfl (rk_lcP (fe := eD) (fb := eD) (ca := fun one2 => [.is (.v ((eLs eI) script0)), .is (.l (List.map eI bag1)), .is (.v (eI r1)), .is (.v (eS z0)), .is (.v ((eLs eD) ([(excD "Harm" (some ("word", .inr z0))), (excD "NoHalf" none), (excD "NoMarks" none), (excD "NoPlain" none), (excD "NoRim" none), (excD "NoRow" none), (excD "NoSkin" (some ("half", .inl r1)))] ++ [(excD "NoText" none), (excD "NothingLeft" none), (excD "TooMany" none), (excD "Unfit" none), (excD "Unlike" none)]))), .is (.v ((eLs eS) ([("Harm" : Str), ("NoHalf" : Str), ("NoMarks" : Str), ("NoPlain" : Str), ("NoRim" : Str), ("NoRow" : Str), ("NoSkin" : Str), ("NoText" : Str), ("NothingLeft" : Str), ("TooMany" : Str)] ++ [("Unfit" : Str), ("Unlike" : Str)]))), .is (.v one2)]) (fun _ => gs_N) (fun one2 => (rk_ck (rk_notT (rk_tst (rk_isX (rk_pure (d := one2) (ep_var (d := one2) rfl)  (rk_isXB fun b1 => (rk_put rfl (rk_ifF (rk_pure (d := one2) (ep_var (d := one2) rfl)  (rk_retC (fb := eD) (sub_cons wk_is (sub_cons wk_is (sub_cons wk_is (sub_cons wk_is (sub_cons wk_is (sub_cons wk_is (sub_cons wk_is sub_nil))))))))) (rs_nx fun _ he => he.sub (sub_cons wk_is (sub_cons wk_is (sub_cons wk_is (sub_cons wk_is (sub_cons wk_is (sub_cons wk_is (sub_cons wk_is sub_nil))))))))))))))))) (fun ys2 => (rk_pure (d := ((eLs eD) ([] : (List D)))) (ep_elst (ep_lst ep_anil))  (rk_neD (x := ((eLs eD) ys2)) (y := ((eLs eD) ([] : (List D)))) fun b2 => (rk_put rfl (rk_ifF (rs_ret (rk_pure (d := (eB false)) ep_C  (rk_ret (r := false) fun _ he => ⟨rfl, outs_of rfl rfl he⟩))) (rs_nxs (rs_last (rs_ret (rk_unit (v := fun b5 => eB b5) (c' := fun b5 => [.is (.v ((eLs eI) script0)), .is (.l (List.map eI bag1)), .is (.v (eI r1)), .is (.v (eS z0)), .is (.v ((eLs eD) ([(excD "Harm" (some ("word", .inr z0))), (excD "NoHalf" none), (excD "NoMarks" none), (excD "NoPlain" none), (excD "NoRim" none), (excD "NoRow" none), (excD "NoSkin" (some ("half", .inl r1)))] ++ [(excD "NoText" none), (excD "NothingLeft" none), (excD "TooMany" none), (excD "Unfit" none), (excD "Unlike" none)]))), .is (.v ((eLs eS) ([("Harm" : Str), ("NoHalf" : Str), ("NoMarks" : Str), ("NoPlain" : Str), ("NoRim" : Str), ("NoRow" : Str), ("NoSkin" : Str), ("NoText" : Str), ("NothingLeft" : Str), ("TooMany" : Str)] ++ [("Unfit" : Str), ("Unlike" : Str)]))), .nw]) (rk_and (rk_bin (rk_xf (rk_ixN (rk_pure (d := (eI (0 : Int))) ep_C  (rk_ixAt (d := ((eLs eD) ([(excD "Harm" (some ("word", .inr z0))), (excD "NoHalf" none), (excD "NoMarks" none), (excD "NoPlain" none), (excD "NoRim" none), (excD "NoRow" none), (excD "NoSkin" (some ("half", .inl r1)))] ++ [(excD "NoText" none), (excD "NothingLeft" none), (excD "TooMany" none), (excD "Unfit" none), (excD "Unlike" none)]))) (rk_ixL (f := eD) (xs := ([(excD "Harm" (some ("word", .inr z0))), (excD "NoHalf" none), (excD "NoMarks" none), (excD "NoPlain" none), (excD "NoRim" none), (excD "NoRow" none), (excD "NoSkin" (some ("half", .inl r1)))] ++ [(excD "NoText" none), (excD "NothingLeft" none), (excD "TooMany" none), (excD "Unfit" none), (excD "Unlike" none)])) fun a0 => (rk_xfB fun a1 => (rk_pure (d := (eS z0)) (ep_var (d := (eS z0)) rfl)  (rk_eqD (x := a1) (y := (eS z0)) fun b3 => (rk_put rfl (rk_ifF (rk_and (rk_bin (rk_xf (rk_ixN (rk_pure (d := (eI (6 : Int))) ep_C  (rk_ixAt (d := ((eLs eD) ([(excD "Harm" (some ("word", .inr z0))), (excD "NoHalf" none), (excD "NoMarks" none), (excD "NoPlain" none), (excD "NoRim" none), (excD "NoRow" none), (excD "NoSkin" (some ("half", .inl r1)))] ++ [(excD "NoText" none), (excD "NothingLeft" none), (excD "TooMany" none), (excD "Unfit" none), (excD "Unlike" none)]))) (rk_ixL (f := eD) (xs := ([(excD "Harm" (some ("word", .inr z0))), (excD "NoHalf" none), (excD "NoMarks" none), (excD "NoPlain" none), (excD "NoRim" none), (excD "NoRow" none), (excD "NoSkin" (some ("half", .inl r1)))] ++ [(excD "NoText" none), (excD "NothingLeft" none), (excD "TooMany" none), (excD "Unfit" none), (excD "Unlike" none)])) fun a2 => (rk_xfB fun a3 => (rk_pure (d := (eI r1)) (ep_var (d := (eI r1)) rfl)  (rk_eqD (x := a3) (y := (eI r1)) fun b4 => (rk_put rfl (rk_ifF (rk_not (rk_isi (rk_xf (rk_ixN (rk_pure (d := (eI (6 : Int))) ep_C  (rk_ixAt (d := ((eLs eD) ([(excD "Harm" (some ("word", .inr z0))), (excD "NoHalf" none), (excD "NoMarks" none), (excD "NoPlain" none), (excD "NoRim" none), (excD "NoRow" none), (excD "NoSkin" (some ("half", .inl r1)))] ++ [(excD "NoText" none), (excD "NothingLeft" none), (excD "TooMany" none), (excD "Unfit" none), (excD "Unlike" none)]))) (rk_ixL (f := eD) (xs := ([(excD "Harm" (some ("word", .inr z0))), (excD "NoHalf" none), (excD "NoMarks" none), (excD "NoPlain" none), (excD "NoRim" none), (excD "NoRow" none), (excD "NoSkin" (some ("half", .inl r1)))] ++ [(excD "NoText" none), (excD "NothingLeft" none), (excD "TooMany" none), (excD "Unfit" none), (excD "Unlike" none)])) fun a4 => (rk_xfB fun a5 => (rk_put (isi_bool a5) (rk_put rfl (rk_ret fun _ he => ⟨rfl, he.sub (sub_cons wk_is (sub_cons wk_is (sub_cons wk_is (sub_cons wk_is (sub_cons wk_is (sub_cons wk_is (sub_cons wk_nw sub_nil)))))))⟩))))) rfl)))))) (rk_ret fun _ he => ⟨rfl, he.sub (sub_cons wk_is (sub_cons wk_is (sub_cons wk_is (sub_cons wk_is (sub_cons wk_is (sub_cons wk_is (sub_cons wk_nw sub_nil)))))))⟩))))))) rfl)))))) (rk_ret fun _ he => ⟨rfl, he.sub (sub_cons wk_is (sub_cons wk_is (sub_cons wk_is (sub_cons wk_is (sub_cons wk_is (sub_cons wk_is (sub_cons wk_nw sub_nil)))))))⟩))))))) rfl)))))) (fun b5 => (rk_ret (r := b5) fun _ he => ⟨rfl, outs_of rfl rfl he⟩)))))))))))))))))))))))))))))))))))))))))))))))))))))))))))))))))) (fun _ _ _ _ => trivial))))))))))))))))) (fun _ _ _ _ => trivial)))))))))))))) (fun _ _ _ _ => trivial)))))))))
end
end K52
set_option Elab.async false
set_option linter.all false
set_option maxRecDepth 100000
set_option maxHeartbeats 4000000
namespace NP
open PySem L2 DL LW NT NW
abbrev nI (L : List Nat) : List Int := L.map fun (k : Nat) => (k : Int)
abbrev oI (L : List (Option Nat)) : List (Option Int) := L.map fun o => o.map fun (k : Nat) => (k : Int)
theorem idx_k {α : Type} {xs : List α} {i : Nat} {a : α} (h : xs[i]? = some a) : idx xs (i : Int) = .ok a := by
  unfold idx
  rw [atI_nat h]
  rfl
theorem idx_at {α : Type} {xs : List α} {i : Nat} (h : i < xs.length) : idx xs (i : Int) = .ok xs[i] := idx_k (List.getElem?_eq_getElem h)
theorem setN_k {α : Type} {xs : List α} {i : Nat} (h : i < xs.length) (a : α) : setN xs (i : Int) a = .ok (xs.set i a) := by
  unfold setN
  rw [ixN_of h]
theorem rngN_k {n : Nat} (h : n ≤ 1000000) : rngN (n : Int) = .ok (nI (List.range n)) := by
  unfold rngN
  rw [if_pos (i62_of (by omega) (by omega))]
  simp [rgI]
@[simp] theorem nI_len (L : List Nat) : (nI L).length = L.length := by simp
abbrev bg (s : Int × Int) : List Int := [s.1, s.2]
theorem idx0 {α : Type} (x : α) (r : List α) : idx (x :: r) 0 = .ok x := idx_k (i := 0) rfl
theorem idx1 {α : Type} (x y : α) (r : List α) : idx (x :: y :: r) 1 = .ok y := idx_k (i := 1) rfl
theorem set0 {α : Type} (x : α) (r : List α) (a : α) : setN (x :: r) 0 a = .ok (a :: r) := setN_k (i := 0) (by simp) a
theorem set1 {α : Type} (x y : α) (r : List α) (a : α) : setN (x :: y :: r) 1 a = .ok (x :: a :: r) := setN_k (i := 1) (by simp) a
theorem take_n (s : Int × Int) (m : Int) (hm : 0 < m) (hm2 : m < 2 ^ 64) : ∃ r s', 0 ≤ r ∧ r < m ∧ n__law_take (bg s) m = .ok (r, bg s') := by
  have h64 := divOk_of hm hm2
  obtain ⟨x, y⟩ := s
  by_cases hx : 0 < x
  · refine ⟨x % m, (x / m, y), Int.emod_nonneg _ (by omega), Int.emod_lt_of_pos _ hm, ?_⟩
    simp [n__law_take, idx0, hx, modN, hm, divN, h64, set0]
  · have c1 : mulOk y 48271 = true := mulOk_r (by decide) (by decide)
    have b1 : 0 ≤ y * 48271 % 2147483647 := Int.emod_nonneg _ (by decide)
    have b2 : y * 48271 % 2147483647 < 2147483647 := Int.emod_lt_of_pos _ (by decide)
    have c3 : mulOk (y * 48271 % 2147483647) (y * 48271 % 2147483647) = true := mulOk_l (by omega) (by omega)
    have c5 : divOk 64 = true := divOk_of (by decide) (by decide)
    refine ⟨(y * 48271 % 2147483647) * (y * 48271 % 2147483647) % 2147483629 / 64 % m, (x, y * 48271 % 2147483647), Int.emod_nonneg _ (by omega), Int.emod_lt_of_pos _ hm, ?_⟩
    generalize hz : y * 48271 % 2147483647 = z at c3
    simp [n__law_take, idx0, hx, idx1, modN, hm, divN, mulN, c1, hz, set1, c3, c5]
theorem pow60 : powN 10 60 = .ok ((10 : Int) ^ (60 : Int).toNat) := by
  unfold powN
  rw [if_pos powOk60]
theorem pow18 : powN 10 18 = .ok T18 := by
  unfold powN
  rw [if_pos powOk18]
  rfl
theorem mul60 : mulN ((10 : Int) ^ (60 : Int).toNat) ((10 : Int) ^ (60 : Int).toNat) = .ok T120 := by
  unfold mulN
  rw [if_pos mulOk60]
  rfl
theorem bag_n (ns : List Int) (k : Int) (hk : 0 ≤ k) : ∃ s, n__law_bag ns k = .ok (bg s) := by
  have m1 : ∀ c : Int, mulOk c 7919 = true := fun c => mulOk_r (by decide) (by decide)
  have m2 : mulOk 104729 k = true := mulOk_l (by decide) (by decide)
  obtain ⟨cell, hc⟩ : ∃ cell : Int, (if decide (k < (ns.length : Int)) = true then
      (idx ns k).ct fun a0 => (powN 10 60).ct fun n0 => (powN 10 60).ct fun n1 => (mulN n0 n1).ct fun n2 => (modN a0 n2).ct fun n3 => .nx n3 else .nx 0 : Ct Int Unit (List Int)) = .nx cell := by
    by_cases c : k < (ns.length : Int)
    · obtain ⟨n, rfl⟩ := Int.eq_ofNat_of_zero_le hk
      have hl : n < ns.length := by omega
      refine ⟨ns[n] % T120, ?_⟩
      rw [if_pos (by simpa using c), idx_at hl]
      simp only [ct_ok, pow60, mul60, modN, if_pos T120_pos]
    · exact ⟨0, by rw [if_neg (by simpa using c)]⟩
  unfold n__law_bag
  rw [hc]
  simp only [sq_nx, pow18, ct_ok]
  by_cases h : cell < T18
  · exact ⟨(0, 1 + (cell * 7919 + 104729 * k) % 2147483646), by simp [h, mulN, m1, m2, modN]⟩
  · exact ⟨(cell, 1 + (cell + k) % 2147483646), by simp [h, modN]⟩
end NP
set_option Elab.async false
set_option linter.all false
set_option maxRecDepth 100000
set_option maxHeartbeats 4000000
namespace NP
open PySem L2 DL LW NT NW
end NP
set_option Elab.async false
set_option linter.all false
set_option maxRecDepth 100000
set_option maxHeartbeats 4000000
namespace NP
/-- one behind the other -/
def Lk (f : Nat → Option Nat) (l : List Nat) : Prop := ∀ i a b, l[i]? = some a → l[i + 1]? = some b → f a = some b
structure Fw (f : Nat → Option Nat) (x : Nat) (l : List Nat) : Prop where
  hd : l[0]? = some x
  lk : Lk f l
  ne : ∀ i : Nat, l[i + 1]? ≠ some x
/-- a walk from x that is at its end -/
structure FwC (f : Nat → Option Nat) (x : Nat) (l : List Nat) : Prop extends Fw f x l where
  fin : ∀ z, l.getLast? = some z → f z = none ∨ f z = some x
def Inj (f : Nat → Option Nat) : Prop := ∀ a b c, f a = some c → f b = some c → a = b
theorem Fw.one (f : Nat → Option Nat) (x : Nat) : Fw f x [x] := ⟨rfl, fun i a b _ h => by simp at h, fun i h => by simp at h⟩
theorem Fw.ne_nil {f : Nat → Option Nat} {x : Nat} {l : List Nat} (h : Fw f x l) : l ≠ [] := fun e => by have := h.hd; rw [e] at this; cases this
theorem Lk.snoc {f : Nat → Option Nat} {l : List Nat} (h : Lk f l) {z y : Nat} (hz : l.getLast? = some z) (hy : f z = some y) : Lk f (l ++ [y]) := fun i a b ha hb => by
  have hl : l ≠ [] := fun e => by rw [e] at hz; cases hz
  have lb := (List.getElem?_eq_some_iff.mp hb).1
  rw [List.length_append] at lb
  simp at lb
  by_cases c : i + 1 < l.length
  · rw [List.getElem?_append_left (by omega)] at ha
    rw [List.getElem?_append_left c] at hb
    exact h i a b ha hb
  · have e : i + 1 = l.length := by omega
    rw [List.getElem?_append_left (by omega)] at ha
    rw [List.getElem?_append_right (by omega), e] at hb
    simp at hb
    rw [List.getLast?_eq_getElem?] at hz
    rw [show l.length - 1 = i by omega, ha] at hz
    cases hz
    rw [← hb]
    exact hy
theorem Fw.snoc {f : Nat → Option Nat} {x : Nat} {l : List Nat} (h : Fw f x l) {z y : Nat} (hz : l.getLast? = some z) (hy : f z = some y) (hx : y ≠ x) : Fw f x (l ++ [y]) := by
  have hl : 0 < l.length := List.length_pos_iff.2 h.ne_nil
  refine ⟨by rw [List.getElem?_append_left hl]; exact h.hd, h.lk.snoc hz hy, fun i hi => ?_⟩
  by_cases c : i + 1 < l.length
  · rw [List.getElem?_append_left c] at hi
    exact h.ne i hi
  · rw [List.getElem?_append_right (by omega)] at hi
    have : i + 1 - l.length = 0 := by
      have := (List.getElem?_eq_some_iff.mp hi).1
      simp at this
      omega
    rw [this] at hi
    simp at hi
    exact hx hi
theorem Fw.nodup {f : Nat → Option Nat} (inj : Inj f) {x : Nat} {l : List Nat} (h : Fw f x l) : l.Nodup := by
  have key : ∀ (i d : Nat) (a : Nat), l[i]? = some a → l[i + (d + 1)]? = some a → False := by
    intro i
    induction i with
    | zero =>
      intro d a h1 h2
      rw [h.hd] at h1
      cases h1
      rw [Nat.zero_add] at h2
      exact h.ne d h2
    | succ i ih =>
      intro d a h1 h2
      have l1 := (List.getElem?_eq_some_iff.mp h1).1
      have l2 := (List.getElem?_eq_some_iff.mp h2).1
      have e1 : l[i]? = some l[i] := List.getElem?_eq_getElem (by omega)
      have e2 : l[i + (d + 1)]? = some l[i + (d + 1)] := List.getElem?_eq_getElem (by omega)
      have f1 := h.lk i _ _ e1 h1
      have f2 := h.lk (i + (d + 1)) _ a e2 (by rw [show i + (d + 1) + 1 = i + 1 + (d + 1) by omega]; exact h2)
      have := inj _ _ _ f1 f2
      exact ih d l[i] e1 (by rw [e2, this])
  rw [List.nodup_iff_pairwise_ne, List.pairwise_iff_getElem]
  intro i j hi hj hij e
  refine key i (j - i - 1) l[i] (List.getElem?_eq_getElem hi) ?_
  rw [show i + (j - i - 1 + 1) = j by omega, List.getElem?_eq_getElem hj, e]
theorem nodup_len : ∀ (n : Nat) (l : List Nat), l.Nodup → (∀ a, a ∈ l → a < n) → l.length ≤ n
  | 0, l, _, h => by
    cases l with
    | nil => exact Nat.le_refl _
    | cons a l => exact absurd (h a (List.mem_cons_self ..)) (Nat.not_lt_zero _)
  | n + 1, l, hn, h => by
    have h1 := nodup_len n (l.erase n) (hn.sublist List.erase_sublist) (fun a ha => by
      have := (hn.mem_erase_iff.1 ha)
      have h2 := h a this.2
      have := this.1
      omega)
    have : l.length ≤ (l.erase n).length + 1 := by
      rw [List.length_erase]
      split <;> omega
    omega
/-- all lie within, if the first does -/
theorem Fw.lt {f : Nat → Option Nat} {x n : Nat} (hf : ∀ a b, f a = some b → b < n) (hx : x < n) {l : List Nat} (h : Fw f x l) : ∀ a, a ∈ l → a < n := fun a ha => by
  obtain ⟨i, hi, e⟩ := List.mem_iff_getElem.1 ha
  cases i with
  | zero =>
    have := h.hd
    rw [List.getElem?_eq_getElem hi] at this
    cases this
    rw [← e]
    exact hx
  | succ i =>
    have := h.lk i _ _ (List.getElem?_eq_getElem (by omega)) (List.getElem?_eq_getElem hi)
    rw [← e]
    exact hf _ _ this
theorem Fw.len {f : Nat → Option Nat} {x n : Nat} (inj : Inj f) (hf : ∀ a b, f a = some b → b < n) (hx : x < n) {l : List Nat} (h : Fw f x l) : l.length ≤ n := nodup_len n l (h.nodup inj) (h.lt hf hx)
section
variable {n : Nat} {on : List Nat} {ms : List (Option Nat)}
def nx (on : List Nat) (h : Nat) : Nat := on.getD h 0
def ah (on : List Nat) (h : Nat) : Nat := on.idxOf h
def mt (ms : List (Option Nat)) (h : Nat) : Option Nat := (ms[h]?).join
def lf (on : List Nat) (ms : List (Option Nat)) (h : Nat) : Option Nat := mt ms (ah on h)
def rt (on : List Nat) (ms : List (Option Nat)) (h : Nat) : Option Nat := (mt ms h).map (nx on)
open LW
theorem SkinP.lenO (S : SkinP n on ms) : on.length = n := by rw [S.perm.length_eq]; simp
theorem nx_at (S : SkinP n on ms) {h : Nat} (hh : h < n) : on[h]? = some (nx on h) := by
  have : h < on.length := by rw [SkinP.lenO S]; exact hh
  simp [nx, List.getD, List.getElem?_eq_getElem this]
theorem nx_lt (S : SkinP n on ms) {h : Nat} (hh : h < n) : nx on h < n := by
  have := List.mem_of_getElem? (nx_at S hh)
  exact List.mem_range.1 (S.perm.mem_iff.1 this)
theorem on_nodup (S : SkinP n on ms) : on.Nodup := S.perm.nodup_iff.2 List.nodup_range
theorem ah_lt (S : SkinP n on ms) {h : Nat} (hh : h < n) : ah on h < n := by
  have : h ∈ on := S.perm.mem_iff.2 (List.mem_range.2 hh)
  have := List.idxOf_lt_length_iff.2 this
  rw [SkinP.lenO S] at this
  exact this
theorem nx_ah (S : SkinP n on ms) {h : Nat} (hh : h < n) : nx on (ah on h) = h := by
  have h1 : on.idxOf h < on.length := by rw [SkinP.lenO S]; exact ah_lt S hh
  have := List.getElem_idxOf h1
  simp only [nx, ah, List.getD, List.getElem?_eq_getElem h1, Option.getD_some]
  exact this
theorem nx_inj (S : SkinP n on ms) {a b : Nat} (ha : a < n) (hb : b < n) (e : nx on a = nx on b) : a = b := by
  exact getD_inj (on_nodup S) (by rw [SkinP.lenO S]; exact ha) (by rw [SkinP.lenO S]; exact hb) e
theorem mt_some (S : SkinP n on ms) {a b : Nat} (h : mt ms a = some b) : a < n ∧ b < n ∧ b ≠ a ∧ mt ms b = some a := by
  unfold mt at h
  cases q : ms[a]? with
  | none => rw [q] at h; cases h
  | some o =>
    rw [q] at h
    have h' : o = some b := h
    subst h'
    obtain ⟨h1, h2, h3⟩ := S.mate a b q
    have := (List.getElem?_eq_some_iff.mp q).1
    exact ⟨by rw [← S.len]; exact this, h1, h2, by unfold mt; rw [h3]; rfl⟩
theorem lf_rt (S : SkinP n on ms) {a b : Nat} (ha : a < n) (h : lf on ms a = some b) : b < n ∧ rt on ms b = some a := by
  obtain ⟨h1, h2, h3, h4⟩ := mt_some S h
  refine ⟨h2, ?_⟩
  unfold rt
  rw [h4]
  exact congrArg some (nx_ah S ha)
theorem lf_lt (S : SkinP n on ms) {a b : Nat} (h : lf on ms a = some b) : a < n := by
  obtain ⟨h1, _⟩ := mt_some S h
  have h2 : on.idxOf a < on.length := by rw [SkinP.lenO S]; exact h1
  have := List.idxOf_lt_length_iff.1 h2
  exact List.mem_range.1 (S.perm.mem_iff.1 this)
end
theorem Lk.drop {f : Nat → Option Nat} {l : List Nat} (h : Lk f l) (k : Nat) : Lk f (l.drop k) := fun i a b ha hb => by
  rw [List.getElem?_drop] at ha hb
  exact h (k + i) a b ha (by rw [show k + i + 1 = k + (i + 1) by omega]; exact hb)
end NP
set_option Elab.async false
set_option linter.all false
set_option maxRecDepth 100000
set_option maxHeartbeats 4000000
namespace NP
open PySem L2 DL LW NT NW
abbrev sk (on : List Nat) (ms : List (Option Nat)) : List Int × List (Option Int) := (nI on, oI ms)
abbrev oc (o : Option Nat) : Option Int := o.map fun (k : Nat) => (k : Int)
theorem appN_n {L : List Nat} {y : Nat} (h : L.length < 100000) : appN (nI L) (y : Int) = .ok (nI (L ++ [y])) := by
  unfold appN
  rw [if_pos (by simpa using h)]
  simp
section
variable {n : Nat} {on : List Nat} {ms : List (Option Nat)} (S : SkinP n on ms)
include S
theorem look_n {h : Nat} (hh : h < n) : n_look_at_half (sk on ms) (h : Int) = .ok () := by
  unfold n_look_at_half
  have a : ¬ ((h : Int) < 0) := by omega
  have b : ¬ (((nI on).length : Int) ≤ (h : Int)) := by rw [nI_len, SkinP.lenO S]; omega
  simp only [a, b, decide_false, Bool.or_self, Bool.false_eq_true, if_false, fp_nx]
theorem at_on {h : Nat} (hh : h < n) : idx (nI on) (h : Int) = .ok (nx on h : Int) := idx_k (by simp [nx_at S hh])
end
def tot (D : Nat → Bool) (g : Nat → Nat) : Nat → Option Nat := fun a => if D a = true then some (g a) else none
structure TotOk (n : Nat) (D : Nat → Bool) (g : Nat → Nat) : Prop where
  lt : ∀ a, D a = true → a < n
  st : ∀ a, D a = true → D (g a) = true
  inj : ∀ a b, D a = true → D b = true → g a = g b → a = b
theorem TotOk.inj' {n : Nat} {D : Nat → Bool} {g : Nat → Nat} (T : TotOk n D g) : Inj (tot D g) := fun a b c h1 h2 => by
  unfold tot at h1 h2
  by_cases p : D a = true
  · by_cases q : D b = true
    · rw [if_pos p] at h1
      rw [if_pos q] at h2
      injection h1 with h1
      injection h2 with h2
      exact T.inj a b p q (h1.trans h2.symm)
    · rw [if_neg q] at h2; cases h2
  · rw [if_neg p] at h1; cases h1
theorem TotOk.ub {n : Nat} {D : Nat → Bool} {g : Nat → Nat} (T : TotOk n D g) (a b : Nat) (h : tot D g a = some b) : b < n := by
  unfold tot at h
  split at h <;> cases h
  rename_i p
  exact T.lt _ (T.st _ p)
theorem tot_on {D : Nat → Bool} {g : Nat → Nat} {a : Nat} (h : D a = true) : tot D g a = some (g a) := by unfold tot; rw [if_pos h]
theorem loopA {ρ l : Type} {n : Nat} {D : Nat → Bool} {g : Nat → Nat} (T : TotOk n D g) (hn : n ≤ 1000) {x : Nat} (hx : D x = true) (step : Int → N Int) (hs : ∀ a, D a = true → step (a : Int) = .ok (g a : Int)) :
    ∃ lst, FwC (tot D g) x lst ∧ (∀ a, a ∈ lst → D a = true) ∧ (whileC (P2 fun (found0 : List Int) (at0 : Int) => Ct.fn (.rt (!(decide (at0 = (x : Int)))) : Ct Unit Unit Bool)) (P2 fun found0 at0 => ((appN found0 at0).ct fun found1 => (step at0).ct fun a1 => .nx (found1, a1) : Ct (List Int × Int) (List Int × Int) ρ)) FUEL ([(x : Int)], (g x : Int)) : Ct (List Int × Int) l ρ) = .nx (nI lst, (x : Int)) := by
  obtain ⟨st, e, lst, z, f, hz, rfl, hD, hxz⟩ := while_ok (l := l) (ρ := ρ) (t := P2 fun (found0 : List Int) (at0 : Int) => Ct.fn (.rt (!(decide (at0 = (x : Int)))) : Ct Unit Unit Bool)) (body := P2 fun found0 at0 => ((appN found0 at0).ct fun found1 => (step at0).ct fun a1 => .nx (found1, a1) : Ct (List Int × Int) (List Int × Int) ρ))
    (fun k st => ∃ lst z, Fw (tot D g) x lst ∧ lst.getLast? = some z ∧ st = (nI lst, (g z : Int)) ∧ (∀ a, a ∈ lst → D a = true) ∧ k = n - lst.length)
    (fun st => ∃ lst z, Fw (tot D g) x lst ∧ lst.getLast? = some z ∧ st = (nI lst, (x : Int)) ∧ (∀ a, a ∈ lst → D a = true) ∧ g z = x)
    FUEL (n - 1) ([(x : Int)], (g x : Int)) (by have := fuel_le; omega) ⟨[x], x, Fw.one _ _, rfl, rfl, fun a ha => by rw [List.mem_singleton.1 ha]; exact hx, by simp⟩ (by
      rintro k _ ⟨lst, z, f, hz, rfl, hD, rfl⟩
      have hDz : D z = true := hD z (List.mem_of_getLast? hz)
      by_cases c : g z = x
      · left
        exact ⟨by simp [c], lst, z, f, hz, by rw [c], hD, c⟩
      · right
        have c' : ¬ ((g z : Int) = (x : Int)) := by omega
        have f2 := f.snoc hz (tot_on hDz) c
        have l1 := f.len T.inj' T.ub (T.lt x hx)
        have l2 := f2.len T.inj' T.ub (T.lt x hx)
        rw [List.length_append] at l2
        simp only [List.length_singleton] at l2
        refine ⟨by simp [c'], (nI (lst ++ [g z]), (g (g z) : Int)), n - (lst ++ [g z]).length, .inl ?_, ?_, lst ++ [g z], g z, f2, by simp, rfl, ?_, rfl⟩
        · simp only [P2, appN_n (show lst.length < 100000 by omega), ct_ok, hs _ (T.st _ hDz)]
        · rw [List.length_append]; simp only [List.length_singleton]; omega
        · intro a ha
          rcases List.mem_append.1 ha with ha | ha
          · exact hD a ha
          · rw [List.mem_singleton.1 ha]; exact T.st _ hDz)
  refine ⟨lst, ⟨f, fun w hw => ?_⟩, hD, e⟩
  rw [hz] at hw
  cases hw
  exact .inr (by rw [tot_on (hD z (List.mem_of_getLast? hz)), hxz])
section
variable {n : Nat} {on : List Nat} {ms : List (Option Nat)} (S : SkinP n on ms)
include S
def inB (n : Nat) (a : Nat) : Bool := decide (a < n)
theorem patch_tot : TotOk n (inB n) (nx on) where
  lt := fun a h => by simpa [inB] using h
  st := fun a h => by simp [inB] at *; exact nx_lt S h
  inj := fun a b h1 h2 e => by simp [inB] at *; exact nx_inj S h1 h2 e
/-- what is a patch -/
def PatchW (n : Nat) (on : List Nat) (h : Nat) (l : List Nat) : Prop := FwC (tot (inB n) (nx on)) h l
theorem patch_n (hn : n ≤ 1000) {h : Nat} (hh : h < n) : ∃ l, PatchW n on h l ∧ (∀ a, a ∈ l → a < n) ∧ n_patch_of (sk on ms) (h : Int) = .ok (nI l) := by
  obtain ⟨lst, f, hD, e⟩ := loopA (l := Unit) (ρ := List Int) (patch_tot S) hn (x := h) (by simpa [inB] using hh) (fun a => idx (nI on) a) (fun a ha => at_on S (by simpa [inB] using ha))
  refine ⟨lst, f, fun a ha => by simpa [inB] using hD a ha, ?_⟩
  unfold n_patch_of
  simp only [look_n S hh, at_on S hh, ct_ok]
  rw [e]
  rfl
end
end NP
set_option Elab.async false
set_option linter.all false
set_option maxRecDepth 100000
set_option maxHeartbeats 4000000
namespace NP
open PySem L2 DL LW NT NW
theorem Lk.cons {f : Nat → Option Nat} {l : List Nat} (h : Lk f l) {x y : Nat} (hx : l[0]? = some x) (hy : f y = some x) : Lk f (y :: l) := fun i a b ha hb => by
  cases i with
  | zero =>
    simp at ha hb
    subst ha
    rw [hx] at hb
    cases hb
    exact hy
  | succ i => exact h i a b (by simpa using ha) (by simpa using hb)
section
variable {n : Nat} {on : List Nat} {ms : List (Option Nat)} (S : SkinP n on ms)
include S
theorem inv1 (a b : Nat) (h : lf on ms a = some b) : rt on ms b = some a := (lf_rt S (lf_lt S h) h).2
end
end NP
set_option Elab.async false
set_option linter.all false
set_option maxRecDepth 100000
set_option maxHeartbeats 4000000
namespace NP
open PySem L2 DL LW NT NW
end NP
set_option Elab.async false
set_option linter.all false
set_option maxRecDepth 100000
set_option maxHeartbeats 4000000
namespace NP
open PySem L2 DL LW NT NW
def kv (ks : List Nat) : List (Int × Bool) := ks.map fun (k : Nat) => ((k : Int), true)
def adk (ks : List Nat) (k : Nat) : List Nat := if k ∈ ks then ks else ks ++ [k]
structure Kb (n : Nat) (ks : List Nat) : Prop where
  nd : ks.Nodup
  lt : ∀ k, k ∈ ks → k < n
theorem Kb.len {n : Nat} {ks : List Nat} (h : Kb n ks) : ks.length ≤ n := nodup_len n ks h.nd h.lt
theorem Kb.adk {n : Nat} {ks : List Nat} (h : Kb n ks) {k : Nat} (hk : k < n) : Kb n (NP.adk ks k) := by
  unfold NP.adk
  by_cases c : k ∈ ks
  · rw [if_pos c]; exact h
  · rw [if_neg c]
    refine ⟨?_, fun a ha => ?_⟩
    · rw [List.nodup_append]
      refine ⟨h.nd, by simp, fun a ha b hb => ?_⟩
      simp at hb
      subst hb
      exact fun e => c (e ▸ ha)
    · rcases List.mem_append.1 ha with ha | ha
      · exact h.lt a ha
      · rw [List.mem_singleton.1 ha]; exact hk
theorem Kb.all {n : Nat} : ∀ (row : List Nat) {ks : List Nat}, Kb n ks → (∀ a, a ∈ row → a < n) → Kb n (row.foldl NP.adk ks)
  | [], _, h, _ => h
  | a :: row, _, h, hr => Kb.all row (h.adk (hr a (List.mem_cons_self ..))) fun b hb => hr b (List.mem_cons_of_mem _ hb)
end NP
set_option Elab.async false
set_option linter.all false
set_option maxRecDepth 100000
set_option maxHeartbeats 4000000
namespace NP
open PySem L2 DL LW NT NW
end NP
set_option Elab.async false
set_option linter.all false
set_option maxRecDepth 100000
set_option maxHeartbeats 4000000
namespace NP
open PySem L2 DL LW NT NW
end NP
set_option Elab.async false
set_option linter.all false
set_option maxRecDepth 100000
set_option maxHeartbeats 4000000
namespace NP
open PySem L2 DL LW NT NW
end NP
set_option Elab.async false
set_option linter.all false
set_option maxRecDepth 100000
set_option maxHeartbeats 4000000
namespace NP
open PySem L2 DL LW NT NW
end NP
set_option Elab.async false
set_option linter.all false
set_option maxRecDepth 100000
set_option maxHeartbeats 4000000
namespace NP
open PySem L2 DL LW NT NW
end NP
set_option Elab.async false
set_option linter.all false
set_option maxRecDepth 100000
set_option maxHeartbeats 4000000
namespace NP
open PySem L2 DL LW NT NW
/-- reached from a by going on -/
inductive Rea (on : List Nat) (ms : List (Option Nat)) (a : Nat) : Nat → Prop
  | refl : Rea on ms a a
  | nx {b : Nat} : Rea on ms a b → Rea on ms a (nx on b)
  | mt {b c : Nat} : Rea on ms a b → mt ms b = some c → Rea on ms a c
theorem Rea.trans {on : List Nat} {ms : List (Option Nat)} {a b c : Nat} (h : Rea on ms a b) (g : Rea on ms b c) : Rea on ms a c := by
  induction g with
  | refl => exact h
  | nx _ ih => exact ih.nx
  | mt _ e ih => exact ih.mt e
section
variable {n : Nat} {on : List Nat} {ms : List (Option Nat)} (S : SkinP n on ms)
include S
theorem Rea.lt {a b : Nat} (h : Rea on ms a b) (ha : a < n) : b < n := by
  induction h with
  | refl => exact ha
  | nx _ ih => exact nx_lt S ih
  | mt _ e ih => exact (mt_some S e).2.1
theorem rea_back (hn : n ≤ 1000) {h : Nat} (hh : h < n) : Rea on ms (nx on h) h := by
  obtain ⟨l, p, hlt, _⟩ := patch_n S hn hh
  have t : ∀ c, c < n → tot (inB n) (nx on) c = some (nx on c) := fun c hc => tot_on (by simpa [inB] using hc)
  have step : ∀ (i x : Nat), l[i + 1]? = some x → Rea on ms (nx on h) x := fun i => by
    induction i with
    | zero =>
      intro x hx
      have e := p.lk 0 h x p.hd hx
      rw [t h hh] at e
      rw [Option.some.inj e]
      exact .refl
    | succ i ih =>
      intro x hx
      have li : i + 1 < l.length := by have := (List.getElem?_eq_some_iff.mp hx).1; omega
      have hy : l[i + 1]? = some l[i + 1] := List.getElem?_eq_getElem li
      have e := p.lk (i + 1) _ x hy hx
      rw [t _ (hlt _ (List.getElem_mem li))] at e
      rw [← Option.some.inj e]
      exact (ih _ hy).nx
  have hne : l ≠ [] := p.toFw.ne_nil
  obtain ⟨z, hz⟩ : ∃ z, l.getLast? = some z := by
    cases q : l.getLast? with
    | none => exact absurd (List.getLast?_eq_none_iff.1 q) hne
    | some z => exact ⟨z, rfl⟩
  have zl := hlt z (List.mem_of_getLast? hz)
  have fin := p.fin z hz
  rw [t z zl] at fin
  have ez : nx on z = h := by
    rcases fin with q | q
    · cases q
    · exact Option.some.inj q
  rw [List.getLast?_eq_getElem?] at hz
  by_cases c : l.length = 1
  · rw [c] at hz
    have : z = h := by
      have q := p.hd
      rw [show (1 - 1) = 0 from rfl] at hz
      rw [hz] at q
      exact Option.some.inj q
    rw [← this, this, ← this, ez, this]
    exact .refl
  · have lp : 0 < l.length := List.length_pos_iff.2 hne
    have e2 : l.length - 1 = (l.length - 2) + 1 := by omega
    rw [e2] at hz
    have r := (step _ _ hz).nx
    rw [ez] at r
    exact r
theorem Rea.symm (hn : n ≤ 1000) {a b : Nat} (h : Rea on ms a b) (ha : a < n) : Rea on ms b a := by
  induction h with
  | refl => exact .refl
  | nx g ih => exact (rea_back S hn (Rea.lt S g ha)).trans ih
  | mt g e ih => exact (Rea.mt .refl (mt_some S e).2.2.2).trans ih
end
end NP
set_option Elab.async false
set_option linter.all false
set_option maxRecDepth 100000
set_option maxHeartbeats 4000000
namespace NP
open PySem L2 DL LW NT NW
/-- names that stand for what is reached -/
structure Lab (n : Nat) (on : List Nat) (ms : List (Option Nat)) (L : List Nat) : Prop where
  len : L.length = n
  ok : ∀ x v, L[x]? = some v → v ≤ x ∧ Rea on ms x v
theorem Lab.at {n : Nat} {on : List Nat} {ms : List (Option Nat)} {L : List Nat} (h : Lab n on ms L) {x : Nat} (hx : x < n) : ∃ v, L[x]? = some v ∧ v ≤ x ∧ Rea on ms x v := by
  have l : x < L.length := by rw [h.len]; exact hx
  have e : L[x]? = some L[x] := List.getElem?_eq_getElem l
  obtain ⟨a, b⟩ := h.ok x _ e
  exact ⟨_, e, a, b⟩
theorem Lab.set {n : Nat} {on : List Nat} {ms : List (Option Nat)} {L : List Nat} (h : Lab n on ms L) {x v : Nat} (hx : x < n) (hv : v ≤ x) (r : Rea on ms x v) : Lab n on ms (L.set x v) := by
  refine ⟨by simp [h.len], fun y u e => ?_⟩
  by_cases c : x = y
  · subst c
    rw [List.getElem?_set_self (by rw [h.len]; exact hx)] at e
    cases e
    exact ⟨hv, r⟩
  · rw [List.getElem?_set_ne c] at e
    exact h.ok y u e
structure EStep (n : Nat) (on : List Nat) (ms : List (Option Nat)) (L : List Nat) (g : Bool) (L' : List Nat) (g' : Bool) (eqs : Prop) : Prop where
  lab : Lab n on ms L'
  le : L'.sum ≤ L.sum
  up : g' = true → g = true ∨ L'.sum < L.sum
  no : g' = false → g = false ∧ L' = L ∧ eqs
theorem EStep.trans {n : Nat} {on : List Nat} {ms : List (Option Nat)} {L L1 L2 : List Nat} {g g1 g2 : Bool} {p q : Prop} (a : EStep n on ms L g L1 g1 p) (b : EStep n on ms L1 g1 L2 g2 q) : EStep n on ms L g L2 g2 (p ∧ q) where
  lab := b.lab
  le := Nat.le_trans b.le a.le
  up := fun h => by
    rcases b.up h with z | z
    · rcases a.up z with y | y
      · exact .inl y
      · exact .inr (Nat.lt_of_le_of_lt b.le y)
    · exact .inr (Nat.lt_of_lt_of_le z a.le)
  no := fun h => by
    obtain ⟨h1, h2, h3⟩ := b.no h
    obtain ⟨h4, h5, h6⟩ := a.no h1
    exact ⟨h4, h2.trans h5, h6, h3⟩
end NP
set_option Elab.async false
set_option linter.all false
set_option maxRecDepth 100000
set_option maxHeartbeats 4000000
namespace NP
open PySem L2 DL LW NT NW
/-- the halves of x's part, rising -/
def mem (n : Nat) (c : Nat → Nat) (m : Nat) : List Nat := (List.range n).filter fun x => decide (c x = m)
end NP
set_option Elab.async false
set_option linter.all false
set_option maxRecDepth 100000
set_option maxHeartbeats 4000000
namespace NP
open PySem L2 DL LW NT NW
/-- walks that begin somewhere, not too many -/
structure Wk (R : List (List Int)) : Prop where
  ne : ∀ r, r ∈ R → ∃ a t, r = a :: t
  le : R.length ≤ 1000
theorem cat_k {α : Type} {xs ys : List α} (h : xs.length + ys.length ≤ 100000) : catG xs ys = .ok () := by
  unfold catG gd
  rw [decide_eq_true h]
end NP
set_option Elab.async false
set_option linter.all false
set_option maxRecDepth 100000
set_option maxHeartbeats 4000000
set_option autoImplicit false
namespace K52
open PySem L2 DL LW NT NW NP
theorem isX_c {n c : Str} {f : Option (Str × Key)} (hc : c ∈ kNames) : ofO (isXB n (excD c f)) = .ok (tblX n c) := by
  have e : isXB n (excD c f) = if isExcC c = true then some (tblX n c) else none := rfl
  rw [e, if_pos (by simpa [isExcC] using hc)]
  rfl
def wd13 : List Str := ["Harm", "NoHalf", "NoMarks", "NoPlain", "NoRim", "NoRow", "NoSkin", "NoText", "NothingLeft", "TooMany", "Unfit", "Unlike", "+"]
def kin (bs : List Bool) : N Str := Ct.fn (
 (lcP (fun k0 => ((idx bs k0).ct fun a0 =>
 (if a0 = true then
 (idx wd13 k0).ct fun a1 =>
 .rt a1 else .nx ()) : Ct Unit Unit Str)) (nI (List.range 13))).ct fun ys0 =>
 (joinN ("" : Str) ys0).ct fun z0 =>
 .rt z0 : Ct Unit Unit Str)
theorem kinds_k {c : Str} {f : Option (Str × Key)} (hc : c ∈ kNames) : n__law_kinds (excD c f) = kin [tblX "Harm" c, tblX "NoHalf" c, tblX "NoMarks" c, tblX "NoPlain" c, tblX "NoRim" c, tblX "NoRow" c, tblX "NoSkin" c, tblX "NoText" c, tblX "NothingLeft" c, tblX "TooMany" c, tblX "Unfit" c, tblX "Unlike" c, tblX "ValueError" c] := by
  unfold n__law_kinds
  simp only [isX_c hc, ct_ok]
  rw [cat_k (by simp), ct_ok, cat_k (by simp), ct_ok, cat_k (by simp), ct_ok]
  unfold appN
  rw [if_pos (by simp), ct_ok, show ((13 : Int)) = ((13 : Nat) : Int) from rfl, rngN_k (by decide), ct_ok]
  rfl
def okB (n : N Str) (s : Str) : Bool := match n with
  | .ok a => a == s
  | _ => false
theorem okB_ok {n : N Str} {s : Str} (h : okB n s = true) : n = .ok s := by
  cases n with
  | ok a => exact congrArg N.ok (by simpa [okB] using h)
  | ex _ => cases h
  | stuck => cases h
theorem kinds_all : (kNames.all fun c => okB (kin [tblX "Harm" c, tblX "NoHalf" c, tblX "NoMarks" c, tblX "NoPlain" c, tblX "NoRim" c, tblX "NoRow" c, tblX "NoSkin" c, tblX "NoText" c, tblX "NothingLeft" c, tblX "TooMany" c, tblX "Unfit" c, tblX "Unlike" c, tblX "ValueError" c]) (c ++ ("+" : Str))) = true := by decide +kernel
theorem kinds_n {c : Str} {f : Option (Str × Key)} (hc : c ∈ kNames) : n__law_kinds (excD c f) = .ok (c ++ ("+" : Str)) := by
  rw [kinds_k hc]
  exact okB_ok (List.all_eq_true.1 kinds_all c hc)
theorem pow9 : powN 10 9 = .ok 1000000000 := by
  unfold powN
  rw [if_pos (by decide +kernel)]
  rfl
/-- the twelve -/
def xs12 (z : Str) (n : Int) : List (Str × Option (Str × Key)) := [("Harm", some ("word", .inr z)), ("NoHalf", none), ("NoMarks", none), ("NoPlain", none), ("NoRim", none), ("NoRow", none), ("NoSkin", some ("half", .inl n)), ("NoText", none), ("NothingLeft", none), ("TooMany", none), ("Unfit", none), ("Unlike", none)]
def exs (z : Str) (n : Int) : List D := (xs12 z n).map fun p => excD p.1 p.2
theorem xs12_names (z : Str) (n : Int) : (xs12 z n).map (·.1) = kNames := rfl
theorem xs12_mem {z : Str} {n : Int} {p : Str × Option (Str × Key)} (h : p ∈ xs12 z n) : p.1 ∈ kNames := by
  rw [← xs12_names z n]
  exact List.mem_map_of_mem h
theorem compP_at {α β γ : Type} {F : α → Ct Unit Unit β} (e : γ → α) (g : γ → β) (xs : List γ) (hl : xs.length ≤ 100000) (h : ∀ p, p ∈ xs → F (e p) = .rt (g p)) : lcP F (xs.map e) = .ok (xs.map g) := by
  have : ∀ xs : List γ, (∀ p, p ∈ xs → F (e p) = .rt (g p)) → compP F (xs.map e) = .ok (xs.map g) := by
    intro xs
    induction xs with
    | nil => exact fun _ => rfl
    | cons a l ih =>
      intro h
      show compP F (e a :: l.map e) = _
      unfold compP
      rw [h a (List.mem_cons_self ..), ih fun p hp => h p (List.mem_cons_of_mem _ hp)]
      rfl
  unfold lcP
  rw [if_pos (by rw [List.length_map]; exact hl), this xs h]
theorem kin12 (z : Str) (n : Int) : lcP (fun one0 => ((n__law_kinds one0).ct fun r3 => .rt r3 : Ct Unit Unit Str)) (exs z n) = .ok (kNames.map fun c => c ++ ("+" : Str)) := by
  rw [← xs12_names z n, List.map_map]
  exact compP_at (fun p : Str × Option (Str × Key) => excD p.1 p.2) (fun p => p.1 ++ ("+" : Str)) (xs12 z n) (show 12 ≤ 100000 by decide) fun p hp => by rw [kinds_n (xs12_mem hp), ct_ok]
theorem plus12 : lcP (fun one1 => ((catS one1 ("+" : Str)).ct fun s0 => .rt s0 : Ct Unit Unit Str)) kNames = .ok (kNames.map fun c => c ++ ("+" : Str)) := by
  refine lcP_map _ (by decide) fun c hc => ?_
  have : ∀ c, c ∈ kNames → c.length + ("+" : Str).length ≤ 100000 := by decide +kernel
  unfold catS
  rw [if_pos (this c hc), ct_ok]
theorem compP_no {α β γ : Type} {F : α → Ct Unit Unit β} (e : γ → α) (xs : List γ) (hl : xs.length ≤ 100000) (h : ∀ p, p ∈ xs → F (e p) = .nx ()) : lcP F (xs.map e) = .ok [] := by
  have : ∀ xs : List γ, (∀ p, p ∈ xs → F (e p) = .nx ()) → compP F (xs.map e) = .ok [] := by
    intro xs
    induction xs with
    | nil => exact fun _ => rfl
    | cons a l ih =>
      intro h
      show compP F (e a :: l.map e) = _
      unfold compP
      rw [h a (List.mem_cons_self ..), ih fun p hp => h p (List.mem_cons_of_mem _ hp)]
  unfold lcP
  rw [if_pos (by rw [List.length_map]; exact hl), this xs h]
theorem none12 (z : Str) (n : Int) : lcP (fun one2 => ((ofO (isXB "SkinError" one2)).ct fun b1 => (if (!b1) = true then .rt one2 else .nx ()) : Ct Unit Unit D)) (exs z n) = .ok [] :=
  compP_no (fun p : Str × Option (Str × Key) => excD p.1 p.2) (xs12 z n) (show 12 ≤ 100000 by decide) fun p hp => by rw [isX_c (xs12_mem hp), ct_ok]; rfl
theorem eqN_at {d e : D} {b : Bool} (h1 : SeqAt.shaped d = true) (h2 : SeqAt.shaped e = true) (h : PyData.eqv d e = b) : eqN d e = .ok b := by
  unfold eqN
  rw [if_pos ⟨h1, h2⟩, h]
theorem law_n (ns : List Int) (h : ns.length ≤ 63) : n_law ns = .ok true := by
  obtain ⟨s, hb⟩ := bag_n ns 0 (by omega)
  obtain ⟨r, s1, r0, r1, t1⟩ := take_n s 1000000000 (by decide) (by decide)
  obtain ⟨m, s2, m0, m1, t2⟩ := take_n s1 10 (by decide) (by decide)
  obtain ⟨z, ez, oz⟩ : ∃ z, cutSN ("abcdefghij" : Str) none (some ((1 : Int) + m)) = .ok z ∧ PyData.strOk z = true := by
    refine ⟨cutS ("abcdefghij" : Str) none (some ((1 : Int) + m)), ?_, ?_⟩
    · unfold cutSN
      rw [if_pos (by decide +kernel)]
    · have : m = 0 ∨ m = 1 ∨ m = 2 ∨ m = 3 ∨ m = 4 ∨ m = 5 ∨ m = 6 ∨ m = 7 ∨ m = 8 ∨ m = 9 := by omega
      rcases this with rfl | rfl | rfl | rfl | rfl | rfl | rfl | rfl | rfl | rfl <;> decide +kernel
  unfold n_law
  simp only [hb, pow9, t1, t2, ct_ok, P2, ez]
  rw [cat_k (by simp), ct_ok, cat_k (by simp), ct_ok]
  change Ct.fn ((lcP (fun one0 => ((n__law_kinds one0).ct fun r3 => .rt r3 : Ct Unit Unit Str)) (exs z r)).ct fun ys0 =>
    (lcP (fun one1 => ((catS one1 ("+" : Str)).ct fun s0 => .rt s0 : Ct Unit Unit Str)) kNames).ct fun ys1 =>
    (eqN ((eLs eS) ys0) ((eLs eS) ys1)).ct fun b0 =>
    (if (!b0) = true then
    .rt false else
    (lcP (fun one2 => ((ofO (isXB "SkinError" one2)).ct fun b1 => (if (!b1) = true then .rt one2 else .nx ()) : Ct Unit Unit D)) (exs z r)).ct fun ys2 =>
    (eqN ((eLs eD) ys2) ((eLs eD) ([] : (List D)))).ct fun b2 =>
    (if (!b2) = true then
    .rt false else
    (Ct.fn ((idx (exs z r) (0 : Int)).ct fun a0 =>
    (ofO (xfOf "word" a0)).ct fun a1 =>
    (eqN a1 (eS z)).ct fun b3 =>
    (if b3 = true then
    (idx (exs z r) (6 : Int)).ct fun a2 =>
    (ofO (xfOf "half" a2)).ct fun a3 =>
    (eqN a3 (eI r)).ct fun b4 =>
    (if b4 = true then
    (idx (exs z r) (6 : Int)).ct fun a4 =>
    (ofO (xfOf "half" a4)).ct fun a5 =>
    .rt (!(isBoolD a5)) else
    .rt false) else
    .rt false) : Ct Unit Unit Bool)).ct fun b5 =>
    .rt b5)) : Ct Unit Unit Bool) = .ok true
  have q1 : eqN ((eLs eS) (kNames.map fun c => c ++ ("+" : Str))) ((eLs eS) (kNames.map fun c => c ++ ("+" : Str))) = .ok true := eqN_at (by decide +kernel) (by decide +kernel) (by decide +kernel)
  have q2 : eqN ((eLs eD) []) ((eLs eD) ([] : List D)) = .ok true := eqN_at (by decide +kernel) (by decide +kernel) (by decide +kernel)
  have i0 : idx (exs z r) 0 = .ok (excD "Harm" (some ("word", .inr z))) := rfl
  have i6 : idx (exs z r) 6 = .ok (excD "NoSkin" (some ("half", .inl r))) := rfl
  have f0 : ofO (xfOf "word" (excD "Harm" (some ("word", .inr z)))) = .ok (eS z) := by
    have e : xfOf "word" (excD "Harm" (some ("word", .inr z))) = if isExcC "Harm" = true ∧ ("word" : Str) = "word" then some (eS z) else none := rfl
    rw [e, if_pos ⟨by decide, rfl⟩]
    rfl
  have f6 : ofO (xfOf "half" (excD "NoSkin" (some ("half", .inl r)))) = .ok (eI r) := by
    have e : xfOf "half" (excD "NoSkin" (some ("half", .inl r))) = if isExcC "NoSkin" = true ∧ ("half" : Str) = "half" then some (eI r) else none := rfl
    rw [e, if_pos ⟨by decide, rfl⟩]
    rfl
  have q3 : eqN (eS z) (eS z) = .ok true := by rw [eqN_typed (k := 1) (shD_str oz 1) (shD_str oz 1), decide_eq_true rfl]
  have q4 : eqN (eI r) (eI r) = .ok true := by rw [eqN_typed (f := eI) (k := 1) (sh_of (f := eI) r (by decide)) (sh_of (f := eI) r (by decide)), decide_eq_true rfl]
  rw [kin12, ct_ok, plus12, ct_ok, q1, ct_ok, if_neg (by decide), none12, ct_ok, q2, ct_ok, if_neg (by decide)]
  simp only [i0, ct_ok, f0, q3, if_true, i6, f6, q4]
  rfl
theorem law_true (ns : List Int) (h : ns.length ≤ 63) : ∃ outs, f_law [.v (scriptD ns)] = .ok (.bool true) outs := ⟨_, RF_ok (rf_law ns) (law_n ns h)⟩
end K52
set_option Elab.async false
set_option linter.all false
set_option maxRecDepth 100000
set_option maxHeartbeats 4000000
open PySem PySem.W PySem.Calls PyProof.Rows
set_option maxRecDepth 100000 in
set_option maxHeartbeats 0 in
theorem PySem.Challenge.cw_halfseams_k52_refusals_apart_holds : PySem.Challenge.rw_halfseams_k52_refusals_apart.Holds := by
  w_on; o_law
  refine HandSHeadRun.head_any (r := (OpenLaw.row PySem.Challenge.rw_halfseams_k52_refusals_apart)) (q := view (OpenLaw.row PySem.Challenge.rw_halfseams_k52_refusals_apart).prog [18]) (H := K52.hk) (ob := K52.ob) (M := 100000) (loose := K52.loose) (d := HandSHeadRun.topDef (OpenLaw.row PySem.Challenge.rw_halfseams_k52_refusals_apart).prog 18) (kwd := []) K52.ob_eq
    (by kernel_rfl) (fun s => by kernel_rfl) K52.run (by kernel_rfl) (by kernel_rfl) (by kernel_rfl) (by rfl) (by first | assumption | decide +kernel) (by decide +kernel) ⟨rfl, rfl, rfl, rfl, rfl, by decide +kernel⟩ ?hw ?hc
  case hw => w_witness2
  case hc =>
    refine DL.walk_ofR (l := PySem.Challenge.rw_halfseams_k52_refusals_apart) (n := 63) (k := 3) (F := K52.f_law) rfl (by decide) (by kernel_rfl) ⟨rfl, by decide, by decide⟩ (by kernel_rfl) K52.law_true ?C
    intro w mg h Y G
    obtain ⟨K, KX, c, e⟩ := Y
    have T := K52.txt KX G c e
    obtain ⟨fd, F⟩ := T.d_law
    exact ⟨K, fd, KX, T.g_law, fun s v => L2.FunD.bindsA (ps := ["script"]) F (fun _ _ _ _ _ _ us hl => match us, hl with | [_], _ => rfl) s [v] rfl, fun base _ _ => K52.law_fn T F⟩
