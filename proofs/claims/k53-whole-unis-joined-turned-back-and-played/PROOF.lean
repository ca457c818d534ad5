import PyProof.Rows.All
import Wide.All
import OpenK.AllK
import Wide.FinOn
import KE.KStateDown
import KE.KIndexOf
import KE.SortData
import HandS.ForMost
import HandS.ForExc
import HandS.Wide
import HandS.Defaults
import HandS.IsInst
import HandS.More
import HandS.HeadEnd
import HandS.Conv
import HandS.TupAny
import HandS.Lambda
import HandS.Style
import HandS.Deep
import HandS.SetFor
import HandS.RaiseMore
import KE.SortKeyHeap
import HandS.AnyAll
import HandS.Nested
import HandS.EndTab
import HandS.HeadHook2
import HandS.SetBool
import HandS.Strs
import KE.KDictPairs
import HandS.Dict
import HandS.Exc
import HandS.ExcOwn
import HandS.TryOnly
import HandS.TryMany
import HandS.ExcField
import HandS.ExcIs
import KE.KExcInit
import KE.KExcMake
import KE.KExcSuper
import KE.KSuper
import KE.KExcIs
import HandS.ExcCtx
import KE.GoesMore
import HandS.Iter
import HandS.Gcd
import KE.KMathGC
import KE.KRevSl
import KE.KDictList
import PyProof.StrWalks
import HandS.Text
import HandS.TupMul
import HandS.TupSets
import PyProof.WalksMore
import PyProof.MinMaxWalk
import PyProof.StrOps2
import HandS.SlotsOwn
import HandS.OwnEq
import HandS.Steps
import HandS.ExcSuper
import PyProof.InstNe
import OpenK.KDescr
import HandS.Small
import HandS.Spec
import HandS.DictComp
import HandS.Sort
import Lean
import HandS.Base
import HandS.Call
import HandS.Ends
import HandS.Words
import HandS.WordsExc
import HandS.Head0
import HandS.Head1
import HandS.Head2
import HandS.Head3
import HandS.HeadHook1
import PySem.Challenge.RW_handsaway_k53_whole_unis_joined_turned_b
set_option Elab.async false
set_option linter.all false
set_option maxRecDepth 100000
set_option maxRecDepth 90000
set_option maxHeartbeats 0
/-! H3t: tuples whose objects have no dict, so that their methods can be called; rules of the hand layer that make tuples, with that told. -/
namespace H3
open PySem PySem.Spec L2
open PyProof.Rows hiding St

structure NoD (o : Obj) : Prop where
  cls : o.cls = .type "tuple"
  dict : o.dict = none
/-- a tuple without a dict -/
def TupN (K : PySem.W.Frag) (F : Hp) (a : Addr) (xs : List V) : Prop :=
  (∃ o, F a = some (.frz o (.tup xs)) ∧ NoD o) ∨ ∃ (o : Obj) (its : Array Value) (n : Nat), K.lookup a = some o ∧ NoD o ∧ o.data = .seq its n ∧ its.size ≤ sizeLine ∧ Vals xs its.toList
theorem TupN.sqt {K : PySem.W.Frag} {F : Hp} {a : Addr} {xs : List V} : TupN K F a xs → SqT K F a xs
  | .inl ⟨o, h, _⟩ => .inl (.inr ⟨o, h⟩)
  | .inr ⟨o, its, n, h1, h2, h3, h4, h5⟩ => .inr ⟨o, its, n, h1, h2.cls, h3, h4, h5⟩
theorem TupN.mono {K : PySem.W.Frag} {F F' : Hp} {a : Addr} {xs : List V} (e : Same F F') : TupN K F a xs → TupN K F' a xs
  | .inl ⟨o, h, n⟩ => .inl ⟨o, e _ _ h, n⟩
  | .inr h => .inr h
theorem TupN.ty {X : Cx} {pins : List (Addr × Obj)} {σ : L2.St} {H : Hp} {s : Shared} {a : Addr} {xs : List V} (I : Inv X pins σ H s) (h : TupN X.K H a xs) : s.TypeIs (.ref a) "tuple" ∧ ∃ ob, s.heap.get? a = some ob ∧ ob.dict = none := by
  rcases h with ⟨o, h, n⟩ | ⟨o, its, n, h1, h2, _⟩
  · have e : s.heap.get? a = some o := (I.hok a _ h).1
    exact ⟨⟨o, e, n.cls⟩, o, e, n.dict⟩
  · have e := I.kIn a o h1
    exact ⟨⟨o, e, h2.cls⟩, o, e, h2.dict⟩
mutual
/-- data, its tuples without dicts -/
inductive Dp (K : PySem.W.Frag) (F : Hp) : V → PyData → Prop
  | non : Dp K F .non .none
  | bl (b : Bool) : Dp K F (.bl b) (.bool b)
  | int (i : Int) : Dp K F (.int i) (.int i)
  | str (x : Str) : Dp K F (.str x) (.str x)
  | lst {a : Addr} {xs : List V} {ds : List PyData} (h : SqL K F a xs) (t : DpAll K F xs ds) : Dp K F (.ref a) (.list ds)
  | tup {a : Addr} {xs : List V} {ds : List PyData} (h : TupN K F a xs) (t : DpAll K F xs ds) : Dp K F (.ref a) (.tuple ds)
inductive DpAll (K : PySem.W.Frag) (F : Hp) : List V → List PyData → Prop
  | nil : DpAll K F [] []
  | cons {v : V} {vs : List V} {d : PyData} {ds : List PyData} (h : Dp K F v d) (t : DpAll K F vs ds) : DpAll K F (v :: vs) (d :: ds)
end
mutual
theorem Dp.q {K : PySem.W.Frag} {F : Hp} : ∀ {v : V} {x : PyData}, Dp K F v x → L2.Dp K F v x
  | _, _, .non => .non
  | _, _, .bl b => .bl b
  | _, _, .int i => .int i
  | _, _, .str x => .str x
  | _, _, .lst h t => .lst h (DpAll.q t)
  | _, _, .tup h t => .tup h.sqt (DpAll.q t)
theorem DpAll.q {K : PySem.W.Frag} {F : Hp} : ∀ {vs : List V} {xs : List PyData}, DpAll K F vs xs → L2.DpAll K F vs xs
  | _, _, .nil => .nil
  | _, _, .cons h t => .cons (Dp.q h) (DpAll.q t)
end
/-- the object of a new tuple -/
abbrev tobj (its : Array Value) : Obj := { cls := .type "tuple", data := .seq its }
theorem tobj_no {its : Array Value} : NoD (tobj its) := ⟨rfl, rfl⟩
section
variable {X : Cx} {s : Shared} {H : Hp} {σ : L2.St} {pins : List (Addr × Obj)}
/-- a new tuple is laid -/
theorem laidT {xs : List V} {its : Array Value} {h' : Heap} {t' : Nat} (I : Inv X pins σ H { s with heap := h' }) (r : Vals xs its.toList) (hz : xs.length ≤ sizeLine) :
    Inv X pins σ (upd H h'.objs.size (.frz (tobj its) (.tup xs))) { s with heap := h'.push (tobj its), toks := t' } :=
  I.laid (fun b o e => Heap.get?_push_of_some _ e) (Nat.le_refl _) ⟨Heap.get?_push_size _ rfl, hz, its.toList, r, tobj its, Heap.get?_push_size _ rfl, rfl, 0, by rw [Array.toArray_toList]⟩
/-- what follows a new tuple -/
def NewT (Q : VK) (xs : List V) (H : Hp) : Prop := ∀ p o, H p = none → NoD o → Q (.ref p) (upd H p (.frz o (.tup xs)))
variable {es : List Expr} {t : TA} {pos : Pos}
theorem pe_tupN {x1} (h : PA X es t) : PE X (.Tuple es x1 pos) (fun σ H Q => t σ H fun xs H1 => xs.length ≤ sizeLine ∧ NewT Q xs H1) := by
  constructor
  intro pins s σ H Q I hq
  refine wpAny_Tuple_spliced (thn (h.run pos pins s σ H _ I hq) fun us s1 ⟨xs, H1, I1, r, z, q⟩ => ⟨r.length ▸ z, ?_⟩)
  exact ⟨.ref _, _, laidT (its := us.toArray) (s := s1) (t' := s1.toks) I1 (by simpa using r) z, rfl, q _ _ I1.fresh tobj_no⟩
/-- a tuple's values in the state -/
theorem tupAt {a : Addr} {xs : List V} (I : Inv X pins σ H s) (h : SqT X.K H a xs) : ∃ its : List Value, Vals xs its ∧ IsTup s.heap a its.toArray ∧ its.toArray.size = xs.length ∧ xs.length ≤ sizeLine :=
  let ⟨its, rv, pt, hz⟩ := I.tuple h
  ⟨its, rv, pt, by rw [List.size_toArray]; exact rv.length.symm, hz⟩
theorem call_tuple_ofN : CallR X (.type "tuple") (fun xs H Q => ∃ p ys, xs = [.ref p] ∧ ((SqL X.K H p ys ∧ NewT Q ys H) ∨ (SqT X.K H p ys ∧ Q (.ref p) H))) := by
  rintro pins st σ H xs us Q I rr ⟨p, ys, rfl, hq⟩
  rw [Vals.ref1 rr]
  rcases hq with ⟨hl, q⟩ | ⟨ht, q⟩
  · obtain ⟨its, rv, pl, hz⟩ := I.list hl
    refine call_tuple_list pl.isList (fun hp kp => ?_) (by rw [List.size_toArray, ← rv.length]; exact hz)
    have J : Inv X pins σ H { st with heap := hp } := I.kept (t' := st.toks) kp
    exact ⟨.ref _, _, laidT (its := its.toArray) (s := st) (t' := st.toks) J (by simpa using rv) hz, rfl, q _ _ J.fresh tobj_no⟩
  · obtain ⟨_, _, pt, _⟩ := tupAt I ht
    exact call_tuple_same pt ⟨.ref p, H, I, rfl, q⟩
theorem pe_tupRgN {e : Expr} {te : L2.St → Hp → (Int → Int → Hp → Prop) → Prop} {p : Pos} (hc : X.calm = true) (hg : Gl X "tuple") (hm : X.mg "tuple" = none) (he : PRg X e te) (na : starEach [e] X.env = (false, eval e X.env) :: starEach [] X.env := by rfl) :
    PE X (.Call (.Name "tuple" p) [e] [] pos) (fun σ H Q => te σ H fun a b H1 => RgOk a b ∧ NewT Q (rgV a b) H1) := by
  constructor
  intro pins st σ H Q I h
  have arg := he pins st σ H _ I h
  refine Call_ (ld_blt I hg hm boot_tuple ?_)
  refine PyProof.Rows.callWith_type1 (args_cons (thn arg ?_) na) na
  rintro _ s1 ⟨rg, a, b, t1, t2, t3, H1, rfl, hr, I1, ⟨a1, a2, b1, b2, hn⟩, q⟩
  refine args_nil (call_tuple_range (n := (b - a).toNat) (I1.ok.hd hc) hr (small_one a1 a2 b1 b2) (rangeSize_nat a b) hn fun hp tk acc hk hi => ?_)
  have J : Inv X pins σ H1 { s1 with heap := hp, toks := tk } := I1.kept hk
  have hz : (rgV a b).length ≤ sizeLine := by rw [rgV_length, sizeLine_eq]; omega
  exact ⟨.ref _, _, laidT (its := acc) (s := { s1 with toks := tk }) (t' := tk) J (vals_rg hi) hz, rfl, q _ _ J.fresh tobj_no⟩
/-- all of a tuple is cut -/
def Whole (n : Nat) (lo hi : Option Int) : Prop := HT.sIx n 0 lo = 0 ∧ HT.sIx n n hi = n
/-- t[lo:hi] -/
def rSlN (K : PySem.W.Frag) : V → Option Int → Option Int → Hp → VK → Prop := fun x lo hi H Q => ∃ a xs, x = .ref a ∧ SqT K H a xs ∧ (Whole xs.length lo hi → Q (.ref a) H) ∧ (¬ Whole xs.length lo hi → NewT Q (cutV xs lo hi) H)
theorem sl_tupN : SlR X (rSlN X.K) := by
  rintro pins st σ H _ v vl vu lo hi sl Q I rx hs pl pu ⟨a, xs, rfl, hx, qw, qc⟩
  rcases Classical.em (Whole xs.length lo hi) with yes | no
  · exact sl_tupA pins st σ H _ v vl vu lo hi sl Q I rx hs pl pu ⟨a, xs, rfl, hx, qw, fun n => absurd yes n⟩
  · cases rx
    obtain ⟨its, rv, pt, sz, hz⟩ := tupAt I hx
    refine ⟨"tuple", _, PyProof.Rows.slot_tuple_getitem.lookup, pt.typeIs, HT.getItem_tuple_cut pt hs pl pu (by rw [sz]; exact no) ?_ (by rw [sz]; exact hz)⟩
    rw [sz]
    have rc : Vals (cutV xs lo hi) _ := (rv.drop (HT.sIx xs.length 0 lo)).take (HT.sIx xs.length xs.length hi - HT.sIx xs.length 0 lo)
    exact ⟨.ref _, _, laidT (s := st) (t' := st.toks) I (by simpa using rc) (Nat.le_trans (cutV_length xs lo hi) hz), rfl, qc no _ _ I.fresh tobj_no⟩
/-- t + u -/
def rCatN (K : PySem.W.Frag) : R2 := fun x y H Q => ∃ a b xs ys, x = .ref a ∧ y = .ref b ∧ SqT K H a xs ∧ SqT K H b ys ∧ xs.length + ys.length ≤ sizeLine ∧
  (xs = [] → Q (.ref b) H) ∧ (xs ≠ [] → ys = [] → Q (.ref a) H) ∧ (xs ≠ [] → ys ≠ [] → NewT Q (xs ++ ys) H)
theorem op_catN : OpR X (binaryOp .Add) (rCatN X.K) := by
  rintro pins st σ H _ _ v u Q I rx ry ⟨a, b, xs, ys, rfl, rfl, ha, hb, hz, qe, ql, qn⟩
  rcases Classical.em (xs = []) with e | ne
  · exact op_catA pins st σ H _ _ v u Q I rx ry ⟨a, b, xs, ys, rfl, rfl, ha, hb, hz, qe, ql, fun n => absurd e n⟩
  · cases rx
    cases ry
    obtain ⟨ia, va, pa, na, _⟩ := tupAt I ha
    obtain ⟨ib, vb, pb, nb, _⟩ := tupAt I hb
    refine HT.cat_tup pa pb (fun z => ne (va.nil_iff.mp z)) (fun z => ⟨.ref a, H, I, rfl, ql ne (vb.nil_iff.mp z)⟩) (fun z => ?_) (by rw [← va.length, ← vb.length]; exact hz)
    exact ⟨.ref _, _, laidT (s := st) (t' := st.toks) I (by simpa using va.append vb) (by rw [List.length_append]; exact hz), rfl, qn ne (fun y0 => z (vb.nil_iff.mpr y0)) _ _ I.fresh tobj_no⟩
/-! ### methods of tuples -/
/-- a call o.name(e, ..) of the plain kind: five facts of its text -/
structure MCall (X : Cx) (o : Expr) (name : Str) (apos cpos : Pos) (e : Expr) (es : List Expr) : Prop where
  base : attributeBase o name X.env (eval o X.env) = eval o X.env
  few : ((backTo cpos (starEach (e :: es) X.env)).all (fun z => !z.1) && (backToKw cpos (keywordEach [] X.env)).all (fun z => z.1.isSome) && decide ((e :: es).length + ([] : List Keyword).length + (if ([] : List Keyword).isEmpty then 0 else 1) < 30)) = true
  sameRow : (apos.endLine == cpos.line) = true
  star : starEach (e :: es) X.env = (false, eval e X.env) :: starEach es X.env
  plain : (backTo cpos (starEach es X.env)).any (·.1) = false
variable {o e : Expr} {to : TE} {name : Str} {apos cpos : Pos} {id : String} {r : V → List V → Hp → VK → Prop}
theorem pe_tm (slot : Slot "tuple" name id) (hty : typeOf (.builtin id) = pure (.type "method_descriptor")) (hm : MtR X id r) (ho : PE X o to) (ha : PA X (e :: es) t) (mc : MCall X o name apos cpos e es) :
    PE X (.Call (.Attribute o name apos) (e :: es) [] cpos) (fun σ H Q => to σ H fun x H1 => (∃ a xs, x = .ref a ∧ TupN X.K H1 a xs) ∧ t σ H1 fun xs H2 => r x xs H2 Q) := by
  constructor
  intro pins s σ H Q I h
  refine wpAny_Call_method_late mc.base mc.few mc.sameRow rfl (thn (ho.run pins s σ H _ I h) ?_)
  rintro v s1 ⟨x, H1, I1, r1, ⟨a, xs, e1, ty⟩, q1⟩
  subst e1
  cases (show v = .ref a from r1)
  have tt := ty.ty I1
  refine ⟨"tuple", id, PySem.F.plainAttrs_tuple, slot, hty, tt.1, fun b eb => by cases eb; exact tt.2, ?_⟩
  have args := ha.run cpos pins s1 σ H1 _ I1 q1
  rw [mc.star] at args ⊢
  have noStar : (((false, eval e X.env) :: backTo cpos (starEach es X.env)).any (·.1)) = false := by rw [List.any_cons, mc.plain]; rfl
  exact Calls.callWith_builtin noStar (Calls.evalArgs_plain (thn args fun us s2 ⟨vs, H2, I2, r2, q2⟩ => hm pins s2 σ H2 (.ref a) vs (.ref a) us Q I2 (show RelV (V.ref a) (Value.ref a) from rfl) r2 q2))
theorem mt_tupIndexI : MtR X "tuple.index" (fun x xs H Q => ∃ (p : Addr) (ns : List Int) (k : Int), x = .ref p ∧ xs = [.int k] ∧ SqT X.K H p (ns.map V.int) ∧ k ∈ ns ∧ Q (.int (ns.idxOf k : Nat)) H) := by
  rintro pins st σ H x xs v us Q I rx rxs ⟨p, ns, k, rfl, rfl, hq, hk, q⟩
  cases (show v = .ref p from rx)
  obtain ⟨y, rfl, tk, rfl⟩ := vals1 rxs
  obtain ⟨its, rv, pl, hz⟩ := I.tuple hq
  exact SeqAt.tuple_index_ints (vs := its) (show st.heap.IsTuple p its.toArray from pl) (intsAre_of rv) hk ⟨.int (ns.idxOf k : Nat), H, I.tok _, ⟨_, rfl⟩, q⟩
end
end H3

/-! H3: data as values. Tuples, ints, texts and lists that nobody changes any more are plain data (PyData); lists that are changed, and instances, lie in a small store. -/
namespace H3
open PySem PySem.Spec L2

/-! ### worlds of values -/
inductive W where
  | d (x : PyData)
  | r (a : Addr)
  | ty (n : String)
abbrev W.int (i : Int) : W := .d (.int i)
abbrev W.bl (b : Bool) : W := .d (.bool b)
abbrev W.str (s : Str) : W := .d (.str s)
abbrev W.non : W := .d .none
abbrev W.tup (xs : List PyData) : W := .d (.tuple xs)
abbrev W.lst (xs : List PyData) : W := .d (.list xs)
/-- what may change -/
inductive SO where
  | lst (ws : List W)
  | ins (C : Addr) (fs : List (Str × W))
  /-- a table of code objects; told: the one name that they bear -/
  | tb (q : Option Str)
  /-- a dict: keys ints and texts; keys tuples of ints (its own address is told) -/
  | dk (kvs : List (Key × W))
  | dt (a : Addr) (kvs : List (List Int × W))
  /-- a tuple of things that are not all data -/
  | tp (ws : List W)
abbrev Sto := Addr → Option SO
def put (S : Sto) (a : Addr) (o : SO) : Sto := fun b => if b = a then some o else S b
def drp (S : Sto) (a : Addr) : Sto := fun b => if b = a then none else S b
theorem put_same {S : Sto} {a : Addr} {o : SO} : put S a o a = some o := if_pos rfl
theorem put_ne {S : Sto} {a b : Addr} {o : SO} (h : b ≠ a) : put S a o b = S b := if_neg h
theorem put_put {S : Sto} {a : Addr} {o u : SO} : put (put S a o) a u = put S a u := by
  funext b
  unfold put
  by_cases h : b = a
  · rw [if_pos h, if_pos h]
  · rw [if_neg h, if_neg h, if_neg h]
theorem drp_ne {S : Sto} {a b : Addr} (h : b ≠ a) : drp S a b = S b := if_neg h
theorem drp_same {S : Sto} {a : Addr} : drp S a a = none := if_pos rfl

mutual
theorem dp_mono {K : PySem.W.Frag} {F F' : Hp} (e : Same F F') : ∀ {v : V} {x : PyData}, Dp K F v x → Dp K F' v x
  | _, _, .non => .non
  | _, _, .bl b => .bl b
  | _, _, .int i => .int i
  | _, _, .str x => .str x
  | _, _, .lst h t => .lst (e.seq h) (dpAll_mono e t)
  | _, _, .tup h t => .tup (h.mono e) (dpAll_mono e t)
theorem dpAll_mono {K : PySem.W.Frag} {F F' : Hp} (e : Same F F') : ∀ {vs : List V} {xs : List PyData}, DpAll K F vs xs → DpAll K F' vs xs
  | _, _, .nil => .nil
  | _, _, .cons h t => .cons (dp_mono e h) (dpAll_mono e t)
end
theorem sqt_mono {K : PySem.W.Frag} {F F' : Hp} (e : Same F F') {a : Addr} {xs : List V} : SqT K F a xs → SqT K F' a xs
  | .inl (.inl q) => .inl (.inl (e _ _ q))
  | .inl (.inr ⟨o, q⟩) => .inl (.inr ⟨o, e _ _ q⟩)
  | .inr q => .inr q

/-- what stays for good (f), and what is hidden: nobody reads or writes it meanwhile (g) -/
structure Fz where
  g : Hp
  f : Hp
def Fz.new (F : Fz) (p : Addr) (o : HO) : Fz := ⟨F.g, upd F.f p o⟩
structure Sm (F F' : Fz) : Prop where
  g : F'.g = F.g
  f : Same F.f F'.f
theorem Sm.refl (F : Fz) : Sm F F := ⟨rfl, fun _ _ h => h⟩
theorem Sm.trans {F F' F2 : Fz} (a : Sm F F') (b : Sm F' F2) : Sm F F2 := ⟨b.g.trans a.g, a.f.trans b.f⟩

def RepW (K : PySem.W.Frag) (F : Fz) : W → V → Prop
  | .d x, v => Dp K F.f v x
  | .r a, v => v = .ref a
  | .ty n, v => v = .ty n
theorem RepW.mono {K : PySem.W.Frag} {F F' : Fz} (e : Sm F F') {w : W} {v : V} (h : RepW K F w v) : RepW K F' w v := by
  cases w with
  | d x => exact dp_mono e.f h
  | r a => exact h
  | ty n => exact h
abbrev RepWs (K : PySem.W.Frag) (F : Fz) : List W → List V → Prop := Paired (RepW K F)
theorem RepWs.mono {K : PySem.W.Frag} {F F' : Fz} (e : Sm F F') {ws : List W} {vs : List V} (h : RepWs K F ws vs) : RepWs K F' ws vs := Paired.mapP h fun _ _ r => RepW.mono e r
theorem repWs_of_all {K : PySem.W.Frag} {F : Fz} : ∀ {vs : List V} {ds : List PyData}, DpAll K F.f vs ds → RepWs K F (ds.map W.d) vs
  | _, _, .nil => .nil
  | _, _, .cons h t => .cons h (repWs_of_all t)
theorem all_of_repWs {K : PySem.W.Frag} {F : Fz} : ∀ {ds : List PyData} {vs : List V}, RepWs K F (ds.map W.d) vs → DpAll K F.f vs ds
  | [], _, h => by cases h; exact .nil
  | _ :: _, _, h => by
    cases h with
    | cons a t => exact .cons a (all_of_repWs t)
/-- fields of an instance -/
def RepFs (K : PySem.W.Frag) (F : Fz) : List (Str × W) → List (Str × V) → Prop := Paired fun p q => p.1 = q.1 ∧ RepW K F p.2 q.2
theorem RepFs.mono {K : PySem.W.Frag} {F F' : Fz} (e : Sm F F') {fs : List (Str × W)} {gs : List (Str × V)} (h : RepFs K F fs gs) : RepFs K F' fs gs := Paired.mapP h fun _ _ r => ⟨r.1, RepW.mono e r.2⟩
/-- entries of a dict -/
def RepKs {α : Type} (K : PySem.W.Frag) (F : Fz) : List (α × W) → List (α × V) → Prop := Paired fun p q => p.1 = q.1 ∧ RepW K F p.2 q.2
theorem RepKs.mono {α : Type} {K : PySem.W.Frag} {F F' : Fz} (e : Sm F F') {fs : List (α × W)} {gs : List (α × V)} (h : RepKs K F fs gs) : RepKs K F' fs gs := Paired.mapP h fun _ _ r => ⟨r.1, RepW.mono e r.2⟩
/-- a dict whose keys are tuples of ints, by the addresses of the key tuples -/
def DTO (P : Program) (w : World) (a : Addr) (xs : List (List Int × Addr × Value)) : HO := .ext fun h => ∃ o es ep, h.get? a = some o ∧ o.ExactDict ∧ o.data = .dict es ep ∧ es.toList = xs.map (entryOfKey (tupleKind (PySem.intKind P w)))
def RepT (K : PySem.W.Frag) (F : Fz) : List (List Int × W) → List (List Int × Addr × Value) → Prop := Paired fun p q => p.1 = q.1 ∧ TupN K F.f q.2.1 (p.1.map V.int) ∧ ∃ v, RepW K F p.2 v ∧ RelV v q.2.2
theorem RepT.mono {K : PySem.W.Frag} {F F' : Fz} (e : Sm F F') {l : List (List Int × W)} {m : List (List Int × Addr × Value)} (h : RepT K F l m) : RepT K F' l m := Paired.mapP h fun _ _ r => ⟨r.1, r.2.1.mono e.f, let ⟨v, a, b⟩ := r.2.2; ⟨v, RepW.mono e a, b⟩⟩
def RepO (K : PySem.W.Frag) (F : Fz) : SO → HO → Prop
  | .lst ws, o => ∃ vs, o = .lst vs ∧ RepWs K F ws vs
  | .ins C fs, o => ∃ dx gs, o = .ins C dx gs ∧ RepFs K F fs gs
  | .tb q, o => ∃ ps, o = .tbl ps ∧ TriplesOk ps.toList ∧ ∀ x, q = some x → ∀ pos cv, codeAmong pos ps.toList = some cv → ∃ c, cv = .ref c ∧ F.f c = some (LamX.CodeO c x)
  | .dk kvs, o => ∃ gs, o = .dK gs ∧ RepKs K F kvs gs
  | .dt a kvs, o => ∃ (P : Program) (w : World) (xs : List (List Int × Addr × Value)), o = DTO P w a xs ∧ (a == sysModules) = false ∧ kvs.length ≤ sizeLine ∧ (xs.map (·.1)).Nodup ∧ RepT K F kvs xs
  | .tp ws, o => ∃ o2 vs, o = .frz o2 (.tup vs) ∧ NoD o2 ∧ RepWs K F ws vs
theorem RepO.mono {K : PySem.W.Frag} {F F' : Fz} (e : Sm F F') {p : SO} {o : HO} (h : RepO K F p o) : RepO K F' p o := by
  cases p with
  | lst ws => obtain ⟨vs, rfl, r⟩ := h; exact ⟨vs, rfl, RepWs.mono e r⟩
  | ins C fs => obtain ⟨dx, gs, rfl, r⟩ := h; exact ⟨dx, gs, rfl, RepFs.mono e r⟩
  | tb q => obtain ⟨ps, e1, e2, e3⟩ := h; exact ⟨ps, e1, e2, fun x hx pos cv hc => let ⟨c, a, b⟩ := e3 x hx pos cv hc; ⟨c, a, e.f c _ b⟩⟩
  | dk kvs => obtain ⟨gs, rfl, r⟩ := h; exact ⟨gs, rfl, RepKs.mono e r⟩
  | dt a kvs => obtain ⟨P, w, xs, rfl, h1, h2, h3, r⟩ := h; exact ⟨P, w, xs, rfl, h1, h2, h3, r.mono e⟩
  | tp ws => obtain ⟨o2, vs, rfl, n2, r⟩ := h; exact ⟨o2, vs, rfl, n2, RepWs.mono e r⟩

/-- the heap H: F the part that stays for good (and what is hidden), S what may change -/
structure Rel (K : PySem.W.Frag) (F : Fz) (S : Sto) (H : Hp) : Prop where
  fz : ∀ a o, F.f a = some o → H a = some o ∧ S a = none ∧ F.g a = none
  st : ∀ a p, S a = some p → F.g a = none ∧ ∃ o, H a = some o ∧ RepO K F p o
  hd : ∀ a o, F.g a = some o → H a = some o
section
variable {K : PySem.W.Frag} {F : Fz} {S : Sto} {H : Hp}
theorem Rel.same (R : Rel K F S H) : Same F.f H := fun a o h => (R.fz a o h).1
theorem Rel.freeF (R : Rel K F S H) {p : Addr} (h : H p = none) : F.f p = none := by
  cases e : F.f p with
  | none => rfl
  | some o => rw [(R.fz p o e).1] at h; cases h
theorem Rel.freeG (R : Rel K F S H) {p : Addr} (h : H p = none) : F.g p = none := by
  cases e : F.g p with
  | none => rfl
  | some o => rw [R.hd p o e] at h; cases h
theorem Rel.freeS (R : Rel K F S H) {p : Addr} (h : H p = none) : S p = none := by
  cases e : S p with
  | none => rfl
  | some o =>
    obtain ⟨_, u, hu, _⟩ := R.st p o e
    rw [hu] at h; cases h
theorem same_upd {G : Hp} {p : Addr} {o : HO} (h : G p = none) : Same G (upd G p o) := fun b u e => by
  rw [upd_ne (ne_of_none e h)]; exact e
theorem sm_new {p : Addr} {o : HO} (h : F.f p = none) : Sm F (F.new p o) := ⟨rfl, same_upd h⟩
/-- a new thing that stays -/
theorem Rel.newF (R : Rel K F S H) {p : Addr} {o : HO} (h : H p = none) : Rel K (F.new p o) S (upd H p o) := by
  have hF := R.freeF h
  have hS := R.freeS h
  have hG := R.freeG h
  refine ⟨fun a u e => ?_, fun a u e => ?_, fun a u e => ?_⟩
  · have e : upd F.f p o a = some u := e
    by_cases ha : a = p
    · subst ha
      rw [upd_same] at e ⊢
      exact ⟨e, hS, hG⟩
    · rw [upd_ne ha] at e ⊢
      exact R.fz a u e
  · obtain ⟨g, v, hv, r⟩ := R.st a u e
    have ha : a ≠ p := ne_of_none hv h
    exact ⟨g, v, by rw [upd_ne ha]; exact hv, r.mono (sm_new hF)⟩
  · have e : F.g a = some u := e
    rw [upd_ne (ne_of_none e hG)]
    exact R.hd a u e
/-- a new thing that may change -/
theorem Rel.newS (R : Rel K F S H) {p : Addr} {o : HO} {q : SO} (h : H p = none) (r : RepO K F q o) : Rel K F (put S p q) (upd H p o) := by
  have hF := R.freeF h
  have hG := R.freeG h
  refine ⟨fun a u e => ?_, fun a u e => ?_, fun a u e => ?_⟩
  · have ha : a ≠ p := ne_of_none e hF
    rw [upd_ne ha, put_ne ha]
    exact R.fz a u e
  · by_cases ha : a = p
    · subst ha
      rw [put_same] at e
      cases e
      exact ⟨hG, o, upd_same, r⟩
    · rw [put_ne ha] at e
      obtain ⟨g, v, hv, r'⟩ := R.st a u e
      exact ⟨g, v, by rw [upd_ne ha]; exact hv, r'⟩
  · rw [upd_ne (ne_of_none e hG)]
    exact R.hd a u e
/-- a change -/
theorem Rel.write (R : Rel K F S H) {p : Addr} {o : HO} {q0 q : SO} (h : S p = some q0) (r : RepO K F q o) : Rel K F (put S p q) (upd H p o) := by
  have hG := (R.st p q0 h).1
  refine ⟨fun a u e => ?_, fun a u e => ?_, fun a u e => ?_⟩
  · have ha : a ≠ p := by
      rintro rfl
      rw [(R.fz a u e).2.1] at h; cases h
    rw [upd_ne ha, put_ne ha]
    exact R.fz a u e
  · by_cases ha : a = p
    · subst ha
      rw [put_same] at e
      cases e
      exact ⟨hG, o, upd_same, r⟩
    · rw [put_ne ha] at e
      obtain ⟨g, v, hv, r'⟩ := R.st a u e
      exact ⟨g, v, by rw [upd_ne ha]; exact hv, r'⟩
  · rw [upd_ne (ne_of_none e hG)]
    exact R.hd a u e
/-- a list that is not changed any more -/
theorem Rel.freeze (R : Rel K F S H) {a : Addr} {ds : List PyData} (h : S a = some (.lst (ds.map W.d))) : ∃ F', Sm F F' ∧ Rel K F' (drp S a) H ∧ RepW K F' (.d (.list ds)) (.ref a) := by
  obtain ⟨hG, o, ho, vs, rfl, rv⟩ := R.st a _ h
  have hF : F.f a = none := by
    cases e : F.f a with
    | none => rfl
    | some u => rw [(R.fz a u e).2.1] at h; cases h
  have s := sm_new (p := a) (o := HO.lst vs) hF
  refine ⟨F.new a (.lst vs), s, ⟨fun b u e => ?_, fun b u e => ?_, R.hd⟩, Dp.lst (.inl (.inl (show upd F.f a (HO.lst vs) a = _ from upd_same))) (dpAll_mono s.f (all_of_repWs rv))⟩
  · have e : upd F.f a (.lst vs) b = some u := e
    by_cases hb : b = a
    · subst hb
      rw [upd_same] at e
      cases e
      exact ⟨ho, drp_same, hG⟩
    · rw [upd_ne hb] at e
      rw [drp_ne hb]
      exact R.fz b u e
  · by_cases hb : b = a
    · subst hb
      rw [drp_same] at e; cases e
    · rw [drp_ne hb] at e
      obtain ⟨g, v, hv, r⟩ := R.st b u e
      exact ⟨g, v, hv, r.mono s⟩
/-- less is known -/
def Sub (S S' : Sto) : Prop := ∀ a p, S a = some p → S' a = some p
theorem Sub.refl (S : Sto) : Sub S S := fun _ _ h => h
theorem Sub.trans {S1 S2 S3 : Sto} (a : Sub S1 S2) (b : Sub S2 S3) : Sub S1 S3 := fun c p h => b c p (a c p h)
theorem Sub.new {S : Sto} {p : Addr} {o : SO} (h : S p = none) : Sub S (put S p o) := fun a q e => by
  have ha : a ≠ p := by rintro rfl; rw [h] at e; cases e
  rw [put_ne ha]; exact e
theorem Rel.less {S' : Sto} (R : Rel K F S' H) (h : Sub S S') : Rel K F S H := by
  refine ⟨fun a o e => ⟨(R.fz a o e).1, ?_, (R.fz a o e).2.2⟩, fun a p e => R.st a p (h a p e), R.hd⟩
  cases q : S a with
  | none => rfl
  | some u =>
    have := h a u q
    rw [(R.fz a o e).2.1] at this; cases this
/-- something new is hidden; what was hidden comes forth -/
theorem Rel.hide (R : Rel K F S H) {p : Addr} {o : HO} (h : H p = none) : Rel K ⟨upd F.g p o, F.f⟩ S (upd H p o) := by
  have hF := R.freeF h
  have hS := R.freeS h
  have rm : ∀ {q : SO} {u : HO}, RepO K F q u → RepO K ⟨upd F.g p o, F.f⟩ q u := fun {q u} r => by
    cases q with
    | lst ws => obtain ⟨vs, e, r⟩ := r; exact ⟨vs, e, Paired.mapP r fun w v z => by cases w <;> exact z⟩
    | ins C fs => obtain ⟨dx, gs, e, r⟩ := r; exact ⟨dx, gs, e, Paired.mapP r fun w v z => ⟨z.1, by cases w; rename_i a b; cases b <;> exact z.2⟩⟩
    | tb => exact r
    | dk kvs => obtain ⟨gs, e, r⟩ := r; exact ⟨gs, e, Paired.mapP r fun w v z => ⟨z.1, by cases w; rename_i a b; cases b <;> exact z.2⟩⟩
    | dt a kvs => obtain ⟨P, w, xs, e, h1, h2, h3, r⟩ := r; exact ⟨P, w, xs, e, h1, h2, h3, Paired.mapP r fun p v z => ⟨z.1, z.2.1, let ⟨u, a, b⟩ := z.2.2; ⟨u, by revert a; cases p; rename_i a b; cases b <;> exact id, b⟩⟩⟩
    | tp us => obtain ⟨o2, vs, e, n2, r⟩ := r; exact ⟨o2, vs, e, n2, Paired.mapP r fun w v z => by cases w <;> exact z⟩
  refine ⟨fun a u e => ?_, fun a u e => ?_, fun a u e => ?_⟩
  · have ha : a ≠ p := ne_of_none e hF
    refine ⟨by rw [upd_ne ha]; exact (R.fz a u e).1, (R.fz a u e).2.1, ?_⟩
    show upd F.g p o a = none
    rw [upd_ne ha]
    exact (R.fz a u e).2.2
  · obtain ⟨g, v, hv, r⟩ := R.st a u e
    have ha : a ≠ p := ne_of_none hv h
    refine ⟨?_, v, by rw [upd_ne ha]; exact hv, rm r⟩
    show upd F.g p o a = none
    rw [upd_ne ha]; exact g
  · have e : upd F.g p o a = some u := e
    by_cases ha : a = p
    · subst ha; rw [upd_same] at e ⊢; exact e
    · rw [upd_ne ha] at e ⊢; exact R.hd a u e
end

/-! ### the slots -/
abbrev Sl := List (Option W)
/-- what is wanted of an exception: its class, its attributes, the slots and the store -/
abbrev XS := Addr → List (Str × W) → Sl → Sto → Prop
structure S3 where
  sl : Sl
  ex : XS
abbrev S3.set (τ : S3) (i : Nat) (w : Option W) : S3 := ⟨τ.sl.set i w, τ.ex⟩
def SlE (K : PySem.W.Frag) (F : Fz) (τ : Sl) (σ : St) : Prop := τ.length = σ.length ∧ ∀ (i : Nat) (w : W), τ[i]? = some (some w) → ∃ v, σ[i]? = some (some v) ∧ RepW K F w v
section
variable {K : PySem.W.Frag} {F F' : Fz} {τ : Sl} {σ : St}
theorem SlE.mono (e : Sm F F') (h : SlE K F τ σ) : SlE K F' τ σ := ⟨h.1, fun i w q => let ⟨v, a, b⟩ := h.2 i w q; ⟨v, a, RepW.mono e b⟩⟩
theorem SlE.set {i : Nat} {w : W} {v : V} (h : SlE K F τ σ) (r : RepW K F w v) : SlE K F (τ.set i (some w)) (σ.set i (some v)) := by
  refine ⟨by simpa using h.1, fun j u q => ?_⟩
  by_cases hj : i = j
  · subst hj
    have hi : i < τ.length := by
      have := (List.getElem?_eq_some_iff.mp q).1
      simpa using this
    rw [List.getElem?_set_self hi] at q
    cases q
    exact ⟨v, List.getElem?_set_self (by rw [← h.1]; exact hi), r⟩
  · rw [List.getElem?_set_ne hj] at q ⊢
    exact h.2 j u q
theorem SlE.unset {i : Nat} (h : SlE K F τ σ) : SlE K F (τ.set i none) (σ.set i none) := by
  refine ⟨by simpa using h.1, fun j u q => ?_⟩
  by_cases hj : i = j
  · subst hj
    have hi : i < τ.length := by
      have := (List.getElem?_eq_some_iff.mp q).1
      simpa using this
    rw [List.getElem?_set_self hi] at q
    cases q
  · rw [List.getElem?_set_ne hj] at q ⊢
    exact h.2 j u q
end
/-- an exception's wish -/
def KXS (K : PySem.W.Frag) (F : Fz) (ex : XS) (E : WX) : Prop := ∀ F' S' H' C dd fs gs sl σ, Sm F F' → Rel K F' S' H' → F'.f dd = some (.xd gs) → RepFs K F' fs gs → SlE K F' sl σ → ex C fs sl S' → E (.ref C) (some dd) σ H'
structure EnvR (K : PySem.W.Frag) (F : Fz) (E : WX) (τ : S3) (σ : St) : Prop where
  sl : SlE K F τ.sl σ
  ex : KXS K F τ.ex E
section
variable {K : PySem.W.Frag} {F F' : Fz} {E : WX} {τ : S3} {σ : St}
theorem KXS.mono {ex : XS} (k : KXS K F ex E) (e : Sm F F') : KXS K F' ex E := fun F2 S' H' C dd fs gs sl σ s => k F2 S' H' C dd fs gs sl σ (e.trans s)
theorem EnvR.mono (e : Sm F F') (h : EnvR K F E τ σ) : EnvR K F' E τ σ := ⟨h.sl.mono e, h.ex.mono e⟩
theorem EnvR.set {i : Nat} {w : W} {v : V} (h : EnvR K F E τ σ) (r : RepW K F w v) : EnvR K F E (τ.set i (some w)) (σ.set i (some v)) := ⟨h.sl.set r, h.ex⟩
theorem EnvR.unset {i : Nat} (h : EnvR K F E τ σ) : EnvR K F E (τ.set i none) (σ.set i none) := ⟨h.sl.unset, h.ex⟩
end
def wipe3 (τ : Sl) : List Nat → Sl
  | [] => τ
  | i :: l => (wipe3 τ l).set i none

/-! ### readings -/
abbrev K3 := W → Sto → Prop
abbrev TE3 := S3 → Sto → K3 → Prop
abbrev TT3 := S3 → Sto → (Bool → Sto → Prop) → Prop
abbrev TA3 := S3 → Sto → (List W → Sto → Prop) → Prop
structure Ends3 where
  nx : S3 → Sto → Prop
  rt : K3
  bk : S3 → Sto → Prop := fun _ _ => False
  ct : S3 → Sto → Prop := fun _ _ => False
abbrev TS3 := Ends3 → S3 → Sto → Prop

/-- what follows -/
def KE (K : PySem.W.Frag) (F : Fz) (Q3 : K3) (Q : VK) : Prop := ∀ F' S' H' w v, Sm F F' → Rel K F' S' H' → RepW K F' w v → Q3 w S' → Q v H'
def KT (K : PySem.W.Frag) (F : Fz) (Q3 : Bool → Sto → Prop) (Q : Bool → Hp → Prop) : Prop := ∀ F' S' H' b, Sm F F' → Rel K F' S' H' → Q3 b S' → Q b H'
def KA (K : PySem.W.Frag) (F : Fz) (Q3 : List W → Sto → Prop) (Q : List V → Hp → Prop) : Prop := ∀ F' S' H' ws vs, Sm F F' → Rel K F' S' H' → RepWs K F' ws vs → Q3 ws S' → Q vs H'
def KS (K : PySem.W.Frag) (F : Fz) (E : WX) (Q3 : S3 → Sto → Prop) (Q : St → Hp → Prop) : Prop := ∀ F' S' H' τ σ, Sm F F' → Rel K F' S' H' → EnvR K F' E τ σ → Q3 τ S' → Q σ H'
section
variable {K : PySem.W.Frag} {F F' : Fz} {E : WX}
theorem KE.mono {Q3 : K3} {Q : VK} (k : KE K F Q3 Q) (e : Sm F F') : KE K F' Q3 Q := fun F2 S' H' w v s => k F2 S' H' w v (e.trans s)
theorem KT.mono {Q3 : Bool → Sto → Prop} {Q : Bool → Hp → Prop} (k : KT K F Q3 Q) (e : Sm F F') : KT K F' Q3 Q := fun F2 S' H' b s => k F2 S' H' b (e.trans s)
theorem KA.mono {Q3 : List W → Sto → Prop} {Q : List V → Hp → Prop} (k : KA K F Q3 Q) (e : Sm F F') : KA K F' Q3 Q := fun F2 S' H' w v s => k F2 S' H' w v (e.trans s)
theorem KS.mono {Q3 : S3 → Sto → Prop} {Q : St → Hp → Prop} (k : KS K F E Q3 Q) (e : Sm F F') : KS K F' E Q3 Q := fun F2 S' H' w v s => k F2 S' H' w v (e.trans s)
end
structure KD (K : PySem.W.Frag) (F : Fz) (E : WX) (D3 : Ends3) (D : Ends) : Prop where
  nx : KS K F E D3.nx D.nx
  rt : KE K F D3.rt D.rt
  bk : KS K F E D3.bk D.bk
  ct : KS K F E D3.ct D.ct
theorem KD.mono {K : PySem.W.Frag} {F F' : Fz} {E : WX} {Q3 : Ends3} {Q : Ends} (k : KD K F E Q3 Q) (e : Sm F F') : KD K F' E Q3 Q := ⟨k.nx.mono e, k.rt.mono e, k.bk.mono e, k.ct.mono e⟩

def LE (K : PySem.W.Frag) (E : WX) (t : TE3) : TE := fun σ H Q => ∃ F S τ Q3, Rel K F S H ∧ EnvR K F E τ σ ∧ t τ S Q3 ∧ KE K F Q3 Q
def LT (K : PySem.W.Frag) (E : WX) (t : TT3) : TT := fun σ H Q => ∃ F S τ Q3, Rel K F S H ∧ EnvR K F E τ σ ∧ t τ S Q3 ∧ KT K F Q3 Q
def LA (K : PySem.W.Frag) (E : WX) (t : TA3) : TA := fun σ H Q => ∃ F S τ Q3, Rel K F S H ∧ EnvR K F E τ σ ∧ t τ S Q3 ∧ KA K F Q3 Q
def LS (K : PySem.W.Frag) (E : WX) (t : TS3) : TS := fun D σ H => ∃ F S τ D3, Rel K F S H ∧ EnvR K F E τ σ ∧ t D3 τ S ∧ KD K F E D3 D

/-! ### weaker readings -/
section
variable {X : Cx}
theorem pe_imp {e : Expr} {t u : TE} (h : PE X e t) (i : ∀ σ H Q, u σ H Q → t σ H Q) : PE X e u := ⟨fun pins s σ H Q I q => h.run pins s σ H Q I (i _ _ _ q)⟩
theorem pt_imp {e : Expr} {t u : TT} (h : PT X e t) (i : ∀ σ H Q, u σ H Q → t σ H Q) : PT X e u := ⟨fun pins s σ H Q I q => h.run pins s σ H Q I (i _ _ _ q)⟩
theorem pw_imp {e : Expr} {t u : TT} (h : PW X e t) (i : ∀ σ H Q, u σ H Q → t σ H Q) : PW X e u := ⟨fun whole pins s σ H Q I q => h.run whole pins s σ H Q I (i _ _ _ q)⟩
theorem pa_imp {e : List Expr} {t u : TA} (h : PA X e t) (i : ∀ σ H Q, u σ H Q → t σ H Q) : PA X e u := ⟨fun pos pins s σ H Q I q => h.run pos pins s σ H Q I (i _ _ _ q)⟩
theorem pk_imp {e : List Keyword} {t u : TA} (h : PK X e t) (i : ∀ σ H Q, u σ H Q → t σ H Q) : PK X e u := ⟨fun pos pins s σ H Q I q => h.run pos pins s σ H Q I (i _ _ _ q)⟩
theorem ps_imp {e : Stmt} {t u : TS} (h : PS X e t) (i : ∀ D σ H, u D σ H → t D σ H) : PS X e u := ⟨fun pins s σ H D I q => h.run pins s σ H D I (i _ _ _ q)⟩
theorem pss_imp {e : List Stmt} {t u : TS} (h : PSs X e t) (i : ∀ D σ H, u D σ H → t D σ H) : PSs X e u := ⟨fun pins s σ H D I q => h.run pins s σ H D I (i _ _ _ q)⟩
end

/-! ### names, constants -/
section
variable {X : Cx} {E : WX}
def tVar3 (i : Nat) : TE3 := fun τ S Q => ∃ w, τ.sl[i]? = some (some w) ∧ Q w S
def tC3 (w : W) : TE3 := fun _ S Q => Q w S
theorem pv3 (i : Nat) {x : Str} {pos : Pos} (hN : X.N[i]? = some x := by rfl) (hv : Vis X.env.scope x := by first | exact Or.inl rfl | exact Or.inr (Or.inl rfl) | exact Or.inr (Or.inr rfl)) (hd : (x == ("__debug__" : Str)) = false := by decide)
    (hcd : (x == ("__classdict__" : Str)) = false := by decide) : PE X (.Name x pos) (LE X.K E (tVar3 i)) :=
  pe_imp (pv i hN hv hd hcd) fun σ H Q ⟨F, S, τ, Q3, R, Ev, ⟨w, e, h⟩, k⟩ => by
    obtain ⟨v, ev, r⟩ := Ev.sl.2 i w e
    exact ⟨v, ev, k F S H w v (Sm.refl F) R r h⟩
theorem le_const {t : TE} {e : Expr} {v : V} {w : W} (h : PE X e (tC v)) (r : ∀ F, RepW X.K F w v) : PE X e (LE X.K E (tC3 w)) :=
  pe_imp h fun σ H Q ⟨F, S, τ, Q3, R, Ev, h, k⟩ => k F S H w v (Sm.refl F) R (r F) h
theorem pi3 {i : Int} {j pos} : PE X (.Constant (.int i) j pos) (LE X.K E (tC3 (.int i))) := le_const (t := tC (.int i)) pe_int fun _ => Dp.int i
theorem pb3 {b j pos} : PE X (.Constant (.bool b) j pos) (LE X.K E (tC3 (.bl b))) := le_const (t := tC (.bl b)) pe_bl fun _ => Dp.bl b
theorem pn3 {j pos} : PE X (.Constant .none j pos) (LE X.K E (tC3 .non)) := le_const (t := tC .non) pe_non fun _ => Dp.non
theorem pstr3 {x j pos} : PE X (.Constant (.str x) j pos) (LE X.K E (tC3 (.str x))) := le_const (t := tC (.str x)) pe_str fun _ => Dp.str x
/-- the name of a built-in class -/
theorem pty3 {x : Str} {n : String} {pos : Pos} (hg : Gl X x) (hm : X.mg x = none) (hv : bootBuiltins x = some (.type n)) (hn : x ≠ "__name__" := by decide) (hd : (x == ("__debug__" : Str)) = false := by decide) : PE X (.Name x pos) (LE X.K E (tC3 (.ty n))) :=
  le_const (t := tC (.ty n)) (pe_bltn (v := V.ty n) hg hm hv rfl hn hd) fun _ => rfl
/-- a module's own def or class -/
theorem pref3 {x : Str} {a : Addr} {pos : Pos} (hg : Gl X x) (hm : X.mg x = some (.ref a)) (hd : (x == ("__debug__" : Str)) = false := by decide) : PE X (.Name x pos) (LE X.K E (tC3 (.r a))) :=
  le_const (t := tC (.ref a)) (pe_glob (v := V.ref a) hg hm rfl hd) fun _ => rfl
/-- a module's constant text -/
theorem pgstr3 {x z : Str} {t : Tok} {pos : Pos} (hg : Gl X x) (hm : X.mg x = some (.str z t)) (hd : (x == ("__debug__" : Str)) = false := by decide) : PE X (.Name x pos) (LE X.K E (tC3 (.str z))) :=
  le_const (t := tC (.str z)) (pe_glob (v := V.str z) hg hm ⟨_, rfl⟩ hd) fun _ => Dp.str z
end

/-! ### argument lists -/
def tNil3 : TA3 := fun _ S Q => Q [] S
def tCons3 (t : TE3) (u : TA3) : TA3 := fun τ S Q => t τ S fun w S1 => u τ S1 fun ws S2 => Q (w :: ws) S2
section
variable {X : Cx} {K : PySem.W.Frag} {E : WX}
theorem la_nil : ∀ σ H Q, LA K E tNil3 σ H Q → tNil σ H Q := fun σ H Q ⟨F, S, τ, Q3, R, Ev, h, k⟩ => k F S H [] [] (Sm.refl F) R .nil h
theorem la_cons {t : TE3} {u : TA3} : ∀ σ H Q, LA K E (tCons3 t u) σ H Q → tCons (LE K E t) (LA K E u) σ H Q := fun σ H Q ⟨F, S, τ, Q3, R, Ev, h, k⟩ =>
  ⟨F, S, τ, _, R, Ev, h, fun F1 S1 H1 w v s1 R1 r1 h1 => ⟨F1, S1, τ, _, R1, Ev.mono s1, h1, fun F2 S2 H2 ws vs s2 R2 r2 h2 => k F2 S2 H2 _ _ (s1.trans s2) R2 (.cons (r1.mono s2) r2) h2⟩⟩
theorem pa3_nil : PA X [] (LA X.K E tNil3) := pa_imp pa_nil la_nil
theorem pa3_cons {e : Expr} {es : List Expr} {t : TE3} {u : TA3} (h : PE X e (LE X.K E t)) (hr : PA X es (LA X.K E u)) (hs : starEach (e :: es) X.env = (false, eval e X.env) :: starEach es X.env := by rfl) : PA X (e :: es) (LA X.K E (tCons3 t u)) :=
  pa_imp (pa_cons h hr hs) la_cons
theorem pk3_nil : PK X [] (LA X.K E tNil3) := pk_imp pk_nil la_nil
theorem pk3_cons {e : Expr} {es : List Keyword} {nm : Option Str} {kpos : Pos} {t : TE3} {u : TA3} (h : PE X e (LE X.K E t)) (hr : PK X es (LA X.K E u)) : PK X (⟨nm, e, kpos⟩ :: es) (LA X.K E (tCons3 t u)) :=
  pk_imp (pk_cons h hr) la_cons
end
end H3

namespace H3
open PySem PySem.Spec L2
open PyProof.Rows hiding St

/-! ### defs, where no text is being shown around (repr asks that) -/
structure FnG (P : Program) (w : World) (K : PySem.W.Frag) (mg : Str → Option Value) (base : Heap) (CX : CXT) (k : Nat) (f : Addr) (fd : FuncData) (ps : List Str) (sp : Sp) : Prop where
  len : ∀ (vs : List V) (H : Hp) (Q : VK) (E : XK), sp vs H Q E → vs.length = ps.length
  run : ∀ (A : Around) (outer : List Env) (s : Shared) (H : Hp) (args : Args) (us : List Value) (vs : List V) (Q : VK) (E : XK), A.guards = some [] → Room k A → Env0 P w K mg base A outer s H →
    BindsTo s fd args (ps.zip us) → Vals vs us → sp vs H Q E → codeAny (model P w) A (.call (.ref f) args) (CR CX outer P w H s Q E) s

section
variable {P : Program} {w : World} {K : PySem.W.Frag} {mg : Str → Option Value} {base : Heap} {CX : CXT} {f : Addr} {fd : FuncData} {ps : List Str} {sp : Sp}
theorem FnG.up {j k : Nat} (F : FnG P w K mg base CX j f fd ps sp) (h : j ≤ k) : FnG P w K mg base CX k f fd ps sp :=
  { len := F.len, run := fun A outer s H args us vs Q E hg hr => F.run A outer s H args us vs Q E hg (Room.mono hr h) }

theorem guards_deep {A : Around} {env : Env} (h : A.guards = some []) : (A.deeper env).guards = some [] := h

/-- a def by its body -/
theorem fng_of {x qual : Str} {params : Arguments} {body : List Stmt} {scope : Scope} {dV kV doc pm cdv ct oc : Value} {an od : Option Addr} {osl : Array (Option Value)} {N : List Str} {k : Nat}
    (lk : K.lookup f = some ⟨oc, od, .func (PySem.W.fnOf x qual params body scope dV kV doc pm an cdv ct), osl⟩) (hcd : PySem.W.codeIn K cdv qual = true) (S : FnScope N ps scope)
    (len : ∀ (vs : List V) (H : Hp) (Q : VK) (E : XK), sp vs H Q E → vs.length = ps.length) (hbody : ∀ (A : Around) (outer : List Env) (s : Shared) (H : Hp) (vs : List V) (Q : VK) (E : XK), A.guards = some [] → Room k (A.deeper (envOfC qual scope s.heap.objs.size f cdv)) → sp vs H Q E →
      ∃ t : TS, PSs (cxOf CX P w K mg base N qual scope f cdv A outer s H E) body t ∧ t ⟨fun _ H' => Q .non H', Q, fun _ _ => False, fun _ _ => False⟩ (start N vs) H) :
    FnG P w K mg base CX (k + 1) f (PySem.W.fnOf x qual params body scope dV kV doc pm an cdv ct) ps sp := by
  constructor
  · exact len
  intro A outer s H args us vs Q E hg hr e0 hb r hsp
  have lenE := len vs H Q E hsp
  have KX : K.In s.heap := PySem.W.Frag.In.keeps e0.mod.kin (fun b o e => (e0.bs b o e).1)
  have lim := Heap.NoLimit.keeps e0.mod.nolimit (fun b o e => (e0.bs b o e).1)
  apply codeAny_call_function hr.depth (KX f _ lk) rfl S.co S.gen rfl (PySem.W.codeRec_of KX hcd)
  apply hb
  apply wpAny_newFunctionEnv_cells S.kind
  · rintro ⟨n, v⟩ hy
    have hn := (List.of_mem_zip hy).1
    cases S.par n hn with
    | inl q => exact Or.inl q
    | inr q => exact Or.inr ⟨q, PySem.W.cellsFrom_some scope.names _ [] (Or.inl q)⟩
  · rintro env rfl s1 x
    refine ⟨Heap.NoLimit.keeps lim x.toInCall.keep, codeAny_func ?_⟩
    obtain ⟨t, ht, hq⟩ := hbody A outer s H vs Q E hg (hr.deeper _) hsp
    have I := inv_start (CX := CX) (E := E) S hr.hd e0 lenE r x
    apply wpAny_mono (ht.run [] s1 (start N vs) H _ I hq)
    · intro fl s' hs
      cases fl
      case ret u =>
        obtain ⟨y, _, G, J, ry, q⟩ := hs
        exact ⟨y, G, J.os, J.bare, J.base, J.hok, ry, q⟩
      case next =>
        obtain ⟨σ', H', J, q⟩ := hs
        exact ⟨.non, H', J.os, J.bare, J.base, J.hok, rfl, q⟩
      case brk => exact hs.elim fun _ z => z.elim fun _ z => z.2.elim
      case cont => exact hs.elim fun _ z => z.elim fun _ z => z.2.elim
    · intro e s' hs
      exact hs
end

/-- a top-level definition, told by its statement -/
abbrev FnP (K : PySem.W.Frag) (nm : Str) (st : Stmt) (fa : Addr) (fd : FuncData) : Prop := FunD K nm nm (defArgs st) (defBody st) (defScope st) [] [] fa fd
abbrev MtP (K : PySem.W.Frag) (x q : Str) (st : Stmt) (f : Addr) (fd : FuncData) : Prop := FunD K x q (defArgs st) (defBody st) (defScope st) [] [] f fd
section
variable {K : PySem.W.Frag} {P : Program} {w : World} {base : Heap} {mg : Str → Option Value}
theorem fng_mk {CX : CXT} {x q : Str} {st : Stmt} {f : Addr} {fd : FuncData} {N ps : List Str} {k : Nat} {sp : Sp} (F : MtP K x q st f fd) (S : FnScope N ps (defScope st)) (len : ∀ vs H Q E, sp vs H Q E → vs.length = ps.length)
    (hbody : ∀ (cdv : Value) (A : Around) (outer : List Env) (s : Shared) (H : Hp) (vs : List V) (Q : VK) (E : XK), fd.code = cdv → A.guards = some [] → Room k (A.deeper (envOfC q (defScope st) s.heap.objs.size f cdv)) → sp vs H Q E →
      ∃ t, PSs (cxOf CX P w K mg base N q (defScope st) f cdv A outer s H E) (defBody st) t ∧ t { nx := fun _ H' => Q .non H', rt := Q } (start N vs) H) : FnG P w K mg base CX (k + 1) f fd ps sp := by
  obtain ⟨oc, od, dV, kV, doc, pm, an, cdv, ct, osl, rfl, lk, hcd, _⟩ := F.ex
  exact fng_of lk hcd S len fun A outer s H vs Q E => hbody cdv A outer s H vs Q E rfl
end

/-! ### calls of such -/
section
variable {X : Cx} {CX : CXT} {k : Nat} {f C : Addr} {fd : FuncData} {ps : List Str} {sp : Sp} {E : XK} {x m : Str} {p pos apos : Pos} {e o : Expr} {es : List Expr} {ta : TE} {t : TA}
theorem cr_end {pins : List (Addr × Obj)} {σ : St} {H : Hp} {s : Shared} {Q : VK} {r : Result} {s' : Shared} (hx : Passes CX X E) (I : Inv X pins σ H s) (h : CR CX X.stack X.prog X.w H s Q E r s') :
    match r with
    | .ok (.ret u) => EP X pins σ Q u s'
    | .ok _ => False
    | .error e => X.xe e s' := by
  cases r with
  | error e => exact hx pins σ H s e s' I h
  | ok fl => cases fl <;> first | exact I.after h | exact h
theorem run_fng {pins : List (Addr × Obj)} {σ : St} {H : Hp} {s : Shared} {Q : VK} {us : List Value} {vs : List V} (F : FnG X.prog X.w X.K X.mg X.base CX k f fd ps sp) (hg : X.A.guards = some []) (hr : Room k X.A) (hb : Binds X.K fd ps [])
    (hx : Passes CX X E) (I : Inv X pins σ H s) (r : Vals vs us) (h : sp vs H Q E) : wpAny (model X.prog X.w) X.A (call (.ref f) us) (EP X pins σ Q) X.xe s := by
  have hl : us.length = ps.length := r.length ▸ F.len vs H Q E h
  have hb' : BindsTo s fd ⟨us, []⟩ (ps.zip us) := by simpa using hb s us I.kIn (by simpa using hl)
  apply wpAny_call
  apply codeAny_mono (F.run X.A X.stack s H _ us vs Q E hg hr I.env0 hb' r h)
  intro q s' hq
  have z := cr_end hx I hq
  cases q with
  | error e => exact z
  | ok fl => cases fl <;> exact z
/-- a call by keywords alone: where each value goes -/
structure KwTo (fd : FuncData) (ps ks : List Str) (g : {α : Type} → List α → List α) : Prop where
  to : ∀ (s : Shared) (ws : List Value), ws.length = ks.length → BindsTo s fd ⟨[], ks.zip ws⟩ (ps.zip (g ws))
  rel : ∀ {zs : List V} {ws : List Value}, zs.length = ks.length → Vals zs ws → Vals (g zs) (g ws)
theorem run_fngk {ks : List Str} {E : XK} {g : {α : Type} → List α → List α} {pins : List (Addr × Obj)} {σ : St} {H : Hp} {s : Shared} {Q : VK} {ws : List Value} {zs : List V} (F : FnG X.prog X.w X.K X.mg X.base CX k f fd ps sp) (gd : X.A.guards = some []) (hr : Room k X.A)
    (hb : KwTo fd ps ks g) (hx : Passes CX X E) (I : Inv X pins σ H s) (rz : Vals zs ws) (hz : zs.length = ks.length) (h : sp (g zs) H Q E) : wpAny (model X.prog X.w) X.A (call (.ref f) [] (ks.zip ws)) (EP X pins σ Q) X.xe s := by
  apply wpAny_call
  apply codeAny_mono (F.run X.A X.stack s H ⟨[], ks.zip ws⟩ (g ws) (g zs) Q E gd hr I.env0 (hb.to s ws (rz.length ▸ hz)) (hb.rel hz rz) h)
  intro q s' hq
  have z := cr_end hx I hq
  cases q with
  | error e => exact z
  | ok fl => cases fl <;> exact z
end

/-! ### promises over values -/
/-- an exception of the class at C, with these attributes -/
abbrev X3 := Addr → List (Str × W) → Sto → Prop
abbrev Sp3 := List W → Sto → K3 → X3 → Prop
abbrev X0 : X3 := fun _ _ _ => False
def KX (K : PySem.W.Frag) (F : Fz) (E3 : X3) (E : XK) : Prop := ∀ F' S' H' C dd fs gs, Sm F F' → Rel K F' S' H' → F'.f dd = some (.xd gs) → RepFs K F' fs gs → E3 C fs S' → E (.ref C) (some dd) H'
theorem KX.mono {K : PySem.W.Frag} {F F' : Fz} {E3 : X3} {E : XK} (k : KX K F E3 E) (e : Sm F F') : KX K F' E3 E := fun F2 S' H' C dd fs gs s => k F2 S' H' C dd fs gs (e.trans s)
theorem KX.no {K : PySem.W.Frag} {F : Fz} {E : XK} : KX K F X0 E := fun _ _ _ _ _ _ _ _ _ _ _ h => h.elim
def LSp (K : PySem.W.Frag) (sp : Sp3) : Sp := fun vs H Q E => ∃ F S ws Q3 E3, Rel K F S H ∧ RepWs K F ws vs ∧ sp ws S Q3 E3 ∧ KE K F Q3 Q ∧ KX K F E3 E
/-- what a def leaves; what it made may be forgotten -/
def DQ (Q3 : K3) : Ends3 where
  nx := fun _ S' => ∃ S2, Sub S2 S' ∧ Q3 .non S2
  rt := fun w S' => ∃ S2, Sub S2 S' ∧ Q3 w S2
/-- a start's slots -/
def start3 (N : Nat) (ws : List W) (E3 : X3) : S3 := ⟨ws.map some ++ List.replicate (N - ws.length) none, fun C fs _ S' => ∃ S2, Sub S2 S' ∧ E3 C fs S2⟩
theorem slR_start {K : PySem.W.Frag} {F : Fz} {N : List Str} {ws : List W} {vs : List V} (r : RepWs K F ws vs) : SlE K F (ws.map some ++ List.replicate (N.length - ws.length) none) (L2.start N vs) := by
  have hl := Paired.length r
  refine ⟨by simp [L2.start, hl], fun i w h => ?_⟩
  by_cases hi : i < ws.length
  · rw [List.getElem?_append_left (by simpa using hi), List.getElem?_map] at h
    obtain ⟨u, hu, e⟩ : ∃ u, ws[i]? = some u ∧ some u = some w := by
      cases q : ws[i]? with
      | none => rw [q] at h; cases h
      | some u => rw [q] at h; exact ⟨u, rfl, Option.some.inj h⟩
    cases e
    obtain ⟨v, hv, rv⟩ : ∃ v, vs[i]? = some v ∧ RepW K F w v := by
      clear h hi hl
      induction r generalizing i with
      | nil => cases hu
      | cons a t ih =>
        cases i with
        | zero => cases hu; exact ⟨_, rfl, a⟩
        | succ j => exact ih j hu
    refine ⟨v, ?_, rv⟩
    unfold L2.start
    rw [List.getElem?_append_left (by rw [← hl] at *; simpa using (List.getElem?_eq_some_iff.mp hv).1), List.getElem?_map, hv]
    rfl
  · rw [List.getElem?_append_right (by simpa using hi), List.getElem?_replicate] at h
    split at h <;> cases h

/-- THE RULE for a def: its reading t, and that the promise gives it; its code object is told -/
theorem fn3c {P : Program} {w : World} {K : PySem.W.Frag} {mg : Str → Option Value} {base : Heap} {x q : Str} {st : Stmt} {f : Addr} {fd : FuncData} {N ps : List Str} {k : Nat} {sp : Sp3} (F : MtP K x q st f fd) (S : FnScope N ps (defScope st)) (t : TS3)
    (len : ∀ ws S Q E, sp ws S Q E → ws.length = ps.length) (sem : ∀ ws S Q E, sp ws S Q E → t (DQ Q) (start3 N.length ws E) S)
    (body : ∀ (X : Cx) (cdv : Value) (A : Around) (outer : List Env) (s : Shared) (H : Hp) (E : XK), X = cxOf (L2.CX P w) P w K mg base N q (defScope st) f cdv A outer s H E → fd.code = cdv → A.guards = some [] → Room k X.A → Takes X (fun cls d _ H => E cls d H) → PassesOwn (model X.prog X.w) X.A X.env X.xe →
      PSs X (defBody st) (LS X.K (fun cls d _ H => E cls d H) t)) :
    FnG P w K mg base (L2.CX P w) (k + 1) f fd ps (LSp K sp) := by
  refine fng_mk F S (fun vs H Q E h => ?_) (fun cdv A outer s H vs Q E hc hg hr h => ?_)
  · obtain ⟨F, S, ws, Q3, E3, _, r, h, _⟩ := h
    rw [← Paired.length r]
    exact len _ _ _ _ h
  · obtain ⟨F, S0, ws, Q3, E3, R, r, h, kq, kx⟩ := h
    refine ⟨_, body _ cdv A outer s H E rfl hc hg hr (takes_of rfl rfl rfl rfl) (passes_of rfl), F, S0, start3 N.length ws E3, DQ Q3, R, ⟨slR_start r, ?_⟩, sem _ _ _ _ h, ⟨?_, ?_, ?_, ?_⟩⟩
    · intro F' S' H' C dd fs gs sl σ s1 R1 e1 r1 _ ⟨S2, sb, q⟩
      exact kx F' S2 H' C dd fs gs s1 (R1.less sb) e1 r1 q
    · intro F' S' H' τ σ s1 R1 _ ⟨S2, sb, q⟩
      exact kq F' S2 H' _ _ s1 (R1.less sb) (show RepW K F' .non .non from Dp.non) q
    · intro F' S' H' w v s1 R1 r1 ⟨S2, sb, q⟩
      exact kq F' S2 H' _ _ s1 (R1.less sb) r1 q
    · intro _ _ _ _ _ _ _ _ q; exact q.elim
    · intro _ _ _ _ _ _ _ _ q; exact q.elim

/-- THE RULE for a def: its reading t, and that the promise gives it -/
theorem fn3 {P : Program} {w : World} {K : PySem.W.Frag} {mg : Str → Option Value} {base : Heap} {x q : Str} {st : Stmt} {f : Addr} {fd : FuncData} {N ps : List Str} {k : Nat} {sp : Sp3} (F : MtP K x q st f fd) (S : FnScope N ps (defScope st)) (t : TS3)
    (len : ∀ ws S Q E, sp ws S Q E → ws.length = ps.length) (sem : ∀ ws S Q E, sp ws S Q E → t (DQ Q) (start3 N.length ws E) S)
    (body : ∀ (X : Cx) (cdv : Value) (A : Around) (outer : List Env) (s : Shared) (H : Hp) (E : XK), X = cxOf (L2.CX P w) P w K mg base N q (defScope st) f cdv A outer s H E → A.guards = some [] → Room k X.A → Takes X (fun cls d _ H => E cls d H) → PassesOwn (model X.prog X.w) X.A X.env X.xe →
      PSs X (defBody st) (LS X.K (fun cls d _ H => E cls d H) t)) :
    FnG P w K mg base (L2.CX P w) (k + 1) f fd ps (LSp K sp) := by
  exact fn3c F S t len sem fun X cdv A outer s H E e _ => body X cdv A outer s H E e

/-! ### calls over values -/
def tCall3 (sp : Sp3) (t : TA3) : TE3 := fun τ S Q => t τ S fun ws S1 => sp ws S1 Q fun C fs S2 => τ.ex C fs τ.sl S2
def tCallK3 (sp : Sp3) (g : List W → List W) (n : Nat) (t : TA3) : TE3 := fun τ S Q => t τ S fun ws S1 => ws.length = n ∧ sp (g ws) S1 Q fun C fs S2 => τ.ex C fs τ.sl S2
section
variable {X : Cx} {Ex : WX} {k : Nat} {f : Addr} {fd : FuncData} {ps : List Str} {x : Str} {p pos : Pos} {e : Expr} {es : List Expr}
/-- a call f(k = e, ..) by keywords alone: facts of its text -/
structure KwCall (X : Cx) (pos : Pos) (kws : List Keyword) (ks : List Str) : Prop where
  all : (backToKw pos (keywordEach kws X.env)).all (fun z => z.1.isSome) = true
  names : (backToKw pos (keywordEach kws X.env)).filterMap (fun z => z.1) = ks
  plain : ((backTo pos (starEach [] X.env)).any (fun z => z.1) || (backToKw pos (keywordEach kws X.env)).any fun z => z.1.isNone) = false
/-- calls from a state with slots -/
theorem pe_callGs {sp : Sp} {t : TA} {E : St → XK} (F : FnG X.prog X.w X.K X.mg X.base (L2.CX X.prog X.w) k f fd ps sp) (gd : X.A.guards = some []) (hr : Room k X.A) (hg : Gl X x) (hm : X.mg x = some (.ref f)) (hk : PySem.W.keepIn X.K (.ref f) = true) (hb : Binds X.K fd ps [])
    (hx : ∀ σ, PassesAt (L2.CX X.prog X.w) X σ (E σ)) (ha : PA X (e :: es) t) (hdb : (x == ("__debug__" : Str)) = false := by decide) (he : starEach (e :: es) X.env = (false, eval e X.env) :: starEach es X.env := by rfl) (hpl : (backTo pos (starEach es X.env)).any (·.1) = false := by rfl) :
    PE X (.Call (.Name x p) (e :: es) [] pos) (fun σ H Q => t σ H fun vs H1 => sp vs H1 Q (E σ)) := by
  constructor
  intro pins s σ H Q I h
  apply wpAny_Call_Name_kw
  apply ld_glob I hg hm _ hdb
  apply PySem.W.callWith_K (h₀ := X.base) I.ok.mod.kin hk _ he hpl
  refine thn (ha.run pos pins s σ H _ I h) (fun us s1 ⟨vs, H1, I1, r, q⟩ => ⟨I1.kIn, ?_⟩)
  have hl : us.length = ps.length := r.length ▸ F.len vs H1 Q _ q
  have hb' : BindsTo s1 fd ⟨us, []⟩ (ps.zip us) := by simpa using hb s1 us I1.kIn (by simpa using hl)
  apply wpAny_call
  apply codeAny_mono (F.run X.A X.stack s1 H1 _ us vs Q _ gd hr I1.env0 hb' r q)
  intro o s' ho
  cases o with
  | error e => exact hx σ pins H1 s1 e s' I1 ho
  | ok fl => cases fl <;> first | exact I1.after ho | exact ho.elim
theorem pe_callGs0 {sp : Sp} {E : St → XK} (F : FnG X.prog X.w X.K X.mg X.base (L2.CX X.prog X.w) k f fd ps sp) (gd : X.A.guards = some []) (hr : Room k X.A) (hg : Gl X x) (hm : X.mg x = some (.ref f)) (hk : PySem.W.keepIn X.K (.ref f) = true) (hb : Binds X.K fd ps [])
    (hx : ∀ σ, PassesAt (L2.CX X.prog X.w) X σ (E σ)) (hdb : (x == ("__debug__" : Str)) = false := by decide) :
    PE X (.Call (.Name x p) [] [] pos) (fun σ H Q => sp [] H Q (E σ)) := by
  constructor
  intro pins s σ H Q I q
  apply wpAny_Call_Name_kw
  apply ld_glob I hg hm _ hdb
  apply PySem.W.callWith_K0 I.kIn hk
  have hl : ([] : List Value).length = ps.length := F.len [] H Q _ q
  have hb' : BindsTo s fd ⟨[], []⟩ (ps.zip []) := by simpa using hb s [] I.kIn (by simpa using hl)
  apply wpAny_call
  apply codeAny_mono (F.run X.A X.stack s H _ [] [] Q _ gd hr I.env0 hb' .nil q)
  intro o s' ho
  cases o with
  | error e => exact hx σ pins H s e s' I ho
  | ok fl => cases fl <;> first | exact I.after ho | exact ho.elim
theorem pe_callGk {sp : Sp} {t : TA} {E : St → XK} {ks : List Str} {g : {α : Type} → List α → List α} {kws : List Keyword} (F : FnG X.prog X.w X.K X.mg X.base (L2.CX X.prog X.w) k f fd ps sp) (gd : X.A.guards = some []) (hr : Room k X.A) (hg : Gl X x) (hm : X.mg x = some (.ref f))
    (hk : PySem.W.keepIn X.K (.ref f) = true) (hb : KwTo fd ps ks g) (hx : ∀ σ, PassesAt (L2.CX X.prog X.w) X σ (E σ)) (hkw : PK X kws t) (kc : KwCall X pos kws ks := by exact ⟨rfl, rfl, rfl⟩) (hdb : (x == ("__debug__" : Str)) = false := by decide) :
    PE X (.Call (.Name x p) [] kws pos) (fun σ H Q => t σ H fun zs H1 => zs.length = ks.length ∧ sp (g zs) H1 Q (E σ)) := by
  constructor
  intro pins s σ H Q I h
  apply wpAny_Call_Name_kw
  apply ld_glob I hg hm _ hdb
  apply PySem.W.callWith_KW0 (h₀ := X.base) I.ok.mod.kin hk kc.all _ kc.plain
  refine thn (hkw.run pos pins s σ H _ I h) (fun ws s2 ⟨zs, H2, I2, rz, hz, q2⟩ => ⟨I2.kIn, ?_⟩)
  rw [kc.names]
  apply wpAny_call
  apply codeAny_mono (F.run X.A X.stack s2 H2 ⟨[], ks.zip ws⟩ (g ws) (g zs) Q _ gd hr I2.env0 (hb.to s2 ws (rz.length ▸ hz)) (hb.rel hz rz) q2)
  intro o s' ho
  cases o with
  | error e => exact hx σ pins H2 s2 e s' I2 ho
  | ok fl => cases fl <;> first | exact I2.after ho | exact ho.elim
variable {sp : Sp3} {t : TA3}
theorem kx_of {K : PySem.W.Frag} {F F1 : Fz} {τ : S3} {σ : St} (Ev : EnvR K F Ex τ σ) (s1 : Sm F F1) : KX K F1 (fun C fs S2 => τ.ex C fs τ.sl S2) (WE Ex σ) := fun F' S' H' C dd fs gs s R e r q =>
  Ev.ex F' S' H' C dd fs gs τ.sl σ (s1.trans s) R e r (Ev.sl.mono (s1.trans s)) q
theorem pe3_call (F : FnG X.prog X.w X.K X.mg X.base (L2.CX X.prog X.w) k f fd ps (LSp X.K sp)) (gd : X.A.guards = some []) (hr : Room k X.A) (tk : Takes X Ex) (hg : Gl X x) (hm : X.mg x = some (.ref f)) (hk : PySem.W.keepIn X.K (.ref f) = true) (hb : Binds X.K fd ps [])
    (ha : PA X (e :: es) (LA X.K Ex t)) (hdb : (x == ("__debug__" : Str)) = false := by decide) (he : starEach (e :: es) X.env = (false, eval e X.env) :: starEach es X.env := by rfl) (hpl : (backTo pos (starEach es X.env)).any (·.1) = false := by rfl) :
    PE X (.Call (.Name x p) (e :: es) [] pos) (LE X.K Ex (tCall3 sp t)) :=
  pe_imp (pe_callGs F gd hr hg hm hk hb (fun σ => passAt tk σ) ha hdb he hpl) fun σ H Q ⟨F, S, τ, Q3, R, Ev, h, k⟩ =>
    ⟨F, S, τ, _, R, Ev, h, fun F1 S1 H1 ws vs s1 R1 r1 h1 => ⟨F1, S1, ws, Q3, _, R1, r1, h1, k.mono s1, kx_of Ev s1⟩⟩
theorem pe3_call0 (F : FnG X.prog X.w X.K X.mg X.base (L2.CX X.prog X.w) k f fd ps (LSp X.K sp)) (gd : X.A.guards = some []) (hr : Room k X.A) (tk : Takes X Ex) (hg : Gl X x) (hm : X.mg x = some (.ref f)) (hk : PySem.W.keepIn X.K (.ref f) = true) (hb : Binds X.K fd ps [])
    (hdb : (x == ("__debug__" : Str)) = false := by decide) : PE X (.Call (.Name x p) [] [] pos) (LE X.K Ex (tCall3 sp tNil3)) :=
  pe_imp (pe_callGs0 F gd hr hg hm hk hb (fun σ => passAt tk σ) hdb) fun σ H Q ⟨F, S, τ, Q3, R, Ev, h, k⟩ => ⟨F, S, [], Q3, _, R, .nil, h, k, kx_of Ev (Sm.refl F)⟩
theorem pe3_callK {ks : List Str} {g : {α : Type} → List α → List α} {gW : List W → List W} {kws : List Keyword} (F : FnG X.prog X.w X.K X.mg X.base (L2.CX X.prog X.w) k f fd ps (LSp X.K sp)) (gd : X.A.guards = some []) (hr : Room k X.A) (tk : Takes X Ex) (hg : Gl X x) (hm : X.mg x = some (.ref f))
    (hk : PySem.W.keepIn X.K (.ref f) = true) (hb : KwTo fd ps ks g) (hgW : ∀ (F : Fz) (ws : List W) (vs : List V), ws.length = ks.length → RepWs X.K F ws vs → RepWs X.K F (gW ws) (g vs)) (hkw : PK X kws (LA X.K Ex t)) (kc : KwCall X pos kws ks := by exact ⟨rfl, rfl, rfl⟩) (hdb : (x == ("__debug__" : Str)) = false := by decide) :
    PE X (.Call (.Name x p) [] kws pos) (LE X.K Ex (tCallK3 sp gW ks.length t)) :=
  pe_imp (pe_callGk F gd hr hg hm hk hb (fun σ => passAt tk σ) hkw kc hdb) fun σ H Q ⟨F, S, τ, Q3, R, Ev, h, k⟩ =>
    ⟨F, S, τ, _, R, Ev, h, fun F1 S1 H1 ws vs s1 R1 r1 ⟨hl, h1⟩ => ⟨(Paired.length r1).symm.trans hl, F1, S1, gW ws, Q3, _, R1, hgW F1 ws vs hl r1, h1, k.mono s1, kx_of Ev s1⟩⟩
end
end H3

namespace H3
open PySem PySem.Spec L2

/-! ### what a value is -/
section
variable {K : PySem.W.Frag} {F : Fz} {v : V}
theorem rep_int {i : Int} (h : RepW K F (.int i) v) : v = .int i := by cases (show Dp K F.f v (.int i) from h); rfl
theorem rep_bl {b : Bool} (h : RepW K F (.bl b) v) : v = .bl b := by cases (show Dp K F.f v (.bool b) from h); rfl
theorem rep_str {x : Str} (h : RepW K F (.str x) v) : v = .str x := by cases (show Dp K F.f v (.str x) from h); rfl
theorem rep_non (h : RepW K F .non v) : v = .non := by cases (show Dp K F.f v .none from h); rfl
theorem rep_r {a : Addr} (h : RepW K F (.r a) v) : v = .ref a := h
theorem rep_ty {n : String} (h : RepW K F (.ty n) v) : v = .ty n := h
theorem mk_int {i : Int} : RepW K F (.int i) (.int i) := Dp.int i
theorem mk_bl {b : Bool} : RepW K F (.bl b) (.bl b) := Dp.bl b
theorem mk_str {x : Str} : RepW K F (.str x) (.str x) := Dp.str x
theorem mk_non : RepW K F .non .non := Dp.non
end
/-- the items of a list or tuple -/
def seqW (S : Sto) : W → Option (List W)
  | .d (.list ds) => some (ds.map W.d)
  | .d (.tuple ds) => some (ds.map W.d)
  | .r a => match S a with
    | some (.lst ws) => some ws
    | _ => none
  | _ => none
/-- a value as data, now -/
def viewW (S : Sto) : W → Option PyData
  | .d x => some x
  | .r a => match S a with
    | some (.lst ws) => (ws.mapM fun | W.d x => some x | _ => none).map .list
    | _ => none
  | .ty _ => none
section
variable {K : PySem.W.Frag} {F : Fz} {S : Sto} {H : Hp} {v : V} {w : W}
theorem seq_rep {ws : List W} (R : Rel K F S H) (r : RepW K F w v) (h : seqW S w = some ws) : ∃ a vs, v = .ref a ∧ (SqL K H a vs ∨ SqT K H a vs) ∧ RepWs K F ws vs := by
  cases w with
  | d x =>
    cases (show Dp K F.f v x from r) with
    | lst hs ha => cases h; exact ⟨_, _, rfl, .inl (R.same.seq hs), repWs_of_all ha⟩
    | tup hs ha => cases h; exact ⟨_, _, rfl, .inr (sqt_mono R.same hs.sqt), repWs_of_all ha⟩
    | non => cases h
    | bl => cases h
    | int => cases h
    | str => cases h
  | r a =>
    have h' : (match S a with | some (.lst ws) => some ws | _ => none) = some ws := h
    cases e : S a with
    | none => rw [e] at h'; exact nomatch h'
    | some p =>
      rw [e] at h'
      cases p with
      | ins C fs => cases h'
      | tb q => cases h'
      | dk q => cases h'
      | dt a q => cases h'
      | tp q => cases h'
      | lst us =>
        cases h'
        obtain ⟨_, o, ho, vs, rfl, rv⟩ := R.st a _ e
        exact ⟨a, vs, r, .inl (.inl (.inl ho)), rv⟩
  | ty n => cases h
theorem mapM_d : ∀ {ws : List W} {ds : List PyData}, (ws.mapM fun | W.d x => some x | _ => none) = some ds → ws = ds.map W.d
  | [], ds, h => by cases h; rfl
  | w :: ws, ds, h => by
    rw [List.mapM_cons] at h
    cases w with
    | d x =>
      cases e : (ws.mapM fun | W.d x => some x | _ => none) with
      | none => rw [e] at h; exact nomatch h
      | some es =>
        rw [e] at h
        cases h
        rw [mapM_d e]; rfl
    | r a => cases h
    | ty n => cases h
theorem mapM_of : ∀ (ds : List PyData), ((ds.map W.d).mapM fun | W.d x => some x | _ => none) = some ds
  | [] => rfl
  | d :: ds => by
    rw [List.map_cons, List.mapM_cons, mapM_of ds]; rfl
theorem view_lst {a : Addr} {ds : List PyData} (h : S a = some (.lst (ds.map W.d))) : viewW S (.r a) = some (.list ds) := by
  show (match S a with | some (.lst ws) => (ws.mapM fun | W.d x => some x | _ => none).map PyData.list | _ => none) = _
  rw [h]
  show ((ds.map W.d).mapM fun | W.d x => some x | _ => none).map PyData.list = _
  rw [mapM_of]; rfl
theorem view_rep {x : PyData} (R : Rel K F S H) (r : RepW K F w v) (h : viewW S w = some x) : L2.Dp K H v x := by
  cases w with
  | d y => cases h; exact (dp_mono R.same r).q
  | r a =>
    have h' : (match S a with | some (.lst ws) => (ws.mapM fun | W.d x => some x | _ => none).map PyData.list | _ => none) = some x := h
    cases e : S a with
    | none => rw [e] at h'; exact nomatch h'
    | some p =>
      rw [e] at h'
      cases p with
      | ins C fs => cases h'
      | tb q => cases h'
      | dk q => cases h'
      | dt a q => cases h'
      | tp q => cases h'
      | lst us =>
        cases e2 : (us.mapM fun | W.d x => some x | _ => none) with
        | none =>
          have h2 : (us.mapM fun | W.d x => some x | _ => none).map PyData.list = some x := h'
          rw [e2] at h2; cases h2
        | some ds =>
          have h2 : (us.mapM fun | W.d x => some x | _ => none).map PyData.list = some x := h'
          rw [e2] at h2; cases h2
          have e3 := mapM_d e2
          subst e3
          obtain ⟨_, o, ho, vs, rfl, rv⟩ := R.st a _ e
          cases (show v = .ref a from r)
          exact L2.Dp.lst (.inl (.inl ho)) (dpAll_mono R.same (all_of_repWs rv)).q
  | ty n => cases h
end

/-! ### operators -/
abbrev R3 := W → W → Sto → K3 → Prop
def OpL (K : PySem.W.Frag) (r3 : R3) (r : R2) : Prop := ∀ F S H w u x y Q3 Q, Rel K F S H → RepW K F w x → RepW K F u y → r3 w u S Q3 → KE K F Q3 Q → r x y H Q
def tOp3 (r : R3) (ta tb : TE3) : TE3 := fun τ S Q => ta τ S fun w S1 => tb τ S1 fun u S2 => r w u S2 Q
section
variable {K : PySem.W.Frag} {Ex : WX} {ta tb tc : TE3} {r3 r3' : R3} {r r' : R2}
theorem le_op (l : OpL K r3 r) : ∀ σ H Q, LE K Ex (tOp3 r3 ta tb) σ H Q → tOp r (LE K Ex ta) (LE K Ex tb) σ H Q := fun σ H Q ⟨F, S, τ, Q3, R, Ev, h, k⟩ =>
  ⟨F, S, τ, _, R, Ev, h, fun F1 S1 H1 w x s1 R1 r1 h1 => ⟨F1, S1, τ, _, R1, Ev.mono s1, h1, fun F2 S2 H2 u y s2 R2 r2 h2 => l F2 S2 H2 w u x y Q3 Q R2 (r1.mono s2) r2 h2 (k.mono (s1.trans s2))⟩⟩
end
section
variable {X : Cx} {Ex : WX} {a b c : Expr} {ta tb tc : TE3} {r3 r3' : R3} {r r' : R2} {pos : Pos}
theorem pe3_op {op : Operator} (ho : OpR X (binaryOp op) r) (l : OpL X.K r3 r) (ha : PE X a (LE X.K Ex ta)) (hb : PE X b (LE X.K Ex tb)) : PE X (.BinOp a op b pos) (LE X.K Ex (tOp3 r3 ta tb)) := pe_imp (pe_op ho ha hb) (le_op l)
theorem pe3_cmp {op : CmpOp} (ho : OpR X (compareOp op) r) (l : OpL X.K r3 r) (ha : PE X a (LE X.K Ex ta)) (hb : PE X b (LE X.K Ex tb)) (hm : behindInMarks op b = false) : PE X (.Compare a [op] [b] pos) (LE X.K Ex (tOp3 r3 ta tb)) := pe_imp (pe_cmpR ho ha hb hm) (le_op l)
/-- a value as a test -/
def tB3 (t : TE3) : TT3 := fun τ S Q => t τ S fun w S1 => ∃ c, w = .bl c ∧ Q c S1
theorem lt_val {K : PySem.W.Frag} {t : TE3} : ∀ σ H Q, LT K Ex (tB3 t) σ H Q → tB (LE K Ex t) σ H Q := fun σ H Q ⟨F, S, τ, Q3, R, Ev, h, k⟩ =>
  ⟨F, S, τ, _, R, Ev, h, fun F1 S1 H1 w x s1 R1 r1 ⟨c, e, h1⟩ => by subst e; exact ⟨c, rep_bl r1, k F1 S1 H1 c s1 R1 h1⟩⟩
theorem pt3_cmp {op : CmpOp} (ho : OpR X (compareOp op) r) (l : OpL X.K r3 r) (ha : PE X a (LE X.K Ex ta)) (hb : PE X b (LE X.K Ex tb)) (hm : behindInMarks op b = false) : PT X (.Compare a [op] [b] pos) (LT X.K Ex (tB3 (tOp3 r3 ta tb))) :=
  pt_imp (pt_cmpR ho ha hb hm) fun σ H Q h => lt_val σ H Q h |> fun q => show tTest (tOp r (LE X.K Ex ta) (LE X.K Ex tb)) σ H Q from le_op l σ H _ q
theorem pt3_val {e : Expr} {t : TE3} (h : PE X e (LE X.K Ex t)) (he : ∀ whole, isTrue e X.env whole = (do let v ← whole; standAt e.pos; holding [v] (truthy v)) := by intro _; rfl) : PT X e (LT X.K Ex (tB3 t)) := pt_imp (pt_val h he) lt_val
/-- a < b < c -/
def tChain3 (r r' : R3) (ta tb tc : TE3) : TE3 := fun τ S Q => ta τ S fun w S1 => tb τ S1 fun u S2 => r w u S2 fun z S3 => ∃ k, z = .bl k ∧ (k = true → tc τ S3 fun x S4 => r' u x S4 Q) ∧ (k = false → Q (.bl false) S3)
theorem le_chain {K : PySem.W.Frag} (l : OpL K r3 r) (l' : OpL K r3' r') : ∀ σ H Q, LE K Ex (tChain3 r3 r3' ta tb tc) σ H Q → tChain r r' (LE K Ex ta) (LE K Ex tb) (LE K Ex tc) σ H Q := fun σ H Q ⟨F, S, τ, Q3, R, Ev, h, k⟩ =>
  ⟨F, S, τ, _, R, Ev, h, fun F1 S1 H1 w x s1 R1 r1 h1 => ⟨F1, S1, τ, _, R1, Ev.mono s1, h1, fun F2 S2 H2 u y s2 R2 r2 h2 =>
    l F2 S2 H2 w u x y _ _ R2 (r1.mono s2) r2 h2 fun F3 S3 H3 z v s3 R3 r3 ⟨b, e, h3, h4⟩ => by
      subst e
      refine ⟨b, rep_bl r3, ?_⟩
      cases b with
      | true => exact iteT ⟨F3, S3, τ, _, R3, Ev.mono (s1.trans (s2.trans s3)), h3 rfl, fun F4 S4 H4 w' x' s4 R4 r4 h5 => l' F4 S4 H4 u w' y x' Q3 Q R4 (r2.mono (s3.trans s4)) r4 h5 (k.mono (s1.trans (s2.trans (s3.trans s4))))⟩
      | false => exact iteF (k F3 S3 H3 _ _ (s1.trans (s2.trans s3)) R3 mk_bl (h4 rfl))⟩⟩
theorem pe3_chain {op op' : CmpOp} (ho : OpR X (compareOp op) r) (ho' : OpR X (compareOp op') r') (l : OpL X.K r3 r) (l' : OpL X.K r3' r') (ha : PE X a (LE X.K Ex ta)) (hb : PE X b (LE X.K Ex tb)) (hc : PE X c (LE X.K Ex tc))
    (hm : lastMarks [op, op'] [b, c] = false := by with_unfolding_all rfl) : PE X (.Compare a [op, op'] [b, c] pos) (LE X.K Ex (tChain3 r3 r3' ta tb tc)) := pe_imp (pe_chain ho ho' ha hb hc hm) (le_chain l l')
theorem pt3_chain {op op' : CmpOp} (ho : OpR X (compareOp op) r) (ho' : OpR X (compareOp op') r') (l : OpL X.K r3 r) (l' : OpL X.K r3' r') (ha : PE X a (LE X.K Ex ta)) (hb : PE X b (LE X.K Ex tb)) (hc : PE X c (LE X.K Ex tc))
    (hm : lastMarks [op, op'] [b, c] = false := by with_unfolding_all rfl) : PT X (.Compare a [op, op'] [b, c] pos) (LT X.K Ex (tB3 (tChain3 r3 r3' ta tb tc))) :=
  pt_imp (pt_chain ho ho' ha hb hc hm) fun σ H Q h => lt_val σ H Q h |> fun q => show tTest (tChain r r' (LE X.K Ex ta) (LE X.K Ex tb) (LE X.K Ex tc)) σ H Q from le_chain l l' σ H _ q

/-! ### and, or, not; conditional expressions -/
variable {t u v : TT3} {rest : List Expr}
def tAnd3 (t u : TT3) : TT3 := fun τ S Q => t τ S fun b S1 => (b = true → u τ S1 Q) ∧ (b = false → Q false S1)
def tOr3 (t u : TT3) : TT3 := fun τ S Q => t τ S fun b S1 => (b = true → Q true S1) ∧ (b = false → u τ S1 Q)
def tNot3 (t : TT3) : TT3 := fun τ S Q => t τ S fun b S1 => Q (!b) S1
theorem pw3_and1 (ha : PT X a (LT X.K Ex t)) : PW X (.BoolOp .And [a] pos) (LT X.K Ex t) := pw_and1 ha
theorem pw3_or1 (ha : PT X a (LT X.K Ex t)) : PW X (.BoolOp .Or [a] pos) (LT X.K Ex t) := pw_or1 ha
theorem pw3_and (ha : PT X a (LT X.K Ex t)) (hb : PW X (.BoolOp .And (b :: rest) pos) (LT X.K Ex u)) : PW X (.BoolOp .And (a :: b :: rest) pos) (LT X.K Ex (tAnd3 t u)) :=
  pw_imp (pw_and ha hb) fun σ H Q ⟨F, S, τ, Q3, R, Ev, h, k⟩ => ⟨F, S, τ, _, R, Ev, h, fun F1 S1 H1 b s1 R1 ⟨h1, h2⟩ => by
    cases b with
    | true => exact iteT ⟨F1, S1, τ, Q3, R1, Ev.mono s1, h1 rfl, k.mono s1⟩
    | false => exact iteF (k F1 S1 H1 _ s1 R1 (h2 rfl))⟩
theorem pw3_or (ha : PT X a (LT X.K Ex t)) (hb : PW X (.BoolOp .Or (b :: rest) pos) (LT X.K Ex u)) : PW X (.BoolOp .Or (a :: b :: rest) pos) (LT X.K Ex (tOr3 t u)) :=
  pw_imp (pw_or ha hb) fun σ H Q ⟨F, S, τ, Q3, R, Ev, h, k⟩ => ⟨F, S, τ, _, R, Ev, h, fun F1 S1 H1 b s1 R1 ⟨h1, h2⟩ => by
    cases b with
    | true => exact iteT (k F1 S1 H1 _ s1 R1 (h1 rfl))
    | false => exact iteF ⟨F1, S1, τ, Q3, R1, Ev.mono s1, h2 rfl, k.mono s1⟩⟩
theorem pt3_not (ha : PT X a (LT X.K Ex t)) : PT X (.UnaryOp .Not a pos) (LT X.K Ex (tNot3 t)) :=
  pt_imp (pt_not ha) fun σ H Q ⟨F, S, τ, Q3, R, Ev, h, k⟩ => ⟨F, S, τ, _, R, Ev, h, fun F1 S1 H1 b s1 R1 h1 => k F1 S1 H1 _ s1 R1 h1⟩
/-- as values -/
def tAndV3 (ta tb : TE3) : TE3 := fun τ S Q => ta τ S fun w S1 => ∃ c, w = .bl c ∧ (c = true → tb τ S1 Q) ∧ (c = false → Q (.bl false) S1)
def tOrV3 (ta tb : TE3) : TE3 := fun τ S Q => ta τ S fun w S1 => ∃ c, w = .bl c ∧ (c = true → Q (.bl true) S1) ∧ (c = false → tb τ S1 Q)
def tNotV3 (ta : TE3) : TE3 := fun τ S Q => ta τ S fun w S1 => ∃ c, w = .bl c ∧ Q (.bl (!c)) S1
theorem pe3_one {op} {t : TE3} (h : PE X a (LE X.K Ex t)) : PE X (.BoolOp op [a] pos) (LE X.K Ex t) := pe_one h
theorem pe3_and (ha : PE X a (LE X.K Ex ta)) (hb : PE X (.BoolOp .And (b :: rest) pos) (LE X.K Ex tb)) : PE X (.BoolOp .And (a :: b :: rest) pos) (LE X.K Ex (tAndV3 ta tb)) :=
  pe_imp (pe_and ha hb) fun σ H Q ⟨F, S, τ, Q3, R, Ev, h, k⟩ => ⟨F, S, τ, _, R, Ev, h, fun F1 S1 H1 w x s1 R1 r1 ⟨c, e, h1, h2⟩ => by
    subst e
    refine ⟨c, rep_bl r1, ?_⟩
    cases c with
    | true => exact iteT ⟨F1, S1, τ, Q3, R1, Ev.mono s1, h1 rfl, k.mono s1⟩
    | false => exact iteF (k F1 S1 H1 _ _ s1 R1 mk_bl (h2 rfl))⟩
theorem pe3_or (ha : PE X a (LE X.K Ex ta)) (hb : PE X (.BoolOp .Or (b :: rest) pos) (LE X.K Ex tb)) : PE X (.BoolOp .Or (a :: b :: rest) pos) (LE X.K Ex (tOrV3 ta tb)) :=
  pe_imp (pe_or ha hb) fun σ H Q ⟨F, S, τ, Q3, R, Ev, h, k⟩ => ⟨F, S, τ, _, R, Ev, h, fun F1 S1 H1 w x s1 R1 r1 ⟨c, e, h1, h2⟩ => by
    subst e
    refine ⟨c, rep_bl r1, ?_⟩
    cases c with
    | true => exact iteT (k F1 S1 H1 _ _ s1 R1 mk_bl (h1 rfl))
    | false => exact iteF ⟨F1, S1, τ, Q3, R1, Ev.mono s1, h2 rfl, k.mono s1⟩⟩
theorem pe3_not (ha : PE X a (LE X.K Ex ta)) : PE X (.UnaryOp .Not a pos) (LE X.K Ex (tNotV3 ta)) :=
  pe_imp (pe_not ha) fun σ H Q ⟨F, S, τ, Q3, R, Ev, h, k⟩ => ⟨F, S, τ, _, R, Ev, h, fun F1 S1 H1 w x s1 R1 r1 ⟨c, e, h1⟩ => by
    subst e
    exact ⟨c, rep_bl r1, k F1 S1 H1 _ _ s1 R1 mk_bl h1⟩⟩
def tIfE3 (t : TT3) (ta tb : TE3) : TE3 := fun τ S Q => t τ S fun b S1 => (b = true → ta τ S1 Q) ∧ (b = false → tb τ S1 Q)
theorem pe3_if {c : Expr} (hc : PT X c (LT X.K Ex t)) (ha : PE X a (LE X.K Ex ta)) (hb : PE X b (LE X.K Ex tb)) : PE X (.IfExp c a b pos) (LE X.K Ex (tIfE3 t ta tb)) :=
  pe_imp (pe_ifExp hc ha hb) fun σ H Q ⟨F, S, τ, Q3, R, Ev, h, k⟩ => ⟨F, S, τ, _, R, Ev, h, fun F1 S1 H1 b s1 R1 ⟨h1, h2⟩ => by
    cases b with
    | true => exact iteT ⟨F1, S1, τ, Q3, R1, Ev.mono s1, h1 rfl, k.mono s1⟩
    | false => exact iteF ⟨F1, S1, τ, Q3, R1, Ev.mono s1, h2 rfl, k.mono s1⟩⟩
end

/-! ### operators on ints, texts, data -/
section
variable {X : Cx} {K : PySem.W.Frag}
def gI3 (C : Int → Int → Prop) (g : Int → Int → W) : R3 := fun w u S Q => ∃ i j, w = .int i ∧ u = .int j ∧ C i j ∧ Q (g i j) S
def gI03 (g : Int → Int → W) : R3 := fun w u S Q => ∃ i j, w = .int i ∧ u = .int j ∧ Q (g i j) S
theorem ol_i {C : Int → Int → Prop} {g : Int → Int → W} {gV : Int → Int → V} (h : ∀ F i j, RepW K F (g i j) (gV i j)) : OpL K (gI3 C g) (rI C gV) := fun F S H w u x y Q3 Q R rw ru ⟨i, j, e1, e2, c, q⟩ k => by
  subst e1 e2
  exact ⟨i, j, rep_int rw, rep_int ru, c, k F S H _ _ (Sm.refl F) R (h F i j) q⟩
theorem ol_i0 {g : Int → Int → W} {gV : Int → Int → V} (h : ∀ F i j, RepW K F (g i j) (gV i j)) : OpL K (gI03 g) (rI0 gV) := fun F S H w u x y Q3 Q R rw ru ⟨i, j, e1, e2, q⟩ k => by
  subst e1 e2
  exact ⟨i, j, rep_int rw, rep_int ru, k F S H _ _ (Sm.refl F) R (h F i j) q⟩
abbrev gAdd : R3 := gI03 fun i j => .int (i + j)
abbrev gSub : R3 := gI03 fun i j => .int (i - j)
abbrev gMul : R3 := gI3 CMul fun i j => .int (i * j)
abbrev gMulW : R3 := gI3 CMulW fun i j => .int (i * j)
abbrev gDiv : R3 := gI3 CDivW fun i j => .int (i / j)
abbrev gMod : R3 := gI3 (fun _ j => 0 < j) fun i j => .int (i % j)
abbrev gPow : R3 := gI3 CPow fun i j => .int (i ^ j.toNat)
abbrev gLt : R3 := gI03 fun i j => .bl (decide (i < j))
abbrev gLe : R3 := gI03 fun i j => .bl (decide (i ≤ j))
abbrev gGt : R3 := gI03 fun i j => .bl (decide (j < i))
abbrev gGe : R3 := gI03 fun i j => .bl (decide (j ≤ i))
theorem l_add : OpL K gAdd (rI0 fun i j => .int (i + j)) := ol_i0 fun _ _ _ => mk_int
theorem l_sub : OpL K gSub (rI0 fun i j => .int (i - j)) := ol_i0 fun _ _ _ => mk_int
theorem l_mul : OpL K gMul (rI CMul fun i j => .int (i * j)) := ol_i fun _ _ _ => mk_int
theorem l_mulW : OpL K gMulW (rI CMulW fun i j => .int (i * j)) := ol_i fun _ _ _ => mk_int
theorem l_div : OpL K gDiv (rI CDivW fun i j => .int (i / j)) := ol_i fun _ _ _ => mk_int
theorem l_mod : OpL K gMod (rI (fun _ j => 0 < j) fun i j => .int (i % j)) := ol_i fun _ _ _ => mk_int
theorem l_pow : OpL K gPow (rI CPow fun i j => .int (i ^ j.toNat)) := ol_i fun _ _ _ => mk_int
theorem l_lt : OpL K gLt (rI0 fun i j => .bl (decide (i < j))) := ol_i0 fun _ _ _ => mk_bl
theorem l_le : OpL K gLe (rI0 fun i j => .bl (decide (i ≤ j))) := ol_i0 fun _ _ _ => mk_bl
theorem l_gt : OpL K gGt (rI0 fun i j => .bl (decide (j < i))) := ol_i0 fun _ _ _ => mk_bl
theorem l_ge : OpL K gGe (rI0 fun i j => .bl (decide (j ≤ i))) := ol_i0 fun _ _ _ => mk_bl
/-- == and != of texts, of data -/
def rEqX (K : PySem.W.Frag) : R2 := fun x y H Q => (∃ a b, x = .str a ∧ y = .str b ∧ Q (.bl (decide (a = b))) H) ∨ rEqD K x y H Q
def rNeX (K : PySem.W.Frag) : R2 := fun x y H Q => (∃ a b, x = .str a ∧ y = .str b ∧ Q (.bl (!decide (a = b))) H) ∨ rNeD K x y H Q
theorem dec_vstr {a b : Str} : decide (V.str a = V.str b) = decide (a = b) := decide_eq_decide.mpr ⟨fun h => by cases h; rfl, fun h => by rw [h]⟩
theorem op_eqX (hu : X.A.units + 64 < cLine) : OpR X (compareOp .Eq) (rEqX X.K) := fun pins s σ H x y v u Q I rx ry h => h.elim (fun ⟨a, b, e1, e2, q⟩ => op_eq pins s σ H x y v u Q I rx ry (by subst e1 e2; exact ⟨rfl, by rw [dec_vstr]; exact q⟩)) (op_eqD hu pins s σ H x y v u Q I rx ry)
theorem op_neX (hu : X.A.units + 64 < cLine) : OpR X (compareOp .NotEq) (rNeX X.K) := fun pins s σ H x y v u Q I rx ry h => h.elim (fun ⟨a, b, e1, e2, q⟩ => op_ne pins s σ H x y v u Q I rx ry (by subst e1 e2; exact ⟨rfl, by rw [dec_vstr]; exact q⟩)) (op_neD hu pins s σ H x y v u Q I rx ry)
def gEq : R3 := fun w u S Q => (∃ a b, w = .str a ∧ u = .str b ∧ Q (.bl (decide (a = b))) S) ∨ ∃ d e, viewW S w = some d ∧ viewW S u = some e ∧ SeqAt.shaped d = true ∧ SeqAt.shaped e = true ∧ Q (.bl (PyData.eqv d e)) S
def gNe : R3 := fun w u S Q => (∃ a b, w = .str a ∧ u = .str b ∧ Q (.bl (!decide (a = b))) S) ∨ ∃ d e, viewW S w = some d ∧ viewW S u = some e ∧ SeqAt.shaped d = true ∧ SeqAt.shaped e = true ∧ Q (.bl (!PyData.eqv d e)) S
theorem l_eq : OpL K gEq (rEqX K) := fun F S H w u x y Q3 Q R rw ru h k => h.imp
  (fun ⟨a, b, e1, e2, q⟩ => by subst e1 e2; exact ⟨a, b, rep_str rw, rep_str ru, k F S H _ _ (Sm.refl F) R mk_bl q⟩)
  fun ⟨d, e, e1, e2, s1, s2, q⟩ => ⟨d, e, view_rep R rw e1, view_rep R ru e2, s1, s2, k F S H _ _ (Sm.refl F) R mk_bl q⟩
theorem l_ne : OpL K gNe (rNeX K) := fun F S H w u x y Q3 Q R rw ru h k => h.imp
  (fun ⟨a, b, e1, e2, q⟩ => by subst e1 e2; exact ⟨a, b, rep_str rw, rep_str ru, k F S H _ _ (Sm.refl F) R mk_bl q⟩)
  fun ⟨d, e, e1, e2, s1, s2, q⟩ => ⟨d, e, view_rep R rw e1, view_rep R ru e2, s1, s2, k F S H _ _ (Sm.refl F) R mk_bl q⟩
/-- texts -/
def gAddS : R3 := fun w u S Q => ∃ i j, w = .str i ∧ u = .str j ∧ i.length + j.length ≤ sizeLine ∧ Q (.str (i ++ j)) S
theorem l_addS : OpL K gAddS (fun x y H Q => ∃ i j, x = .str i ∧ y = .str j ∧ i.length + j.length ≤ sizeLine ∧ Q (.str (i ++ j)) H) := fun F S H w u x y Q3 Q R rw ru ⟨i, j, e1, e2, c, q⟩ k => by
  subst e1 e2
  exact ⟨i, j, rep_str rw, rep_str ru, c, k F S H _ _ (Sm.refl F) R mk_str q⟩
/-- None -/
def nonW : W → Bool
  | .d .none => true
  | _ => false
def gIsN : R3 := fun w u S Q => u = .non ∧ Q (.bl (nonW w)) S
def gNotN : R3 := fun w u S Q => u = .non ∧ Q (.bl (!nonW w)) S
theorem rep_nonW {F : Fz} {v : V} {w : W} (h : RepW K F w v) : decide (v = .non) = nonW w := by
  cases w with
  | d x => cases (show Dp K F.f v x from h) <;> rfl
  | r a => cases (show v = .ref a from h); rfl
  | ty n => cases (show v = .ty n from h); rfl
theorem l_isN : OpL K gIsN (fun x y H Q => y = .non ∧ Q (.bl (decide (x = .non))) H) := fun F S H w u x y Q3 Q R rw ru ⟨e2, q⟩ k => by
  subst e2
  refine ⟨rep_non ru, ?_⟩
  rw [rep_nonW rw]
  exact k F S H _ _ (Sm.refl F) R mk_bl q
theorem l_notN : OpL K gNotN (fun x y H Q => y = .non ∧ Q (.bl (!decide (x = .non))) H) := fun F S H w u x y Q3 Q R rw ru ⟨e2, q⟩ k => by
  subst e2
  refine ⟨rep_non ru, ?_⟩
  rw [rep_nonW rw]
  exact k F S H _ _ (Sm.refl F) R mk_bl q
end
end H3

namespace H3
open PySem PySem.Spec L2
open PyProof.Rows hiding St

/-! ### built-in functions -/
abbrev RC3 := List W → Sto → K3 → Prop
def CallL (K : PySem.W.Frag) (r3 : RC3) (r : List V → Hp → VK → Prop) : Prop := ∀ F S H ws vs Q3 Q, Rel K F S H → RepWs K F ws vs → r3 ws S Q3 → KE K F Q3 Q → r vs H Q
def tCB3 (r : RC3) (t : TA3) : TE3 := fun τ S Q => t τ S fun ws S1 => r ws S1 Q
theorem le_cb {K : PySem.W.Frag} {Ex : WX} {r3 : RC3} {r : List V → Hp → VK → Prop} {t : TA3} (l : CallL K r3 r) : ∀ σ H Q, LE K Ex (tCB3 r3 t) σ H Q → tCB r (LA K Ex t) σ H Q := fun σ H Q ⟨F, S, τ, Q3, R, Ev, h, k⟩ =>
  ⟨F, S, τ, _, R, Ev, h, fun F1 S1 H1 ws vs s1 R1 r1 h1 => l F1 S1 H1 ws vs Q3 Q R1 r1 h1 (k.mono s1)⟩
section
variable {X : Cx} {Ex : WX} {x : Str} {p pos : Pos} {e : Expr} {es : List Expr} {t : TA3} {id T : String} {r3 : RC3} {r : List V → Hp → VK → Prop}
theorem pe3_B (hc : CallR X (.builtin id) r) (l : CallL X.K r3 r) (hg : Gl X x) (hm : X.mg x = none) (hv : bootBuiltins x = some (.builtin id)) (ha : PA X (e :: es) (LA X.K Ex t)) (hn : x ≠ "__name__" := by decide) (hdb : (x == ("__debug__" : Str)) = false := by decide)
    (he : starEach (e :: es) X.env = (false, eval e X.env) :: starEach es X.env := by rfl) (hpl : (backTo pos (starEach es X.env)).any (·.1) = false := by rfl) : PE X (.Call (.Name x p) (e :: es) [] pos) (LE X.K Ex (tCB3 r3 t)) := pe_imp (pe_callB hc hg hm hv ha hn hdb he hpl) (le_cb l)
theorem pe3_Ty (hc : CallR X (.type T) r) (l : CallL X.K r3 r) (hg : Gl X x) (hm : X.mg x = none) (hv : bootBuiltins x = some (.type T)) (ha : PA X (e :: es) (LA X.K Ex t)) (hn : x ≠ "__name__" := by decide) (hdb : (x == ("__debug__" : Str)) = false := by decide)
    (he : starEach (e :: es) X.env = (false, eval e X.env) :: starEach es X.env := by rfl) (hpl : (backTo pos (starEach es X.env)).any (·.1) = false := by rfl) : PE X (.Call (.Name x p) (e :: es) [] pos) (LE X.K Ex (tCB3 r3 t)) := pe_imp (pe_callTy hc hg hm hv ha hn hdb he hpl) (le_cb l)
end
section
variable {X : Cx} {K : PySem.W.Frag}
theorem ws1 {F : Fz} {w : W} {vs : List V} (r : RepWs K F [w] vs) : ∃ v, vs = [v] ∧ RepW K F w v := by
  cases r with
  | cons a t => cases t; exact ⟨_, rfl, a⟩
theorem ws2 {F : Fz} {w u : W} {vs : List V} (r : RepWs K F [w, u] vs) : ∃ v y, vs = [v, y] ∧ RepW K F w v ∧ RepW K F u y := by
  cases r with
  | cons a t =>
    cases t with
    | cons b t => cases t; exact ⟨_, _, rfl, a, b⟩
/-- abs, int, max, min -/
def gAbs : RC3 := fun ws S Q => ∃ i, ws = [.int i] ∧ Q (.int (if i < 0 then -i else i)) S
theorem l_abs : CallL K gAbs (fun xs H Q => ∃ i, xs = [.int i] ∧ Q (.int (if i < 0 then -i else i)) H) := fun F S H ws vs Q3 Q R r ⟨i, e, q⟩ k => by
  subst e
  obtain ⟨v, rfl, rv⟩ := ws1 r
  exact ⟨i, by rw [rep_int rv], k F S H _ _ (Sm.refl F) R mk_int q⟩
def gInt : RC3 := fun ws S Q => ∃ i, ws = [.int i] ∧ Q (.int i) S
theorem l_int : CallL K gInt (fun xs H Q => (∃ i, xs = [.int i] ∧ Q (.int i) H) ∨ ∃ k, xs = [.bl k] ∧ Q (.int (if k then 1 else 0)) H) := fun F S H ws vs Q3 Q R r ⟨i, e, q⟩ k => by
  subst e
  obtain ⟨v, rfl, rv⟩ := ws1 r
  exact .inl ⟨i, by rw [rep_int rv], k F S H _ _ (Sm.refl F) R mk_int q⟩
def gMax2 : RC3 := fun ws S Q => ∃ i j, ws = [.int i, .int j] ∧ Q (.int (if j > i then j else i)) S
theorem l_max2 : CallL K gMax2 (fun xs H Q => ∃ i j, xs = [.int i, .int j] ∧ Q (.int (if j > i then j else i)) H) := fun F S H ws vs Q3 Q R r ⟨i, j, e, q⟩ k => by
  subst e
  obtain ⟨v, y, rfl, rv, ry⟩ := ws2 r
  exact ⟨i, j, by rw [rep_int rv, rep_int ry], k F S H _ _ (Sm.refl F) R mk_int q⟩
def gMin2 : RC3 := fun ws S Q => ∃ i j, ws = [.int i, .int j] ∧ Q (.int (if j < i then j else i)) S
theorem l_min2 : CallL K gMin2 (fun xs H Q => ∃ i j, xs = [.int i, .int j] ∧ Q (.int (if j < i then j else i)) H) := fun F S H ws vs Q3 Q R r ⟨i, j, e, q⟩ k => by
  subst e
  obtain ⟨v, y, rfl, rv, ry⟩ := ws2 r
  exact ⟨i, j, by rw [rep_int rv, rep_int ry], k F S H _ _ (Sm.refl F) R mk_int q⟩
/-- len -/
def lenW (S : Sto) : W → Option Nat
  | .d (.str z) => if z.length ≤ sizeLine then some z.length else none
  | w => (seqW S w).map List.length
def gLen : RC3 := fun ws S Q => ∃ w n, ws = [w] ∧ lenW S w = some n ∧ Q (.int n) S
theorem call_len3 : CallR X (.builtin "len") (fun xs H Q => (∃ p ys, xs = [.ref p] ∧ (SqL X.K H p ys ∨ SqT X.K H p ys) ∧ Q (.int ys.length) H) ∨ ∃ z, xs = [.str z] ∧ z.length ≤ sizeLine ∧ Q (.int z.length) H) := CallR.or call_len_seq call_len_str
theorem l_len : CallL K gLen (fun xs H Q => (∃ p ys, xs = [.ref p] ∧ (SqL K H p ys ∨ SqT K H p ys) ∧ Q (.int ys.length) H) ∨ ∃ z, xs = [.str z] ∧ z.length ≤ sizeLine ∧ Q (.int z.length) H) := fun F S H ws vs Q3 Q R r ⟨w, n, e, hn, q⟩ k => by
  subst e
  obtain ⟨v, rfl, rv⟩ := ws1 r
  have fin : ∀ xs, seqW S w = some xs → xs.length = n → ∃ p ys, ([v] : List V) = [.ref p] ∧ (SqL K H p ys ∨ SqT K H p ys) ∧ Q (.int ys.length) H := fun xs hx hl => by
    obtain ⟨a, us, rfl, hs, ru⟩ := seq_rep R rv hx
    have e := Paired.length ru
    exact ⟨a, us, rfl, hs, by rw [← e, hl]; exact k F S H _ _ (Sm.refl F) R mk_int q⟩
  have gen : (seqW S w).map List.length = some n → _ := fun h => by
    cases e : seqW S w with
    | none => rw [e] at h; exact nomatch h
    | some xs => rw [e] at h; exact fin xs e (Option.some.inj h)
  cases w with
  | d x =>
    cases x with
    | str z =>
      have hn' : (if z.length ≤ sizeLine then some z.length else none) = some n := hn
      by_cases hz : z.length ≤ sizeLine
      · rw [if_pos hz] at hn'
        cases hn'
        exact .inr ⟨z, by rw [rep_str rv], hz, k F S H _ _ (Sm.refl F) R mk_int q⟩
      · rw [if_neg hz] at hn'; cases hn'
    | none => exact .inl (gen hn)
    | bool b => exact .inl (gen hn)
    | int i => exact .inl (gen hn)
    | list l => exact .inl (gen hn)
    | tuple l => exact .inl (gen hn)
    | dict l => exact .inl (gen hn)
  | r a => exact .inl (gen hn)
  | ty m => exact .inl (gen hn)
/-- the items as data -/
def itemsW (S : Sto) (w : W) : Option (List PyData) := match viewW S w with
  | some (.list ds) => some ds
  | some (.tuple ds) => some ds
  | _ => none
theorem list_rep {F : Fz} {S : Sto} {H : Hp} {w : W} {v : V} {ds : List PyData} (R : Rel K F S H) (r : RepW K F w v) (h : viewW S w = some (.list ds)) : ∃ a vs, v = .ref a ∧ SqL K H a vs ∧ DpAll K F.f vs ds ∧ seqW S w = some (ds.map W.d) := by
  cases w with
  | d y =>
    cases h
    cases (show Dp K F.f v (.list ds) from r) with
    | lst h1 h2 => exact ⟨_, _, rfl, R.same.seq h1, h2, rfl⟩
  | r a =>
    have h' : (match S a with | some (.lst ws) => (ws.mapM fun | W.d x => some x | _ => none).map PyData.list | _ => none) = some (.list ds) := h
    cases e : S a with
    | none => rw [e] at h'; exact nomatch h'
    | some p =>
      rw [e] at h'
      cases p with
      | ins C fs => cases h'
      | tb q => cases h'
      | dk q => cases h'
      | dt a q => cases h'
      | tp q => cases h'
      | lst us =>
        have h2 : (us.mapM fun | W.d x => some x | _ => none).map PyData.list = some (.list ds) := h'
        cases e2 : (us.mapM fun | W.d x => some x | _ => none) with
        | none => rw [e2] at h2; exact nomatch h2
        | some es =>
          rw [e2] at h2
          cases h2
          have e3 := mapM_d e2
          subst e3
          obtain ⟨_, o, ho, vs, rfl, rv⟩ := R.st a _ e
          refine ⟨a, vs, r, .inl (.inl ho), all_of_repWs rv, ?_⟩
          show (match S a with | some (.lst ws) => some ws | _ => none) = _
          rw [e]
  | ty n => cases h
theorem tup_rep {F : Fz} {S : Sto} {H : Hp} {w : W} {v : V} {ds : List PyData} (R : Rel K F S H) (r : RepW K F w v) (h : viewW S w = some (.tuple ds)) : w = .tup ds ∧ ∃ a vs, v = .ref a ∧ SqT K H a vs ∧ DpAll K F.f vs ds := by
  cases w with
  | d y =>
    cases h
    cases (show Dp K F.f v (.tuple ds) from r) with
    | tup h1 h2 => exact ⟨rfl, _, _, rfl, sqt_mono R.same h1.sqt, h2⟩
  | r a =>
    exfalso
    have h' : (match S a with | some (.lst ws) => (ws.mapM fun | W.d x => some x | _ => none).map PyData.list | _ => none) = some (.tuple ds) := h
    cases e : S a with
    | none => rw [e] at h'; exact nomatch h'
    | some p =>
      rw [e] at h'
      cases p with
      | ins C fs => cases h'
      | tb q => cases h'
      | dk q => cases h'
      | dt a q => cases h'
      | tp q => cases h'
      | lst us =>
        have h2 : (us.mapM fun | W.d x => some x | _ => none).map PyData.list = some (.tuple ds) := h'
        cases e2 : (us.mapM fun | W.d x => some x | _ => none) with
        | none => rw [e2] at h2; exact nomatch h2
        | some es => rw [e2] at h2; cases h2
  | ty n => cases h
theorem items_rep {F : Fz} {S : Sto} {H : Hp} {w : W} {v : V} {ds : List PyData} (R : Rel K F S H) (r : RepW K F w v) (h : itemsW S w = some ds) : ∃ a vs, v = .ref a ∧ ((SqL K H a vs) ∨ (SqT K H a vs ∧ RepW K F (.d (.tuple ds)) v)) ∧ DpAll K F.f vs ds ∧ seqW S w = some (ds.map W.d) := by
  unfold itemsW at h
  cases e : viewW S w with
  | none => rw [e] at h; exact nomatch h
  | some x =>
    rw [e] at h
    cases x with
    | list l =>
      cases h
      obtain ⟨a, vs, h1, h2, h3, h4⟩ := list_rep R r e
      exact ⟨a, vs, h1, .inl h2, h3, h4⟩
    | tuple l =>
      cases h
      obtain ⟨rfl, a, vs, h1, h2, h3⟩ := tup_rep R r e
      exact ⟨a, vs, h1, .inr ⟨h2, r⟩, h3, rfl⟩
    | none => cases h
    | bool => cases h
    | int => cases h
    | str => cases h
    | dict => cases h
/-- tuple(x): x a list or a tuple of data -/
def gTuple : RC3 := fun ws S Q => ∃ w ds, ws = [w] ∧ itemsW S w = some ds ∧ Q (.tup ds) S
theorem newTup {F : Fz} {S : Sto} {H : Hp} {p : Addr} {vs : List V} {ds : List PyData} {o : Obj} (R : Rel K F S H) (h : H p = none) (no : NoD o) (ha : DpAll K F.f vs ds) : Sm F (F.new p (.frz o (.tup vs))) ∧ Rel K (F.new p (.frz o (.tup vs))) S (upd H p (.frz o (.tup vs))) ∧ RepW K (F.new p (.frz o (.tup vs))) (.tup ds) (.ref p) :=
  have s := sm_new (p := p) (o := HO.frz o (.tup vs)) (R.freeF h)
  ⟨s, R.newF h, Dp.tup (.inl ⟨o, show upd F.f p (HO.frz o (.tup vs)) p = _ from upd_same, no⟩) (dpAll_mono s.f ha)⟩
theorem newLst {F : Fz} {S : Sto} {H : Hp} {p : Addr} {vs : List V} {ds : List PyData} (R : Rel K F S H) (h : H p = none) (ha : DpAll K F.f vs ds) : Sm F (F.new p (.lst vs)) ∧ Rel K (F.new p (.lst vs)) S (upd H p (.lst vs)) ∧ RepW K (F.new p (.lst vs)) (.lst ds) (.ref p) :=
  have s := sm_new (p := p) (o := HO.lst vs) (R.freeF h)
  ⟨s, R.newF h, Dp.lst (.inl (.inl (show upd F.f p (HO.lst vs) p = _ from upd_same))) (dpAll_mono s.f ha)⟩
theorem newMut {F : Fz} {S : Sto} {H : Hp} {p : Addr} {vs : List V} {ws : List W} (R : Rel K F S H) (h : H p = none) (ha : RepWs K F ws vs) : Rel K F (put S p (.lst ws)) (upd H p (.lst vs)) := R.newS h ⟨vs, rfl, ha⟩
theorem l_tuple : CallL K gTuple (fun xs H Q => ∃ p ys, xs = [.ref p] ∧ ((SqL K H p ys ∧ NewT Q ys H) ∨ (SqT K H p ys ∧ Q (.ref p) H))) := fun F S H ws vs Q3 Q R r ⟨w, ds, e, hd, q⟩ k => by
  subst e
  obtain ⟨v, rfl, rv⟩ := ws1 r
  obtain ⟨a, us, rfl, hs, ha, _⟩ := items_rep R rv hd
  rcases hs with hs | ⟨hs, rt⟩
  · refine ⟨a, us, rfl, .inl ⟨hs, fun l o hl no => ?_⟩⟩
    obtain ⟨s, R', rw'⟩ := newTup R hl no ha
    exact k _ S _ _ _ s R' rw' q
  · exact ⟨a, us, rfl, .inr ⟨hs, k F S H _ _ (Sm.refl F) R rt q⟩⟩
/-- list(x), to stay; list(x), to be changed -/
def gListD : RC3 := fun ws S Q => ∃ w ds, ws = [w] ∧ itemsW S w = some ds ∧ Q (.lst ds) S
def gListM : RC3 := fun ws S Q => ∃ w us, ws = [w] ∧ seqW S w = some us ∧ ∀ p, S p = none → Q (.r p) (put S p (.lst us))
theorem l_listD : CallL K gListD (fun xs H Q => ∃ p ys, xs = [.ref p] ∧ (SqL K H p ys ∨ SqT K H p ys) ∧ ∀ l, H l = none → Q (.ref l) (upd H l (.lst ys))) := fun F S H ws vs Q3 Q R r ⟨w, ds, e, hd, q⟩ k => by
  subst e
  obtain ⟨v, rfl, rv⟩ := ws1 r
  obtain ⟨a, us, rfl, hs, ha, _⟩ := items_rep R rv hd
  refine ⟨a, us, rfl, hs.imp id And.left, fun l hl => ?_⟩
  obtain ⟨s, R', rw'⟩ := newLst R hl ha
  exact k _ S _ _ _ s R' rw' q
theorem l_listM : CallL K gListM (fun xs H Q => ∃ p ys, xs = [.ref p] ∧ (SqL K H p ys ∨ SqT K H p ys) ∧ ∀ l, H l = none → Q (.ref l) (upd H l (.lst ys))) := fun F S H ws vs Q3 Q R r ⟨w, us, e, hd, q⟩ k => by
  subst e
  obtain ⟨v, rfl, rv⟩ := ws1 r
  obtain ⟨a, vs, rfl, hs, ha⟩ := seq_rep R rv hd
  exact ⟨a, vs, rfl, hs, fun l hl => k F _ _ (.r l) _ (Sm.refl F) (newMut R hl ha) (show V.ref l = V.ref l from rfl) (q l (R.freeS hl))⟩
/-- all, any of a list of truth values -/
theorem bools_of {F : Fz} : ∀ {bs : List Bool} {vs : List V}, DpAll K F.f vs (bs.map PyData.bool) → vs = bs.map V.bl
  | [], _, h => by cases h; rfl
  | b :: bs, _, h => by
    cases h with
    | cons a t => cases a; rw [bools_of t]; rfl
theorem ints_of {F : Fz} : ∀ {ns : List Int} {vs : List V}, DpAll K F.f vs (ns.map PyData.int) → vs = ns.map V.int
  | [], _, h => by cases h; rfl
  | b :: bs, _, h => by
    cases h with
    | cons a t => cases a; rw [ints_of t]; rfl
theorem strs_of {F : Fz} : ∀ {ns : List Str} {vs : List V}, DpAll K F.f vs (ns.map PyData.str) → vs = ns.map V.str
  | [], _, h => by cases h; rfl
  | b :: bs, _, h => by
    cases h with
    | cons a t => cases a; rw [strs_of t]; rfl
def gAll : RC3 := fun ws S Q => ∃ bs : List Bool, ws = [.lst (bs.map PyData.bool)] ∧ Q (.bl (bs.all id)) S
theorem l_all : CallL K gAll (rAll K) := fun F S H ws vs Q3 Q R r ⟨bs, e, q⟩ k => by
  subst e
  obtain ⟨v, rfl, rv⟩ := ws1 r
  cases (show Dp K F.f v (.list (bs.map PyData.bool)) from rv) with
  | lst hs ha =>
    have e := bools_of ha
    subst e
    exact ⟨_, bs, rfl, R.same.seq hs, k F S H _ _ (Sm.refl F) R mk_bl q⟩
def gAny : RC3 := fun ws S Q => ∃ bs : List Bool, ws = [.lst (bs.map PyData.bool)] ∧ Q (.bl (bs.any id)) S
theorem l_any : CallL K gAny (rAny K) := fun F S H ws vs Q3 Q R r ⟨bs, e, q⟩ k => by
  subst e
  obtain ⟨v, rfl, rv⟩ := ws1 r
  cases (show Dp K F.f v (.list (bs.map PyData.bool)) from rv) with
  | lst hs ha =>
    have e := bools_of ha
    subst e
    exact ⟨_, bs, rfl, R.same.seq hs, k F S H _ _ (Sm.refl F) R mk_bl q⟩
/-- repr of data -/
def gRepr : RC3 := fun ws S Q => ∃ w d, ws = [w] ∧ viewW S w = some d ∧ d.showable = true ∧ d.hasDict = false ∧ d.depth ≤ 64 ∧ d.shown.length ≤ sizeLine ∧ Q (.str d.shown) S
theorem call_repr3 (hg : X.A.guards = some []) (hu : X.A.units + 70 < cLine) : CallR X (.builtin "repr") (fun xs H Q => ∃ x d, xs = [x] ∧ L2.Dp X.K H x d ∧ d.showable = true ∧ d.hasDict = false ∧ d.depth ≤ 64 ∧ d.shown.length ≤ sizeLine ∧ Q (.str d.shown) H) := by
  rintro pins s σ H _ us Q I rr ⟨x, d, rfl, hd, h1, h2, h3, h4, q⟩
  obtain ⟨u, eu, ru⟩ := vals1 rr
  subst eu
  obtain ⟨as, rd⟩ := L2.Dp.reads I d x u hd ru
  have big : ∀ a, u = .ref a → wpAny (model X.prog X.w) X.A (call (.builtin "repr") [u]) (EP X pins σ Q) X.xe s := fun a e => by
    subst e
    refine repr_of_reads' rd h1 (fun z => by rw [h2] at z; cases z) hg (by omega) (fun _ _ e => e) (fun h' t tk kp => ?_) h4
    exact ⟨.str d.shown, H, I.kept (t' := tk) kp, ⟨_, rfl⟩, q⟩
  cases hd with
  | non => cases ru; exact PySem.P.repr_of_none ⟨.str _, H, I.tok _, ⟨_, rfl⟩, q⟩
  | bl b => cases ru; exact PySem.P.repr_of_bool ⟨.str _, H, I.tok _, ⟨_, rfl⟩, q⟩
  | int i =>
    obtain ⟨t, rfl⟩ := ru
    exact PySem.P.repr_of_int (of_decide_eq_true h1) ⟨.str _, H, I.tok _, ⟨_, rfl⟩, q⟩
  | str z =>
    obtain ⟨t, rfl⟩ := ru
    exact PySem.P.repr_of_str ⟨.str _, H, I.tok _, ⟨_, rfl⟩, q⟩ h4
  | lst hs ha => cases ru; exact big _ rfl
  | tup hs ha => cases ru; exact big _ rfl
theorem l_repr : CallL K gRepr (fun xs H Q => ∃ x d, xs = [x] ∧ L2.Dp K H x d ∧ d.showable = true ∧ d.hasDict = false ∧ d.depth ≤ 64 ∧ d.shown.length ≤ sizeLine ∧ Q (.str d.shown) H) := fun F S H ws vs Q3 Q R r ⟨w, d, e, hd, h1, h2, h3, h4, q⟩ k => by
  subst e
  obtain ⟨v, rfl, rv⟩ := ws1 r
  exact ⟨v, d, rfl, view_rep R rv hd, h1, h2, h3, h4, k F S H _ _ (Sm.refl F) R mk_str q⟩
/-- isinstance of data and a built-in class -/
def tyD : PyData → String
  | .none => "NoneType"
  | .bool _ => "bool"
  | .int _ => "int"
  | .str _ => "str"
  | .list _ => "list"
  | .tuple _ => "tuple"
  | .dict _ => "dict"
def tyIs (t u : String) : Bool := t == u || (t == "bool" && u == "int")
theorem dp_ty {H : Hp} {x : V} {d : PyData} (h : L2.Dp K H x d) : TyX K H x (.type (tyD d)) := by
  cases h with
  | non => exact .base .non
  | bl b => exact .base (.bl b)
  | int i => exact .base (.int i)
  | str z => exact .base (.str z)
  | lst hs ha =>
    rcases hs with (h | ⟨o, h⟩) | ⟨o, its, n, h, c, _⟩
    · exact .base (.lst h)
    · exact .base (.frz h)
    · exact .kList h c
  | tup hs ha =>
    rcases hs with (h | ⟨o, h⟩) | ⟨o, its, n, h, c, _⟩
    · exact .base (.tup h)
    · exact .fTuple h
    · exact .kTuple h c
def isiB (d : PyData) (n : String) : Option Bool := kitB (tyD d) n
def gIsi : RC3 := fun ws S Q => ∃ w d n b, ws = [w, .ty n] ∧ viewW S w = some d ∧ isiB d n = some b ∧ Q (.bl b) S
theorem l_isi : CallL K gIsi (rIsi K) := fun F S H ws vs Q3 Q R r ⟨w, d, n, b, e, hd, hb, q⟩ k => by
  subst e
  obtain ⟨v, y, rfl, rv, ry⟩ := ws2 r
  cases (show y = .ty n from ry)
  exact ⟨v, .ty n, _, _, b, rfl, .ty n, dp_ty (view_rep R rv hd), kit_ty hb, k F S H _ _ (Sm.refl F) R mk_bl q⟩
end
end H3

namespace H3
open PySem PySem.Spec L2
open PyProof.Rows hiding St

/-! ### tuples and lists that are written -/
def tTup3 (t : TA3) : TE3 := fun τ S Q => t τ S fun ws S1 => ∃ ds : List PyData, ws = ds.map W.d ∧ ds.length ≤ 1000 ∧ Q (.tup ds) S1
def tLstD3 (t : TA3) : TE3 := fun τ S Q => t τ S fun ws S1 => ∃ ds : List PyData, ws = ds.map W.d ∧ ds.length ≤ 1000 ∧ Q (.lst ds) S1
def tLstM3 (t : TA3) : TE3 := fun τ S Q => t τ S fun ws S1 => ws.length ≤ 1000 ∧ ∀ p, S1 p = none → Q (.r p) (put S1 p (.lst ws))
theorem le1000 {n : Nat} (h : n ≤ 1000) : n ≤ sizeLine := Nat.le_trans h (by decide)
section
variable {X : Cx} {Ex : WX} {es : List Expr} {t : TA3} {pos : Pos}
theorem pe3_tup {x1} (h : PA X es (LA X.K Ex t)) : PE X (.Tuple es x1 pos) (LE X.K Ex (tTup3 t)) :=
  pe_imp (pe_tupN h) fun σ H Q ⟨F, S, τ, Q3, R, Ev, h, k⟩ => ⟨F, S, τ, _, R, Ev, h, fun F1 S1 H1 ws vs s1 R1 r1 ⟨ds, e, hl, q⟩ => by
    subst e
    have ra := all_of_repWs r1
    have hv : vs.length = ds.length := by have z := Paired.length r1; rw [List.length_map] at z; exact z.symm
    refine ⟨by rw [hv]; exact le1000 hl, fun p o hp no => ?_⟩
    obtain ⟨s, R', rw'⟩ := newTup R1 hp no ra
    exact k _ _ _ _ _ (s1.trans s) R' rw' q⟩
theorem le_lstD {K : PySem.W.Frag} : ∀ σ H Q, LE K Ex (tLstD3 t) σ H Q → tLst (LA K Ex t) σ H Q := fun σ H Q ⟨F, S, τ, Q3, R, Ev, h, k⟩ => ⟨F, S, τ, _, R, Ev, h, fun F1 S1 H1 ws vs s1 R1 r1 ⟨ds, e, hl, q⟩ => by
    subst e
    have ra := all_of_repWs r1
    have hv : vs.length = ds.length := by have z := Paired.length r1; rw [List.length_map] at z; exact z.symm
    refine ⟨by rw [hv]; exact le1000 hl, fun p hp => ?_⟩
    obtain ⟨s, R', rw'⟩ := newLst R1 hp ra
    exact k _ _ _ _ _ (s1.trans s) R' rw' q⟩
theorem pe3_lstD (h : PA X es (LA X.K Ex t)) : PE X (.List es pos) (LE X.K Ex (tLstD3 t)) := pe_imp (pe_lst h) le_lstD
theorem pe3_lstM (h : PA X es (LA X.K Ex t)) : PE X (.List es pos) (LE X.K Ex (tLstM3 t)) :=
  pe_imp (pe_lst h) fun σ H Q ⟨F, S, τ, Q3, R, Ev, h, k⟩ => ⟨F, S, τ, _, R, Ev, h, fun F1 S1 H1 ws vs s1 R1 r1 ⟨hl, q⟩ => by
    refine ⟨by rw [← Paired.length r1]; exact le1000 hl, fun p hp => ?_⟩
    exact k _ _ _ (.r p) _ s1 (newMut R1 hp r1) (show V.ref p = V.ref p from rfl) (q p (R1.freeS hp))⟩
end

/-! ### subscripts -/
theorem rep_get {K : PySem.W.Frag} {F : Fz} : ∀ {ws : List W} {vs : List V} {i : Nat} {w : W}, RepWs K F ws vs → ws[i]? = some w → ∃ v, vs[i]? = some v ∧ RepW K F w v
  | _, _, i, _, .nil, h => by simp at h
  | _, _, 0, _, .cons r _, h => by cases h; exact ⟨_, rfl, r⟩
  | _, _, i + 1, _, .cons _ t, h => rep_get (i := i) t h
theorem rep_at {K : PySem.W.Frag} {F : Fz} {ws : List W} {vs : List V} {i : Int} {w : W} (r : RepWs K F ws vs) (h : atI ws i = some w) : ∃ v, atI vs i = some v ∧ RepW K F w v := by
  unfold atI at h ⊢
  rw [← Paired.length r]
  cases e : ixN ws.length i with
  | none => rw [e] at h; exact nomatch h
  | some j => rw [e] at h; exact rep_get r h
/-- x[i] -/
def ixW (S : Sto) (i : Int) : W → Option W
  | .d (.str z) => if z.length ≤ sizeLine then (atI z.cps.toList i).map fun c => .str ⟨#[c]⟩ else none
  | w => (seqW S w).bind fun ws => atI ws i
def gIx : R3 := fun w u S Q => ∃ i x, u = .int i ∧ ixW S i w = some x ∧ Q x S
section
variable {X : Cx} {Ex : WX} {a b : Expr} {ta tb : TE3} {pos : Pos}
theorem l_ix {K : PySem.W.Frag} : OpL K gIx (rIx K) := fun F S H w u x y Q3 Q R rw ru ⟨i, z, e, hz, q⟩ k => by
  subst e
  have ey := rep_int ru
  have gen : (seqW S w).bind (fun ws => atI ws i) = some z → rIx K x y H Q := fun h => by
    cases e : seqW S w with
    | none => rw [e] at h; exact nomatch h
    | some ws =>
      rw [e] at h
      obtain ⟨p, vs, rfl, hs, rv⟩ := seq_rep R rw e
      obtain ⟨v, hv, r1⟩ := rep_at rv h
      have fin := k F S H _ _ (Sm.refl F) R r1 q
      rcases hs with hs | hs
      · exact .inl ⟨p, vs, i, v, rfl, ey, hs, hv, fin⟩
      · exact .inr (.inl ⟨p, vs, i, v, rfl, ey, hs, hv, fin⟩)
  cases w with
  | d x' =>
    cases x' with
    | str s =>
      have hz' : (if s.length ≤ sizeLine then (atI s.cps.toList i).map fun c => W.str ⟨#[c]⟩ else none) = some z := hz
      by_cases hl : s.length ≤ sizeLine
      · rw [if_pos hl] at hz'
        cases e : atI s.cps.toList i with
        | none => rw [e] at hz'; cases hz'
        | some c =>
          rw [e] at hz'
          cases hz'
          exact .inr (.inr ⟨s, i, c, rep_str rw, ey, hl, e, k F S H _ _ (Sm.refl F) R mk_str q⟩)
      · rw [if_neg hl] at hz'; cases hz'
    | none => exact gen hz
    | bool b => exact gen hz
    | int j => exact gen hz
    | list l => exact gen hz
    | tuple l => exact gen hz
    | dict l => exact gen hz
  | r p => exact gen hz
  | ty n => exact gen hz
theorem pe3_ix (ha : PE X a (LE X.K Ex ta)) (hb : PE X b (LE X.K Ex tb)) (hs : PlainIx b := by intro _ _; rfl) : PE X (.Subscript a b pos) (LE X.K Ex (tOp3 gIx ta tb)) := pe_imp (pe_ix ix_seq ha hb hs) (le_op l_ix)
end

/-! ### slices -/
abbrev TO3 := S3 → Sto → (Option Int → Sto → Prop) → Prop
def LO (K : PySem.W.Frag) (E : WX) (t : TO3) : TO := fun σ H Q => ∃ F S τ Q3, Rel K F S H ∧ EnvR K F E τ σ ∧ t τ S Q3 ∧ ∀ F' S' H' o, Sm F F' → Rel K F' S' H' → Q3 o S' → Q o H'
def tNoP3 : TO3 := fun _ S Q => Q none S
def tPart3 (t : TE3) : TO3 := fun τ S Q => t τ S fun w S1 => ∃ i, w = .int i ∧ Q (some i) S1
def tSl3 (r : W → Option Int → Option Int → Sto → K3 → Prop) (te : TE3) (tl th : TO3) : TE3 := fun τ S Q => te τ S fun w S1 => tl τ S1 fun l S2 => th τ S2 fun u S3 => r w l u S3 Q
def cutG {α : Type} (xs : List α) (lo hi : Option Int) : List α := (xs.drop (HT.sIx xs.length 0 lo)).take (HT.sIx xs.length xs.length hi - HT.sIx xs.length 0 lo)
section
variable {X : Cx} {Ex : WX} {e : Expr} {te : TE3} {lo hi : Option Expr} {tl th : TO3} {pos p2 : Pos}
theorem po3_none : PO X none (LO X.K Ex tNoP3) := ⟨fun pins s σ H Q I ⟨F, S, τ, Q3, R, Ev, h, k⟩ => po_none.run pins s σ H Q I (k F S H _ (Sm.refl F) R h)⟩
theorem po3_some (h : PE X e (LE X.K Ex te)) : PO X (some e) (LO X.K Ex (tPart3 te)) := ⟨fun pins s σ H Q I ⟨F, S, τ, Q3, R, Ev, hh, k⟩ => (po_some h).run pins s σ H Q I ⟨F, S, τ, _, R, Ev, hh, fun F1 S1 H1 w v s1 R1 r1 ⟨i, e, q⟩ => by
  subst e
  exact ⟨i, rep_int r1, k F1 S1 H1 _ s1 R1 q⟩⟩⟩
def SlL (K : PySem.W.Frag) (r3 : W → Option Int → Option Int → Sto → K3 → Prop) (r : V → Option Int → Option Int → Hp → VK → Prop) : Prop := ∀ F S H w x lo hi Q3 Q, Rel K F S H → RepW K F w x → r3 w lo hi S Q3 → KE K F Q3 Q → r x lo hi H Q
theorem le_sl {K : PySem.W.Frag} {r3 : W → Option Int → Option Int → Sto → K3 → Prop} {r : V → Option Int → Option Int → Hp → VK → Prop} (l : SlL K r3 r) : ∀ σ H Q, LE K Ex (tSl3 r3 te tl th) σ H Q → tSl r (LE K Ex te) (LO K Ex tl) (LO K Ex th) σ H Q := fun σ H Q ⟨F, S, τ, Q3, R, Ev, h, k⟩ =>
  ⟨F, S, τ, _, R, Ev, h, fun F1 S1 H1 w x s1 R1 r1 h1 => ⟨F1, S1, τ, _, R1, Ev.mono s1, h1, fun F2 S2 H2 o s2 R2 h2 => ⟨F2, S2, τ, _, R2, Ev.mono (s1.trans s2), h2, fun F3 S3 H3 u s3 R3 h3 =>
    l F3 S3 H3 w x o u Q3 Q R3 (r1.mono (s2.trans s3)) h3 (k.mono (s1.trans (s2.trans s3)))⟩⟩⟩
theorem dpAll_len {K : PySem.W.Frag} {F : Hp} : ∀ {vs : List V} {ds : List PyData}, DpAll K F vs ds → vs.length = ds.length
  | _, _, .nil => rfl
  | _, _, .cons _ t => congrArg Nat.succ (dpAll_len t)
theorem dpAll_cut {K : PySem.W.Frag} {F : Hp} {vs : List V} {ds : List PyData} (h : DpAll K F vs ds) (lo hi : Option Int) : DpAll K F (cutV vs lo hi) (cutG ds lo hi) := by
  have hl : vs.length = ds.length := dpAll_len h
  have tk : ∀ {n : Nat} {vs : List V} {ds : List PyData}, DpAll K F vs ds → DpAll K F (vs.take n) (ds.take n) := fun {n} => by
    induction n with
    | zero => intro vs ds _; simp; exact .nil
    | succ n ih =>
      intro vs ds h
      cases h with
      | nil => simp; exact .nil
      | cons a t => exact .cons a (ih t)
  have dr : ∀ {n : Nat} {vs : List V} {ds : List PyData}, DpAll K F vs ds → DpAll K F (vs.drop n) (ds.drop n) := fun {n} => by
    induction n with
    | zero => intro vs ds h; exact h
    | succ n ih =>
      intro vs ds h
      cases h with
      | nil => simp; exact .nil
      | cons a t => exact ih t
  unfold cutV cutG
  rw [hl]
  exact tk (dr h)
/-- a list's slice, to stay -/
def gSlL : W → Option Int → Option Int → Sto → K3 → Prop := fun w lo hi S Q => ∃ ds, viewW S w = some (.list ds) ∧ Q (.lst (cutG ds lo hi)) S
theorem l_slL {K : PySem.W.Frag} : SlL K gSlL (rSlL K) := fun F S H w x lo hi Q3 Q R rw ⟨ds, hd, q⟩ k => by
  obtain ⟨a, vs, rfl, hs, ha, _⟩ := list_rep R rw hd
  refine ⟨a, vs, rfl, hs, fun p hp => ?_⟩
  obtain ⟨s, R', rw'⟩ := newLst R hp (dpAll_cut ha lo hi)
  exact k _ _ _ _ _ s R' rw' q
/-- a tuple's slice -/
def gSlT : W → Option Int → Option Int → Sto → K3 → Prop := fun w lo hi S Q => ∃ ds, w = .tup ds ∧ Q (.tup (cutG ds lo hi)) S
theorem cutG_all {α : Type} {xs : List α} {lo hi : Option Int} (h : HT.sIx xs.length 0 lo = 0 ∧ HT.sIx xs.length xs.length hi = xs.length) : cutG xs lo hi = xs := by
  unfold cutG
  rw [h.1, h.2]
  simp
theorem l_slT {K : PySem.W.Frag} : SlL K gSlT (rSlN K) := fun F S H w x lo hi Q3 Q R rw ⟨ds, hd, q⟩ k => by
  subst hd
  obtain ⟨_, a, vs, rfl, hs, ha⟩ := tup_rep R rw rfl
  have hl : vs.length = ds.length := dpAll_len ha
  refine ⟨a, vs, rfl, hs, ?_⟩
  refine ⟨fun hw => ?_, fun _ p o hp no => ?_⟩
  · rw [hl] at hw
    rw [cutG_all hw] at q
    exact k F S H _ _ (Sm.refl F) R rw q
  · obtain ⟨s, R', rw'⟩ := newTup R hp no (dpAll_cut ha lo hi)
    exact k _ _ _ _ _ s R' rw' q
/-- a text's slice -/
def gSlS : W → Option Int → Option Int → Sto → K3 → Prop := fun w lo hi S Q => ∃ z, w = .str z ∧ z.length ≤ sizeLine ∧ Q (.str (cutS z lo hi)) S
/-- xs[::-1] -/
def tRev3 (te : TE3) : TE3 := fun τ S Q => te τ S fun w S1 => ∃ ds, viewW S1 w = some (.list ds) ∧ Q (.lst ds.reverse) S1
theorem dpAll_rev {K : PySem.W.Frag} {F : Hp} {vs : List V} {ds : List PyData} (h : DpAll K F vs ds) : DpAll K F vs.reverse ds.reverse := by
  have ap : ∀ {vs us : List V} {ds es : List PyData}, DpAll K F vs ds → DpAll K F us es → DpAll K F (vs ++ us) (ds ++ es) := fun {vs us ds es} h1 h2 => by
    revert ds
    induction vs with
    | nil => intro ds h1; cases h1; exact h2
    | cons v vs ih => intro ds h1; cases h1 with | cons a t => exact .cons a (ih t)
  revert ds
  induction vs with
  | nil => intro ds h; cases h; exact .nil
  | cons v vs ih =>
    intro ds h
    cases h with
    | cons a t =>
      simp only [List.reverse_cons]
      exact ap (ih t) (.cons a .nil)
theorem pe3_rev {k : Nat} {p1 p2 p3 pos : Pos} (he : PE X e (LE X.K Ex te)) : PE X (.Subscript e (.Slice none none (some (.UnaryOp .USub (.Constant (.int 1) k p1) p2)) p3) pos) (LE X.K Ex (tRev3 te)) :=
  pe_imp (pe_revL he) fun σ H Q ⟨F, S, τ, Q3, R, Ev, h, k⟩ => ⟨F, S, τ, _, R, Ev, h, fun F1 S1 H1 w x s1 R1 r1 ⟨ds, hd, q⟩ => by
    obtain ⟨a, vs, rfl, hs, ha, _⟩ := list_rep R1 r1 hd
    refine ⟨a, vs, rfl, hs, fun p hp => ?_⟩
    obtain ⟨s, R', rw'⟩ := newLst R1 hp (dpAll_rev ha)
    exact k _ _ _ _ _ (s1.trans s) R' rw' q⟩
theorem pe3_slice {r3 : W → Option Int → Option Int → Sto → K3 → Prop} {r : V → Option Int → Option Int → Hp → VK → Prop} (hr : SlR X r) (l : SlL X.K r3 r) (he : PE X e (LE X.K Ex te)) (hl : PO X lo (LO X.K Ex tl)) (hu : PO X hi (LO X.K Ex th)) :
    PE X (.Subscript e (.Slice lo hi none p2) pos) (LE X.K Ex (tSl3 r3 te tl th)) := pe_imp (pe_slice hr he hl hu) (le_sl l)
end

/-! ### methods of lists that are changed -/
abbrev RM3 := W → List W → Sto → K3 → Prop
def MtL (K : PySem.W.Frag) (r3 : RM3) (r : V → List V → Hp → VK → Prop) : Prop := ∀ F S H w ws x vs Q3 Q, Rel K F S H → RepW K F w x → RepWs K F ws vs → r3 w ws S Q3 → KE K F Q3 Q → r x vs H Q
def isLst (S : Sto) (w : W) : Prop := (∃ ds, w = .lst ds) ∨ ∃ a ws, w = .r a ∧ S a = some (.lst ws)
def tBM3 (r : RM3) (to : TE3) (t : TA3) : TE3 := fun τ S Q => to τ S fun w S1 => isLst S1 w ∧ t τ S1 fun ws S2 => r w ws S2 Q
def tBM03 (r : RM3) (to : TE3) : TE3 := fun τ S Q => to τ S fun w S1 => isLst S1 w ∧ r w [] S1 Q
section
variable {X : Cx} {Ex : WX} {o e : Expr} {es : List Expr} {to : TE3} {t : TA3} {name : Str} {apos cpos : Pos} {id : String} {r3 : RM3} {r : V → List V → Hp → VK → Prop}
theorem isLst_ty {K : PySem.W.Frag} {F : Fz} {S : Sto} {H : Hp} {w : W} {v : V} (R : Rel K F S H) (rw : RepW K F w v) (h : isLst S w) : tyV K "list" v H := by
  rcases h with ⟨ds, rfl⟩ | ⟨a, ws, rfl, h⟩
  · cases (show Dp K F.f v (.list ds) from rw) with | lst h3 h4 => exact .inl ⟨rfl, _, R.same.seq h3⟩
  · obtain ⟨_, o, ho, vs, rfl, _⟩ := R.st a _ h
    cases (show v = .ref a from rw)
    exact .inl ⟨rfl, vs, .inl (.inl ho)⟩
theorem pe3_bm (slot : Slot "list" name id) (hty : typeOf (.builtin id) = pure (.type "method_descriptor")) (hm : MtR X id r) (l : MtL X.K r3 r) (ho : PE X o (LE X.K Ex to)) (ha : PA X (e :: es) (LA X.K Ex t))
    (mc : MCall X o name apos cpos e es := by exact ⟨rfl, rfl, rfl, rfl, rfl⟩) :
    PE X (.Call (.Attribute o name apos) (e :: es) [] cpos) (LE X.K Ex (tBM3 r3 to t)) :=
  pe_imp (pe_bm PySem.F.plainAttrs_list slot hty hm ho ha mc.base mc.few mc.sameRow mc.star mc.plain) fun σ H Q ⟨F, S, τ, Q3, R, Ev, h, k⟩ => ⟨F, S, τ, _, R, Ev, h, fun F1 S1 H1 w x s1 R1 r1 ⟨hl, h1⟩ =>
    ⟨isLst_ty R1 r1 hl, F1, S1, τ, _, R1, Ev.mono s1, h1, fun F2 S2 H2 ws vs s2 R2 r2 h2 => l F2 S2 H2 w ws x vs Q3 Q R2 (r1.mono s2) r2 h2 (k.mono (s1.trans s2))⟩⟩
theorem pe3_bm0 (slot : Slot "list" name id) (hty : typeOf (.builtin id) = pure (.type "method_descriptor")) (hm : MtR X id r) (l : MtL X.K r3 r) (ho : PE X o (LE X.K Ex to))
    (hbase : attributeBase o name X.env (eval o X.env) = eval o X.env := by rfl) (hline : (apos.endLine == cpos.line) = true := by rfl) : PE X (.Call (.Attribute o name apos) [] [] cpos) (LE X.K Ex (tBM03 r3 to)) :=
  pe_imp (pe_bm0 PySem.F.plainAttrs_list slot hty hm ho hbase hline) fun σ H Q ⟨F, S, τ, Q3, R, Ev, h, k⟩ => ⟨F, S, τ, _, R, Ev, h, fun F1 S1 H1 w x s1 R1 r1 ⟨hl, h1⟩ =>
    ⟨isLst_ty R1 r1 hl, l F1 S1 H1 w [] x [] Q3 Q R1 r1 .nil h1 (k.mono s1)⟩⟩
end
section
variable {K : PySem.W.Frag}
theorem wr_lst {F : Fz} {S : Sto} {H : Hp} {a : Addr} {ws us : List W} {vs : List V} (R : Rel K F S H) (h : S a = some (.lst ws)) (r : RepWs K F us vs) : Rel K F (put S a (.lst us)) (upd H a (.lst vs)) := R.write h ⟨vs, rfl, r⟩
theorem rd_lst {F : Fz} {S : Sto} {H : Hp} {a : Addr} {ws : List W} (R : Rel K F S H) (h : S a = some (.lst ws)) : ∃ vs, H a = some (.lst vs) ∧ RepWs K F ws vs := by
  obtain ⟨_, o, ho, vs, rfl, r⟩ := R.st a _ h
  exact ⟨vs, ho, r⟩
theorem rep_app {F : Fz} {ws us : List W} {vs xs : List V} (h : RepWs K F ws vs) (g : RepWs K F us xs) : RepWs K F (ws ++ us) (vs ++ xs) := by
  induction h with
  | nil => exact g
  | cons a _ ih => exact .cons a ih
def gAppend : RM3 := fun w us S Q => ∃ a ws x, w = .r a ∧ us = [x] ∧ S a = some (.lst ws) ∧ ws.length < sizeLine ∧ Q .non (put S a (.lst (ws ++ [x])))
theorem l_append : MtL K gAppend rAppend := fun F S H w us x vs Q3 Q R rw ru ⟨a, ws, y, e1, e2, h, hz, q⟩ k => by
  subst e1 e2
  obtain ⟨v, rfl, rv⟩ := ws1 ru
  obtain ⟨xs, hx, rx⟩ := rd_lst R h
  exact ⟨a, xs, v, rw, rfl, hx, by rw [← Paired.length rx]; exact hz, k F _ _ _ _ (Sm.refl F) (wr_lst R h (rep_app rx (.cons rv .nil))) mk_non q⟩
theorem rep_dropLast {F : Fz} {ws : List W} {vs : List V} (h : RepWs K F ws vs) : RepWs K F ws.dropLast vs.dropLast := by
  induction h with
  | nil => exact .nil
  | cons a t ih =>
    cases t with
    | nil => exact .nil
    | cons b s => exact .cons a ih
theorem rep_erase {F : Fz} : ∀ {ws : List W} {vs : List V} {i : Nat}, RepWs K F ws vs → RepWs K F (ws.eraseIdx i) (vs.eraseIdx i)
  | _, _, i, .nil => by simp; exact .nil
  | _, _, 0, .cons a t => t
  | _, _, i + 1, .cons a t => .cons a (rep_erase (i := i) t)
theorem rep_set {F : Fz} {w : W} {v : V} (r : RepW K F w v) : ∀ {ws : List W} {vs : List V} {i : Nat}, RepWs K F ws vs → RepWs K F (ws.set i w) (vs.set i v)
  | _, _, i, .nil => by simp; exact .nil
  | _, _, 0, .cons a t => .cons r t
  | _, _, i + 1, .cons a t => .cons a (rep_set r (i := i) t)
def gPop : RM3 := fun w us S Q => ∃ a ws x, w = .r a ∧ us = [] ∧ S a = some (.lst ws) ∧ ws[ws.length - 1]? = some x ∧ Q x (put S a (.lst ws.dropLast))
theorem l_pop : MtL K gPop rPop := fun F S H w us x vs Q3 Q R rw ru ⟨a, ws, y, e1, e2, h, hy, q⟩ k => by
  subst e1 e2
  cases ru
  obtain ⟨xs, hx, rx⟩ := rd_lst R h
  obtain ⟨v, hv, rv⟩ := rep_get rx hy
  exact ⟨a, xs, v, rw, rfl, hx, by rw [← Paired.length rx]; exact hv, k F _ _ _ _ (Sm.refl F) (wr_lst R h (rep_dropLast rx)) rv q⟩
def gPopAt : RM3 := fun w us S Q => ∃ a ws i x, w = .r a ∧ us = [.int ((i : Nat) : Int)] ∧ S a = some (.lst ws) ∧ ws[i]? = some x ∧ i < 2 ^ 62 ∧ Q x (put S a (.lst (ws.eraseIdx i)))
theorem l_popAt : MtL K gPopAt rPopAt := fun F S H w us x vs Q3 Q R rw ru ⟨a, ws, i, y, e1, e2, h, hy, hi, q⟩ k => by
  subst e1 e2
  obtain ⟨u, rfl, ri⟩ := ws1 ru
  cases rep_int ri
  obtain ⟨xs, hx, rx⟩ := rd_lst R h
  obtain ⟨v, hv, rv⟩ := rep_get rx hy
  have hlt := (List.getElem?_eq_some_iff.mp hv).1
  refine ⟨a, xs, i, i, v, rw, rfl, hx, by omega, by omega, ?_, hv, k F _ _ _ _ (Sm.refl F) (wr_lst R h (rep_erase rx)) rv q⟩
  rw [PySem.seqIndex_of (by omega) (by omega)]
  simp
def gInsert : RM3 := fun w us S Q => ∃ a ws x i, w = .r a ∧ us = [.int ((i : Nat) : Int), x] ∧ S a = some (.lst ws) ∧ i ≤ ws.length ∧ ws.length < sizeLine ∧ Q .non (put S a (.lst (ws.take i ++ x :: ws.drop i)))
/-- xs[i] = v -/
def gSet : W → W → W → Sto → (Sto → Prop) → Prop := fun w u x S Q => ∃ a ws i j, w = .r a ∧ u = .int i ∧ S a = some (.lst ws) ∧ ixN ws.length i = some j ∧ Q (put S a (.lst (ws.set j x)))
end
end H3

namespace H3
open PySem PySem.Spec L2
open PyProof.Rows hiding St

/-! ### statements -/
def tNext3 : TS3 := fun D τ S => D.nx τ S
def tSeq3 (t u : TS3) : TS3 := fun D τ S => t { D with nx := u D } τ S
def tSet3 (i : Nat) (t : TE3) : TS3 := fun D τ S => t τ S fun w S1 => D.nx (τ.set i (some w)) S1
def tDrop3 (t : TE3) : TS3 := fun D τ S => t τ S fun _ S1 => D.nx τ S1
def tRet3 (t : TE3) : TS3 := fun D τ S => t τ S D.rt
def tRetN3 : TS3 := fun D _ S => D.rt .non S
def tIf3 (c : TT3) (t u : TS3) : TS3 := fun D τ S => c τ S fun b S1 => (b = true → t D τ S1) ∧ (b = false → u D τ S1)
def tBreak3 : TS3 := fun D τ S => D.bk τ S
def tCont3 : TS3 := fun D τ S => D.ct τ S
def tNever3 : TS3 := fun _ _ _ => False
/-- nothing is done, but that the list in a slot is not changed any more -/
def tFrz3 (i : Nat) (t : TS3) : TS3 := fun D τ S => ∃ a ds, τ.sl[i]? = some (some (.r a)) ∧ S a = some (.lst (ds.map W.d)) ∧ t D (τ.set i (some (.lst ds))) (drp S a)
section
variable {X : Cx} {Ex : WX} {st : Stmt} {rest : List Stmt} {t u : TS3} {te : TE3} {e : Expr} {pos : Pos}
theorem pss3_nil : PSs X [] (LS X.K Ex tNext3) := pss_imp pss_nil fun D σ H ⟨F, S, τ, D3, R, Ev, h, k⟩ => k.nx F S H τ σ (Sm.refl F) R Ev h
theorem pss3_cons (h1 : PS X st (LS X.K Ex t)) (h2 : PSs X rest (LS X.K Ex u)) : PSs X (st :: rest) (LS X.K Ex (tSeq3 t u)) :=
  pss_imp (pss_cons h1 h2) fun D σ H ⟨F, S, τ, D3, R, Ev, h, k⟩ => ⟨F, S, τ, _, R, Ev, h, fun F1 S1 H1 τ1 σ1 s1 R1 Ev1 h1 => ⟨F1, S1, τ1, D3, R1, Ev1, h1, k.mono s1⟩, k.rt, k.bk, k.ct⟩
theorem pss3_one (h1 : PS X st (LS X.K Ex t)) : PSs X [st] (LS X.K Ex t) := pss_one h1
theorem ps3_set (i : Nat) {x : Str} {pos' : Pos} (hN : X.N.Nodup) (hi : X.N[i]? = some x := by rfl) (he : PE X e (LE X.K Ex te)) (hx : Loc X.env.scope x := by first | exact Or.inl rfl | exact Or.inr rfl) (hs : swapsWith e (some (.Name x pos')) pos.line X.env = pure false := by rfl)
    (hf : X.fn x = true ∨ X.env.scope.names.lookup x = some .local := by first | exact .inl rfl | exact .inr rfl | assumption) : PS X (.Assign [.Name x pos'] e pos) (LS X.K Ex (tSet3 i te)) :=
  ps_imp (ps_set hN hi hx he hs hf) fun D σ H ⟨F, S, τ, D3, R, Ev, h, k⟩ => ⟨F, S, τ, _, R, Ev, h, fun F1 S1 H1 w v s1 R1 r1 h1 => k.nx F1 S1 H1 _ _ s1 R1 ((Ev.mono s1).set r1) h1⟩
theorem ps3_expr (he : PE X e (LE X.K Ex te)) (hs : swapsWith e none pos.line X.env = pure false := by rfl) : PS X (.Expr e pos) (LS X.K Ex (tDrop3 te)) :=
  ps_imp (ps_expr he hs) fun D σ H ⟨F, S, τ, D3, R, Ev, h, k⟩ => ⟨F, S, τ, _, R, Ev, h, fun F1 S1 H1 w v s1 R1 r1 h1 => k.nx F1 S1 H1 _ _ s1 R1 (Ev.mono s1) h1⟩
theorem ps3_ret (he : PE X e (LE X.K Ex te)) : PS X (.Return (some e) pos) (LS X.K Ex (tRet3 te)) :=
  ps_imp (ps_ret he) fun D σ H ⟨F, S, τ, D3, R, Ev, h, k⟩ => ⟨F, S, τ, _, R, Ev, h, k.rt⟩
theorem ps3_retN : PS X (.Return none pos) (LS X.K Ex tRetN3) := ps_imp ps_retN fun D σ H ⟨F, S, τ, D3, R, Ev, h, k⟩ => k.rt F S H _ _ (Sm.refl F) R mk_non h
theorem ps3_if {c : Expr} {a b : List Stmt} {tc : TT3} (hc : PT X c (LT X.K Ex tc)) (ha : PSs X a (LS X.K Ex t)) (hb : PSs X b (LS X.K Ex u)) : PS X (.If c a b pos) (LS X.K Ex (tIf3 tc t u)) :=
  ps_imp (ps_if hc ha hb) fun D σ H ⟨F, S, τ, D3, R, Ev, h, k⟩ => ⟨F, S, τ, _, R, Ev, h, fun F1 S1 H1 b s1 R1 ⟨h1, h2⟩ => by
    cases b with
    | true => exact iteT ⟨F1, S1, τ, D3, R1, Ev.mono s1, h1 rfl, k.mono s1⟩
    | false => exact iteF ⟨F1, S1, τ, D3, R1, Ev.mono s1, h2 rfl, k.mono s1⟩⟩
theorem ps3_pass : PS X (.Pass pos) (LS X.K Ex tNext3) := ps_imp ps_pass fun D σ H ⟨F, S, τ, D3, R, Ev, h, k⟩ => k.nx F S H τ σ (Sm.refl F) R Ev h
theorem ps3_break : PS X (.Break pos) (LS X.K Ex tBreak3) := ps_imp ps_break fun D σ H ⟨F, S, τ, D3, R, Ev, h, k⟩ => k.bk F S H τ σ (Sm.refl F) R Ev h
theorem ps3_cont : PS X (.Continue pos) (LS X.K Ex tCont3) := ps_imp ps_continue fun D σ H ⟨F, S, τ, D3, R, Ev, h, k⟩ => k.ct F S H τ σ (Sm.refl F) R Ev h
theorem ps3_never : PS X st (LS X.K Ex tNever3) := ps_imp ps_never fun D σ H ⟨F, S, τ, D3, R, Ev, h, k⟩ => h
theorem pss3_frz (i : Nat) {sts : List Stmt} (h : PSs X sts (LS X.K Ex t)) : PSs X sts (LS X.K Ex (tFrz3 i t)) :=
  pss_imp h fun D σ H ⟨F, S, τ, D3, R, Ev, ⟨a, ds, hi, hS, h⟩, k⟩ => by
    obtain ⟨F', s, R', r⟩ := R.freeze hS
    obtain ⟨v, hv, rv⟩ := Ev.sl.2 i _ hi
    cases (show v = .ref a from rv)
    have e := (Ev.mono s).set (i := i) r
    have z : σ.set i (some (V.ref a)) = σ := by
      apply List.ext_getElem?
      intro j
      by_cases hj : i = j
      · subst hj
        rw [List.getElem?_set_self (List.getElem?_eq_some_iff.mp hv).1, hv]
      · rw [List.getElem?_set_ne hj]
    rw [z] at e
    exact ⟨F', drp S a, _, D3, R', e, h, k.mono s⟩

/-! ### targets -/
abbrev TG3 := W → S3 → Sto → (S3 → Sto → Prop) → Prop
abbrev TGs3 := List W → S3 → Sto → (S3 → Sto → Prop) → Prop
def LG (K : PySem.W.Frag) (E : WX) (g : TG3) : TG := fun v σ H Q => ∃ F S τ w Q3, Rel K F S H ∧ EnvR K F E τ σ ∧ RepW K F w v ∧ g w τ S Q3 ∧ KS K F E Q3 Q
def LGs (K : PySem.W.Frag) (E : WX) (g : TGs3) : TGs := fun vs σ H Q => ∃ F S τ ws Q3, Rel K F S H ∧ EnvR K F E τ σ ∧ RepWs K F ws vs ∧ g ws τ S Q3 ∧ KS K F E Q3 Q
theorem pg_imp {e : Expr} {t u : TG} (h : PG X e t) (i : ∀ v σ H Q, u v σ H Q → t v σ H Q) : PG X e u := ⟨fun pins s σ H v uu Q I r q => h.run pins s σ H v uu Q I r (i _ _ _ _ q)⟩
theorem pgs_imp {e : List Expr} {t u : TGs} (h : PGs X e t) (i : ∀ v σ H Q, u v σ H Q → t v σ H Q) : PGs X e u := ⟨fun pins s σ H v uu Q I r q => h.run pins s σ H v uu Q I r (i _ _ _ _ q)⟩
def gName3 (i : Nat) : TG3 := fun w τ S Q => Q (τ.set i (some w)) S
theorem pg3_name (i : Nat) {x : Str} (hN : X.N.Nodup) (hi : X.N[i]? = some x := by rfl) (hx : Loc X.env.scope x := by first | exact Or.inl rfl | exact Or.inr rfl) (hf : X.fn x = true ∨ X.env.scope.names.lookup x = some .local := by first | exact .inl rfl | exact .inr rfl | assumption) : PG X (.Name x pos) (LG X.K Ex (gName3 i)) :=
  pg_imp (pg_name hN hi hx hf) fun v σ H Q ⟨F, S, τ, w, Q3, R, Ev, r, h, k⟩ => k F S H _ _ (Sm.refl F) R (Ev.set r) h
def gNil3 : TGs3 := fun ws τ S Q => ws = [] ∧ Q τ S
def gCons3 (t : TG3) (u : TGs3) : TGs3 := fun ws τ S Q => ∃ w r, ws = w :: r ∧ t w τ S fun τ' S' => u r τ' S' Q
theorem pgs3_nil : PGs X [] (LGs X.K Ex gNil3) := pgs_imp pgs_nil fun vs σ H Q ⟨F, S, τ, ws, Q3, R, Ev, r, ⟨e, h⟩, k⟩ => by
  subst e
  cases r
  exact ⟨rfl, k F S H _ _ (Sm.refl F) R Ev h⟩
theorem pgs3_cons {es : List Expr} {g : TG3} {gs : TGs3} (h1 : PG X e (LG X.K Ex g)) (h2 : PGs X es (LGs X.K Ex gs)) (hs : (assignEach (e :: es) X.env).map (·.2) = assign e X.env :: (assignEach es X.env).map (·.2) := by rfl) : PGs X (e :: es) (LGs X.K Ex (gCons3 g gs)) := pgs_imp (pgs_cons h1 h2 hs) fun vs σ H Q ⟨F, S, τ, ws, Q3, R, Ev, r, ⟨w, us, e, h⟩, k⟩ => by
  subst e
  cases r with
  | cons a t => exact ⟨_, _, rfl, F, S, τ, w, _, R, Ev, a, h, fun F1 S1 H1 τ1 σ1 s1 R1 Ev1 h1 => ⟨F1, S1, τ1, us, Q3, R1, Ev1, RepWs.mono s1 t, h1, k.mono s1⟩⟩
/-- a tuple of targets for a tuple of data -/
def gTup3 (n : Nat) (gs : TGs3) : TG3 := fun w τ S Q => ∃ ds, w = .tup ds ∧ ds.length = n ∧ gs (ds.map W.d) τ S Q
theorem pg3_tup {es : List Expr} {kk n : Nat} {gs : TGs3} (hc : X.calm = true) (h : PGs X es (LGs X.K Ex gs)) (hn : (assignEach es X.env).length = n := by rfl) (hst : (assignEach es X.env).findIdx? (·.1) = none := by rfl) : PG X (.Tuple es kk pos) (LG X.K Ex (gTup3 n gs)) :=
  pg_imp (pg_tup hc h hn hst) fun v σ H Q ⟨F, S, τ, w, Q3, R, Ev, r, ⟨ds, e, hl, h⟩, k⟩ => by
    subst e
    obtain ⟨_, a, vs, rfl, hs, ha⟩ := tup_rep R r rfl
    exact ⟨a, vs, rfl, hs, by rw [dpAll_len ha]; exact hl, F, S, τ, _, Q3, R, Ev, repWs_of_all ha, h, k⟩
/-- o[i] = v -/
def gSub3 (to ti : TE3) (t : W → W → W → Sto → (Sto → Prop) → Prop) : TG3 := fun v τ S Q => to τ S fun o S1 => ti τ S1 fun i S2 => t o i v S2 fun S3 => Q τ S3
def gSetL : W → W → W → Sto → (Sto → Prop) → Prop := fun w u x S Q => ∃ a ws i j, w = .r a ∧ u = .int i ∧ S a = some (.lst ws) ∧ ixN ws.length i = some j ∧ Q (put S a (.lst (ws.set j x)))
/-- what a target o[i] does, as the text has it -/
def SubTo (X : Cx) (o i : Expr) (pos : Pos) : Prop := ∀ v, assign (.Subscript o i pos) X.env v = (do let a ← holding [v] (eval o X.env); let b ← holding [v, a] (eval i X.env); standAt pos; holding [v, a, b] (setItem a b v); release [v, a, b] [])
theorem pg3_sub {o i : Expr} {to ti : TE3} (ho : PE X o (LE X.K Ex to)) (hi : PE X i (LE X.K Ex ti)) (ha : SubTo X o i pos := by intro _; rfl) : PG X (.Subscript o i pos) (LG X.K Ex (gSub3 to ti gSetL)) :=
  pg_imp (pg_sub ho hi set_list ha) fun v σ H Q ⟨F, S, τ, w, Q3, R, Ev, r, h, k⟩ => ⟨F, S, τ, _, R, Ev, h, fun F1 S1 H1 ow ov s1 R1 r1 h1 => ⟨F1, S1, τ, _, R1, Ev.mono s1, h1, fun F2 S2 H2 iw iv s2 R2 r2 ⟨a, ws, n, j, e1, e2, hS, hj, h2⟩ => by
    subst e1 e2
    obtain ⟨xs, hx, rx⟩ := rd_lst R2 hS
    exact ⟨a, xs, n, j, r1, rep_int r2, hx, by rw [← Paired.length rx]; exact hj, k _ _ _ _ _ (s1.trans s2) (wr_lst R2 hS (rep_set (r.mono (s1.trans s2)) rx)) (Ev.mono (s1.trans s2)) h2⟩⟩⟩
def tAsg3 (te : TE3) (g : TG3) : TS3 := fun D τ S => te τ S fun w S1 => g w τ S1 D.nx
theorem ps3_asg {tg : Expr} {g : TG3} (he : PE X e (LE X.K Ex te)) (hg : PG X tg (LG X.K Ex g)) (hs : swapsWithSole [tg] e pos.line X.env = pure false := by rfl) (hw : swappedStores [tg] e X.env = pure none := by rfl)
    (h1 : (assignEach [tg] X.env).map (·.2) = [assign tg X.env] := by rfl) : PS X (.Assign [tg] e pos) (LS X.K Ex (tAsg3 te g)) :=
  ps_imp (ps_asg he hg hs hw h1) fun D σ H ⟨F, S, τ, D3, R, Ev, h, k⟩ => ⟨F, S, τ, _, R, Ev, h, fun F1 S1 H1 w v s1 R1 r1 h1 => ⟨F1, S1, τ, w, _, R1, Ev.mono s1, r1, h1, k.nx.mono s1⟩⟩
/-- a, b, .. = x, y, ..: names and values that are written -/
def tUnp3 (ta : TA3) (gs : TGs3) : TS3 := fun D τ S => ta τ S fun ws S1 => ws.length ≤ 1000 ∧ gs ws τ S1 D.nx
theorem ps3_unp {es ts : List Expr} {ta : TA3} {gs : TGs3} {x1 kk n : Nat} {p1 p2 : Pos} (hc : X.calm = true) (ha : PA X es (LA X.K Ex ta)) (hg : PGs X ts (LGs X.K Ex gs)) (hl : ∀ ws τ S Q, gs ws τ S Q → ws.length = n) (hn : (assignEach ts X.env).length = n := by rfl)
    (hst : (assignEach ts X.env).findIdx? (·.1) = none := by rfl) (hs : swapsWithSole [.Tuple ts kk p1] (.Tuple es x1 p2) pos.line X.env = pure false := by rfl) (hw : swappedStores [.Tuple ts kk p1] (.Tuple es x1 p2) X.env = pure none := by rfl)
    (h1 : (assignEach [.Tuple ts kk p1] X.env).map (·.2) = [assign (.Tuple ts kk p1) X.env] := by rfl) : PS X (.Assign [.Tuple ts kk p1] (.Tuple es x1 p2) pos) (LS X.K Ex (tUnp3 ta gs)) :=
  ps_imp (ps_asg (pe_tup ha) (pg_tup hc hg hn hst) hs hw h1) fun D σ H ⟨F, S, τ, D3, R, Ev, h, k⟩ => ⟨F, S, τ, _, R, Ev, h, fun F1 S1 H1 ws vs s1 R1 r1 ⟨hz, h1⟩ => by
    refine ⟨by rw [← Paired.length r1]; exact le1000 hz, fun p hp => ?_⟩
    have s2 := sm_new (p := p) (o := HO.tup vs) (R1.freeF hp)
    exact ⟨p, vs, rfl, SqT.of upd_same, by rw [← Paired.length r1]; exact hl _ _ _ _ h1, F1.new p (.tup vs), S1, τ, ws, _, R1.newF hp, Ev.mono (s1.trans s2), RepWs.mono s2 r1, h1, k.nx.mono (s1.trans s2)⟩⟩
/-- a, b = x, y: plain local names -/
def tPar3 (i j : Nat) (ta : TA3) : TS3 := fun D τ S => ta τ S fun ws S1 => ∃ v w, ws = [v, w] ∧ D.nx ((τ.set i (some v)).set j (some w)) S1
theorem ps3_par (i j : Nat) {x y : Str} {a b : Expr} {ta : TA3} {px py pt : Pos} {kt k2 pt2} (hc : X.calm = true) (hN : X.N.Nodup) (ha : PA X [a, b] (LA X.K Ex ta)) (hi : X.N[i]? = some x := by rfl) (hj : X.N[j]? = some y := by rfl) (hij : i ≠ j := by decide)
    (hx : X.env.scope.names.lookup x = some .local := by rfl) (hy : X.env.scope.names.lookup y = some .local := by rfl)
    (hw : swappedStores [.Tuple [.Name x px, .Name y py] kt pt] (.Tuple [a, b] k2 pt2) X.env = pure (some [x, y]) := by rfl) (hs : swapsWithSole [.Tuple [.Name x px, .Name y py] kt pt] (.Tuple [a, b] k2 pt2) pos.line X.env = pure false := by rfl) :
    PS X (.Assign [.Tuple [.Name x px, .Name y py] kt pt] (.Tuple [a, b] k2 pt2) pos) (LS X.K Ex (tPar3 i j ta)) :=
  ps_imp (ps_par hc hN hi hj hij hx hy ha hw hs) fun D σ H ⟨F, S, τ, D3, R, Ev, h, k⟩ => ⟨F, S, τ, _, R, Ev, h, fun F1 S1 H1 ws vs s1 R1 r1 ⟨v, w, e, h1⟩ => by
    subst e
    obtain ⟨v', w', rfl, rv, rw⟩ := ws2 r1
    exact ⟨v', w', rfl, k.nx F1 S1 H1 _ _ s1 R1 (((Ev.mono s1).set rv).set rw) h1⟩⟩

/-! ### while -/
def tWhile3 (c : TT3) (tb : TS3) : TS3 := fun D τ S => ∃ Wi : Nat → S3 → Sto → Prop, (∃ m, Wi m τ S) ∧ ∀ m τ S, Wi m τ S →
  c τ S fun b S1 => (b = true → ∃ N : S3 → Sto → Prop, (∀ τ' S', N τ' S' → ∃ m', m' < m ∧ Wi m' τ' S') ∧ tb { D with nx := N, ct := N, bk := D.nx } τ S1) ∧ (b = false → D.nx τ S1)
theorem ps3_while {c : Expr} {body : List Stmt} {tc : TT3} {tb : TS3} (hp : PassesOwn (model X.prog X.w) X.A X.env X.xe) (hc : PT X c (LT X.K Ex tc)) (hb : PSs X body (LS X.K Ex tb)) : PS X (.While c body [] pos) (LS X.K Ex (tWhile3 tc tb)) :=
  ps_imp (ps_while hp hc hb) fun D σ H ⟨F, S, τ, D3, R, Ev, ⟨Wi, ⟨m0, w0⟩, turn⟩, k⟩ => by
    refine ⟨fun m σ' H' => ∃ F' S' τ', Sm F F' ∧ Rel X.K F' S' H' ∧ EnvR X.K F' Ex τ' σ' ∧ Wi m τ' S', ⟨m0, F, S, τ, Sm.refl F, R, Ev, w0⟩, ?_⟩
    rintro m σ' H' ⟨F1, S1, τ1, s1, R1, Ev1, w1⟩
    refine ⟨F1, S1, τ1, _, R1, Ev1, turn m τ1 S1 w1, fun F2 S2 H2 b s2 R2 ⟨h1, h2⟩ => ?_⟩
    have s := s1.trans s2
    cases b with
    | true =>
      obtain ⟨N, hN, hb⟩ := h1 rfl
      refine iteT ⟨fun σ3 H3 => ∃ F3 S3 τ3, Sm F F3 ∧ Rel X.K F3 S3 H3 ∧ EnvR X.K F3 Ex τ3 σ3 ∧ N τ3 S3, ?_, F2, S2, τ1, _, R2, Ev1.mono s2, hb, ⟨?_, ?_, ?_, ?_⟩⟩
      · rintro σ3 H3 ⟨F3, S3, τ3, s3, R3, Ev3, n3⟩
        obtain ⟨m', hm, w3⟩ := hN τ3 S3 n3
        exact ⟨m', hm, F3, S3, τ3, s3, R3, Ev3, w3⟩
      · exact fun F3 S3 H3 τ3 σ3 s3 R3 Ev3 n3 => ⟨F3, S3, τ3, s.trans s3, R3, Ev3, n3⟩
      · exact k.rt.mono s
      · exact k.nx.mono s
      · exact fun F3 S3 H3 τ3 σ3 s3 R3 Ev3 n3 => ⟨F3, S3, τ3, s.trans s3, R3, Ev3, n3⟩
    | false => exact iteF (k.nx F2 S2 H2 _ _ s R2 (Ev1.mono s2) (h2 rfl))

/-! ### what is walked -/
theorem RepW.mono1 {K : PySem.W.Frag} {F F' : Fz} (e : Same F.f F'.f) {w : W} {v : V} (h : RepW K F w v) : RepW K F' w v := by
  cases w with
  | d x => exact dp_mono e h
  | r a => exact h
  | ty n => exact h
abbrev TI3 := S3 → Sto → (List W → Sto → Prop) → Prop
/-- the iterator gives just these values, whatever stays -/
structure YL (K : PySem.W.Frag) (F : Fz) (J : It) (ws : List W) : Prop where
  go : ∀ i H F' S', Same F.f F'.f → Rel K F' S' H → i < ws.length → J.go i H
  stop : ∀ i H F' S', Same F.f F'.f → Rel K F' S' H → ws.length ≤ i → J.stop i H
  yld : ∀ i H F' S' x H', Same F.f F'.f → Rel K F' S' H → i < ws.length → J.yld i H x H' → ∃ F2 w, ws[i]? = some w ∧ Sm F' F2 ∧ Rel K F2 S' H' ∧ RepW K F2 w x
def LI (K : PySem.W.Frag) (E : WX) (t : TI3) : TI := fun σ H R => ∃ F S τ Q3, Rel K F S H ∧ EnvR K F E τ σ ∧ t τ S Q3 ∧ ∀ F' S' H' ws J, Sm F F' → Rel K F' S' H' → YL K F' J ws → Q3 ws S' → R J H'
theorem pi_imp {tg it : Expr} {t u : TI} (h : PI X tg it t) (i : ∀ σ H R, u σ H R → t σ H R) : PI X tg it u := ⟨fun pins s σ H R I q => h.run pins s σ H R I (i _ _ _ q)⟩
/-- a list or a tuple -/
def tSeqI3 (te : TE3) : TI3 := fun τ S Q => te τ S fun w S1 => ∃ ds, (w = .lst ds ∨ w = .tup ds) ∧ Q (ds.map W.d) S1
def iSeq (K : PySem.W.Frag) (tl : TE) : TI := fun σ H R => tl σ H fun x H1 => ∃ a, x = .ref a ∧ (((∃ xs, SqL K H1 a xs) ∧ R (Itl K a) H1) ∨ ((∃ xs, SqT K H1 a xs) ∧ R (Itt K a) H1))
theorem pi_seq {tg l : Expr} {tl : TE} (hl : PE X l tl) : PI X tg l (iSeq X.K tl) := by
  constructor
  intro pins st σ H R I h
  refine thn (hl.run pins st σ H _ I h) ?_
  rintro v s1 ⟨x, H1, J, r1, a, e, q⟩
  subst e
  cases r1
  have fresh : ∀ b ∈ [s1.heap.objs.size], _ := fun b hb => by
    cases List.mem_singleton.mp hb
    have top := J.hok.fresh (Nat.le_refl s1.heap.objs.size)
    exact J.fpOk (Nat.le_refl _) top
  have up : ∀ (ob : Obj) b o, s1.heap.get? b = some o → (s1.heap.push ob).get? b = some o := fun ob b o e => Heap.get?_push_of_some _ e
  rcases q with ⟨⟨xs, hq⟩, q⟩ | ⟨⟨xs, hq⟩, q⟩
  · obtain ⟨its, _, p, _⟩ := J.list hq
    apply wpAny_pyIter_list p.isList
    exact ⟨_, [s1.heap.objs.size], _, _, H1, rfl, J.kept (t' := s1.toks) (up _), turn_list a _, ⟨_, Heap.get?_push_size _ rfl, rfl, rfl⟩, fresh, q⟩
  · obtain ⟨its, _, p, _⟩ := J.tuple hq
    apply wpAny_pyIter_tuple (show s1.heap.IsTuple a its.toArray from p)
    exact ⟨_, [s1.heap.objs.size], _, _, H1, rfl, J.kept (t' := s1.toks) (up _), turn_tuple a _, ⟨_, Heap.get?_push_size _ rfl, rfl, rfl⟩, fresh, q⟩
theorem yl_lst {K : PySem.W.Frag} {F : Fz} {a : Addr} {vs : List V} {ds : List PyData} (h : SqL K F.f a vs) (ha : DpAll K F.f vs ds) : YL K F (Itl K a) (ds.map W.d) := by
  have hl := dpAll_len ha
  have sq : ∀ {H F' S'}, Same F.f F'.f → Rel K F' S' H → SqL K H a vs := fun s R => R.same.seq (s.seq h)
  refine ⟨fun i H F' S' s R hi => ?_, fun i H F' S' s R hi => ⟨vs, sq s R, by rw [List.length_map] at hi; omega⟩, fun i H F' S' x H' s R hi ⟨e, y⟩ => ?_⟩
  · rw [List.length_map] at hi
    exact ⟨vs, vs[i]'(by omega), sq s R, List.getElem?_eq_getElem (by omega)⟩
  · subst e
    have hx := y vs (sq s R)
    obtain ⟨d, hd⟩ : ∃ d, (ds.map W.d)[i]? = some d := ⟨_, List.getElem?_eq_getElem hi⟩
    obtain ⟨v, hv, rv⟩ := rep_get (repWs_of_all ha) hd
    rw [hx] at hv
    cases hv
    exact ⟨F', d, hd, Sm.refl _, R, rv.mono1 s⟩
theorem yl_tup {K : PySem.W.Frag} {F : Fz} {a : Addr} {vs : List V} {ds : List PyData} (h : SqT K F.f a vs) (ha : DpAll K F.f vs ds) : YL K F (Itt K a) (ds.map W.d) := by
  have hl := dpAll_len ha
  have sq : ∀ {H F' S'}, Same F.f F'.f → Rel K F' S' H → SqT K H a vs := fun s R => sqt_mono R.same (sqt_mono s h)
  refine ⟨fun i H F' S' s R hi => ?_, fun i H F' S' s R hi => ⟨vs, sq s R, by rw [List.length_map] at hi; omega⟩, fun i H F' S' x H' s R hi ⟨e, y⟩ => ?_⟩
  · rw [List.length_map] at hi
    exact ⟨vs, vs[i]'(by omega), sq s R, List.getElem?_eq_getElem (by omega)⟩
  · subst e
    have hx := y vs (sq s R)
    obtain ⟨d, hd⟩ : ∃ d, (ds.map W.d)[i]? = some d := ⟨_, List.getElem?_eq_getElem hi⟩
    obtain ⟨v, hv, rv⟩ := rep_get (repWs_of_all ha) hd
    rw [hx] at hv
    cases hv
    exact ⟨F', d, hd, Sm.refl _, R, rv.mono1 s⟩
theorem pi3_seq {tg l : Expr} (hl : PE X l (LE X.K Ex te)) : PI X tg l (LI X.K Ex (tSeqI3 te)) :=
  pi_imp (pi_seq hl) fun σ H R ⟨F, S, τ, Q3, Rl, Ev, h, k⟩ => ⟨F, S, τ, _, Rl, Ev, h, fun F1 S1 H1 w x s1 R1 r1 ⟨ds, e, q⟩ => by
    rcases e with e | e <;> subst e
    · cases (show Dp X.K F1.f x (.list ds) from r1) with
      | lst h1 h2 => exact ⟨_, rfl, .inl ⟨⟨_, R1.same.seq h1⟩, k F1 S1 H1 _ _ s1 R1 (yl_lst h1 h2) q⟩⟩
    · cases (show Dp X.K F1.f x (.tuple ds) from r1) with
      | tup h1 h2 => exact ⟨_, rfl, .inr ⟨⟨_, sqt_mono R1.same h1.sqt⟩, k F1 S1 H1 _ _ s1 R1 (yl_tup h1.sqt h2) q⟩⟩⟩
/-- range -/
def rgW (lo : Int) (n : Nat) : List W := (List.range n).map fun i => .int (lo + (i : Nat))
theorem rgW_len {lo : Int} {n : Nat} : (rgW lo n).length = n := by simp [rgW]
theorem rgW_get {lo : Int} {n i : Nat} (h : i < n) : (rgW lo n)[i]? = some (.int (lo + (i : Nat))) := by
  unfold rgW
  rw [List.getElem?_map, List.getElem?_range h]
  rfl
theorem yl_rg {K : PySem.W.Frag} {F : Fz} {lo : Int} {n : Nat} : YL K F (Itr lo n) (rgW lo n) := by
  refine ⟨fun i H F' S' s R hi => ?_, fun i H F' S' s R hi => ?_, fun i H F' S' x H' s R hi ⟨e, y⟩ => ?_⟩
  · rw [rgW_len] at hi; exact hi
  · rw [rgW_len] at hi; exact hi
  · subst e y
    rw [rgW_len] at hi
    exact ⟨F', _, rgW_get hi, Sm.refl _, R, mk_int⟩
def tRgI1 (ta : TA3) : TI3 := fun τ S Q => ta τ S fun ws S1 => ∃ j : Int, ws = [.int j] ∧ (-(2 ^ 62) ≤ j ∧ j < 2 ^ 62) ∧ Q (rgW 0 j.toNat) S1
def tRgI2 (ta : TA3) : TI3 := fun τ S Q => ta τ S fun ws S1 => ∃ i j : Int, ws = [.int i, .int j] ∧ (-(2 ^ 62) ≤ i ∧ i < 2 ^ 62 ∧ -(2 ^ 62) ≤ j ∧ j < 2 ^ 62) ∧ Q (rgW i (j - i).toNat) S1
theorem pi3_range1 {tg a : Expr} {ta : TA3} {p : Pos} (hg : Gl X "range") (hm : X.mg "range" = none) (ha : PA X [a] (LA X.K Ex ta)) (hs : starEach [a] X.env = [(false, eval a X.env)] := by rfl) : PI X tg (.Call (.Name "range" p) [a] [] pos) (LI X.K Ex (tRgI1 ta)) :=
  pi_imp (pi_range1 hg hm ha hs) fun σ H R ⟨F, S, τ, Q3, Rl, Ev, h, k⟩ => ⟨F, S, τ, _, Rl, Ev, h, fun F1 S1 H1 ws vs s1 R1 r1 ⟨j, e, b, q⟩ => by
    subst e
    obtain ⟨v, rfl, rv⟩ := ws1 r1
    exact ⟨j, by rw [rep_int rv], b.1, b.2, k F1 S1 H1 _ _ s1 R1 yl_rg q⟩⟩
theorem pi3_range2 {tg a b : Expr} {ta : TA3} {p : Pos} (hg : Gl X "range") (hm : X.mg "range" = none) (ha : PA X [a, b] (LA X.K Ex ta)) (hs : starEach [a, b] X.env = [(false, eval a X.env), (false, eval b X.env)] := by rfl) (hs2 : starEach [b] X.env = [(false, eval b X.env)] := by rfl) :
    PI X tg (.Call (.Name "range" p) [a, b] [] pos) (LI X.K Ex (tRgI2 ta)) :=
  pi_imp (pi_range2 hg hm ha hs hs2) fun σ H R ⟨F, S, τ, Q3, Rl, Ev, h, k⟩ => ⟨F, S, τ, _, Rl, Ev, h, fun F1 S1 H1 ws vs s1 R1 r1 ⟨i, j, e, b, q⟩ => by
    subst e
    obtain ⟨v, y, rfl, rv, ry⟩ := ws2 r1
    exact ⟨i, j, by rw [rep_int rv, rep_int ry], b, k F1 S1 H1 _ _ s1 R1 yl_rg q⟩⟩

/-! ### for -/
def forGo (g : TG3) (tb : TS3) (D : Ends3) : List W → S3 → Sto → Prop
  | [], τ, S => D.nx τ S
  | w :: ws, τ, S => ∃ N : S3 → Sto → Prop, (∀ τ' S', N τ' S' → forGo g tb D ws τ' S') ∧ g w τ S fun τ2 S2 => tb { D with nx := N, ct := N, bk := D.nx } τ2 S2
def tFor3 (s : TI3) (g : TG3) (tb : TS3) : TS3 := fun D τ S => s τ S fun ws S1 => forGo g tb D ws τ S1
theorem ps3_for {tg iter : Expr} {body : List Stmt} {wi : TI3} {g : TG3} {tb : TS3} (hp : PassesOwn (model X.prog X.w) X.A X.env X.xe) (hc : X.calm = true) (hi : PI X tg iter (LI X.K Ex wi)) (hg : PG X tg (LG X.K Ex g)) (hb : PSs X body (LS X.K Ex tb))
    (hs : ∀ x, foldedSetIterable iter X.env x = pure x := by intro _; rfl) : PS X (.For tg iter body [] pos) (LS X.K Ex (tFor3 wi g tb)) :=
  ps_imp (ps_for hp hc hi hg hb hs) fun D σ H ⟨F, S, τ, D3, R, Ev, h, k⟩ => ⟨F, S, τ, _, R, Ev, h, fun F1 S1 H1 ws J s1 R1 yl h1 => by
    refine ⟨fun i m σ' H' => ∃ F' S' τ', Sm F1 F' ∧ Rel X.K F' S' H' ∧ EnvR X.K F' Ex τ' σ' ∧ m = ws.length - i ∧ i ≤ ws.length ∧ forGo g tb D3 (ws.drop i) τ' S', ⟨ws.length, F1, S1, τ, Sm.refl F1, R1, Ev.mono s1, rfl, Nat.zero_le _, h1⟩, ?_⟩
    rintro i m σ' H' ⟨F2, S2, τ2, s2, R2, Ev2, rfl, hi, h2⟩
    by_cases hlt : i < ws.length
    · rw [List.drop_eq_getElem_cons hlt] at h2
      obtain ⟨N, hN, h2⟩ := h2
      refine .inr ⟨yl.go i H' F2 S2 s2.f R2 hlt, fun σ3 H3 => ∃ F3 S3 τ3, Sm F1 F3 ∧ Rel X.K F3 S3 H3 ∧ EnvR X.K F3 Ex τ3 σ3 ∧ N τ3 S3, ?_, fun x H3 hy => ?_⟩
      · rintro σ3 H3 ⟨F3, S3, τ3, s3, R3, Ev3, n3⟩
        exact ⟨ws.length - (i + 1), by omega, F3, S3, τ3, s3, R3, Ev3, rfl, hlt, hN τ3 S3 n3⟩
      · obtain ⟨F3, w, hw, s3, R3, r3⟩ := yl.yld i H' F2 S2 x H3 s2.f R2 hlt hy
        rw [List.getElem?_eq_getElem hlt] at hw
        cases hw
        refine ⟨F3, S2, τ2, _, _, R3, Ev2.mono s3, r3, h2, fun F4 S4 H4 τ4 σ4 s4 R4 Ev4 h4 => ?_⟩
        have s := s2.trans (s3.trans s4)
        refine ⟨F4, S4, τ4, _, R4, Ev4, h4, ⟨?_, k.rt.mono (s1.trans s), k.nx.mono (s1.trans s), ?_⟩⟩
        · exact fun F5 S5 H5 τ5 σ5 s5 R5 Ev5 n5 => ⟨F5, S5, τ5, s.trans s5, R5, Ev5, n5⟩
        · exact fun F5 S5 H5 τ5 σ5 s5 R5 Ev5 n5 => ⟨F5, S5, τ5, s.trans s5, R5, Ev5, n5⟩
    · have e : i = ws.length := by omega
      subst e
      rw [List.drop_length] at h2
      exact .inl ⟨yl.stop _ H' F2 S2 s2.f R2 (Nat.le_refl _), k.nx F2 S2 H' _ _ (s1.trans s2) R2 Ev2 h2⟩⟩
end
end H3

namespace H3
open PySem PySem.Spec L2
open PyProof.Rows hiding St

/-! ### list comprehensions -/
abbrev XN : XS := fun _ _ _ _ => False
abbrev EN : WX := fun _ _ _ _ => False
def lcGo (g : TG3) (tt : TT3) (te : TE3) (τ0 : S3) : List W → List W → Sto → (List W → Sto → Prop) → Prop
  | [], acc, S, Q => Q acc S
  | w :: ws, acc, S, Q => g w τ0 S fun τ2 S2 => tt τ2 S2 fun b S3 => (b = true → te τ2 S3 fun y S4 => lcGo g tt te τ0 ws (acc ++ [y]) S4 Q) ∧ (b = false → lcGo g tt te τ0 ws acc S3 Q)
/-- its list is data -/
def tLcD3 (s : TI3) (g : TG3) (tt : TT3) (te : TE3) (vs : List Nat) : TE3 := fun τ S Q => s τ S fun ws S1 => ws.length ≤ 1000000 ∧ lcGo g tt te ⟨wipe3 τ.sl vs, XN⟩ ws [] S1 fun us S2 => ∃ ds : List PyData, us = ds.map W.d ∧ Q (.lst ds) S2
/-- its list may be changed -/
def tLcM3 (s : TI3) (g : TG3) (tt : TT3) (te : TE3) (vs : List Nat) : TE3 := fun τ S Q => s τ S fun ws S1 => ws.length ≤ 1000000 ∧ lcGo g tt te ⟨wipe3 τ.sl vs, XN⟩ ws [] S1 fun us S2 => ∀ p, S2 p = none → Q (.r p) (put S2 p (.lst us))
theorem sl_wipe {K : PySem.W.Frag} {F : Fz} {τ : Sl} {σ : St} (h : SlE K F τ σ) : ∀ vs : List Nat, SlE K F (wipe3 τ vs) (wipe σ vs)
  | [] => h
  | v :: vs => (sl_wipe h vs).unset
theorem repW_g {K : PySem.W.Frag} {F : Fz} {g : Hp} {w : W} {v : V} (h : RepW K F w v) : RepW K ⟨g, F.f⟩ w v := h.mono1 (fun _ _ e => e)
theorem sle_g {K : PySem.W.Frag} {F F' : Fz} (e : Same F.f F'.f) {τ : Sl} {σ : St} (h : SlE K F τ σ) : SlE K F' τ σ := ⟨h.1, fun i w q => let ⟨v, a, b⟩ := h.2 i w q; ⟨v, a, b.mono1 e⟩⟩
theorem repO_g {K : PySem.W.Frag} {F : Fz} {g : Hp} {p : SO} {o : HO} (h : RepO K F p o) : RepO K ⟨g, F.f⟩ p o := by
  cases p with
  | lst ws => obtain ⟨vs, e, r⟩ := h; exact ⟨vs, e, Paired.mapP r fun _ _ z => repW_g z⟩
  | ins C fs => obtain ⟨dx, gs, e, r⟩ := h; exact ⟨dx, gs, e, Paired.mapP r fun _ _ z => ⟨z.1, repW_g z.2⟩⟩
  | tb => exact h
  | dk kvs => obtain ⟨vs, e, r⟩ := h; exact ⟨vs, e, Paired.mapP r fun _ _ z => ⟨z.1, repW_g z.2⟩⟩
  | dt a kvs => obtain ⟨P, w, xs, e, h1, h2, h3, r⟩ := h; exact ⟨P, w, xs, e, h1, h2, h3, Paired.mapP r fun _ _ z => ⟨z.1, z.2.1, let ⟨v, a, b⟩ := z.2.2; ⟨v, repW_g a, b⟩⟩⟩
  | tp us => obtain ⟨o2, vs, e, n2, r⟩ := h; exact ⟨o2, vs, e, n2, Paired.mapP r fun _ _ z => repW_g z⟩
section
variable {K : PySem.W.Frag} {F : Fz} {S : Sto} {H : Hp}
theorem Rel.rehide (R : Rel K F S H) {p : Addr} {o o' : HO} (h : F.g p = some o) : Rel K ⟨upd F.g p o', F.f⟩ S (upd H p o') := by
  refine ⟨fun a u e => ?_, fun a u e => ?_, fun a u e => ?_⟩
  · obtain ⟨h1, h2, h3⟩ := R.fz a u e
    have ha : a ≠ p := by rintro rfl; rw [h3] at h; cases h
    refine ⟨by rw [upd_ne ha]; exact h1, h2, ?_⟩
    show upd F.g p o' a = none
    rw [upd_ne ha]; exact h3
  · obtain ⟨g, v, hv, r⟩ := R.st a u e
    have ha : a ≠ p := by rintro rfl; rw [g] at h; cases h
    refine ⟨?_, v, by rw [upd_ne ha]; exact hv, repO_g r⟩
    show upd F.g p o' a = none
    rw [upd_ne ha]; exact g
  · have e : upd F.g p o' a = some u := e
    by_cases ha : a = p
    · subst ha; rw [upd_same] at e ⊢; exact e
    · rw [upd_ne ha] at e ⊢; exact R.hd a u e
/-- what was hidden stays from now on -/
theorem Rel.showF {g : Hp} {p : Addr} {o : HO} (hg : g p = none) (R : Rel K F S H) (e : F.g = upd g p o) : Rel K ⟨g, upd F.f p o⟩ S H ∧ Same F.f (upd F.f p o) := by
  have hp : F.g p = some o := by rw [e, upd_same]
  have hf : F.f p = none := by
    cases q : F.f p with
    | none => rfl
    | some u => rw [(R.fz p u q).2.2] at hp; cases hp
  have hs : S p = none := by
    cases q : S p with
    | none => rfl
    | some u => rw [(R.st p u q).1] at hp; cases hp
  have sm := same_upd (o := o) hf
  refine ⟨⟨fun a u q => ?_, fun a u q => ?_, fun a u q => ?_⟩, sm⟩
  · have q : upd F.f p o a = some u := q
    by_cases ha : a = p
    · subst ha
      rw [upd_same] at q
      cases q
      exact ⟨R.hd a _ hp, hs, hg⟩
    · rw [upd_ne ha] at q
      obtain ⟨h1, h2, h3⟩ := R.fz a u q
      rw [e, upd_ne ha] at h3
      exact ⟨h1, h2, h3⟩
  · obtain ⟨g', v, hv, r⟩ := R.st a u q
    have ha : a ≠ p := by rintro rfl; rw [g'] at hp; cases hp
    rw [e, upd_ne ha] at g'
    refine ⟨g', v, hv, ?_⟩
    cases u with
    | lst ws => obtain ⟨vs, e, r⟩ := r; exact ⟨vs, e, Paired.mapP r fun _ _ z => z.mono1 sm⟩
    | ins C fs => obtain ⟨dx, gs, e, r⟩ := r; exact ⟨dx, gs, e, Paired.mapP r fun _ _ z => ⟨z.1, z.2.mono1 sm⟩⟩
    | tb q => obtain ⟨ps, e1, e2, e3⟩ := r; exact ⟨ps, e1, e2, fun x hx pos cv hc => let ⟨c, a, b⟩ := e3 x hx pos cv hc; ⟨c, a, sm c _ b⟩⟩
    | dk kvs => obtain ⟨gs, e, r⟩ := r; exact ⟨gs, e, Paired.mapP r fun _ _ z => ⟨z.1, z.2.mono1 sm⟩⟩
    | dt a kvs => obtain ⟨P, w, xs, e, h1, h2, h3, r⟩ := r; exact ⟨P, w, xs, e, h1, h2, h3, Paired.mapP r fun _ _ z => ⟨z.1, z.2.1.mono sm, let ⟨v, a, b⟩ := z.2.2; ⟨v, a.mono1 sm, b⟩⟩⟩
    | tp us => obtain ⟨o2, vs, e, n2, r⟩ := r; exact ⟨o2, vs, e, n2, Paired.mapP r fun _ _ z => z.mono1 sm⟩
  · have ha : a ≠ p := by rintro rfl; exact nomatch hg.symm.trans (show g a = some u from q)
    exact R.hd a u (by rw [e, upd_ne ha]; exact q)
/-- what was hidden may be changed from now on -/
theorem Rel.showS {g : Hp} {p : Addr} {o : HO} {q0 : SO} (hg : g p = none) (R : Rel K F S H) (e : F.g = upd g p o) (r0 : RepO K F q0 o) : Rel K ⟨g, F.f⟩ (put S p q0) H ∧ S p = none := by
  have hp : F.g p = some o := by rw [e, upd_same]
  have hs : S p = none := by
    cases q : S p with
    | none => rfl
    | some u => rw [(R.st p u q).1] at hp; cases hp
  refine ⟨⟨fun a u q => ?_, fun a u q => ?_, fun a u q => ?_⟩, hs⟩
  · obtain ⟨h1, h2, h3⟩ := R.fz a u q
    have ha : a ≠ p := by rintro rfl; rw [h3] at hp; cases hp
    rw [e, upd_ne ha] at h3
    exact ⟨h1, by rw [put_ne ha]; exact h2, h3⟩
  · by_cases ha : a = p
    · subst ha
      rw [put_same] at q
      cases q
      exact ⟨hg, o, R.hd a _ hp, repO_g r0⟩
    · rw [put_ne ha] at q
      obtain ⟨g', v, hv, r⟩ := R.st a u q
      rw [e, upd_ne ha] at g'
      exact ⟨g', v, hv, repO_g r⟩
  · have ha : a ≠ p := by rintro rfl; exact nomatch hg.symm.trans (show g a = some u from q)
    exact R.hd a u (by rw [e, upd_ne ha]; exact q)
end
/-- a target by values -/
def LGL (K : PySem.W.Frag) (E : WX) (g3 : TG3) (g : TG) : Prop := ∀ F S τ w x σ H Q3 Q, Rel K F S H → EnvR K F E τ σ → RepW K F w x → g3 w τ S Q3 → KS K F E Q3 Q → g x σ H Q
/-- it stores to these slots alone -/
def Wp (g : TG) (vs : List Nat) : Prop := ∀ x σ H Q, g x σ H Q → g x σ H fun σ2 H2 => wipe σ2 vs = wipe σ vs ∧ Q σ2 H2
theorem wipe_set {i : Nat} {w : Option V} : ∀ {vs : List Nat} {σ : St}, i ∈ vs → wipe (σ.set i w) vs = wipe σ vs
  | [], σ, h => by cases h
  | v :: vs, σ, h => by
    have out : ∀ (us : List Nat) (ρ : St), wipe (ρ.set i w) us = (if i ∈ us then wipe ρ us else (wipe ρ us).set i w) := fun us => by
      induction us with
      | nil => intro ρ; simp [wipe]
      | cons u us ih =>
        intro ρ
        show (wipe (ρ.set i w) us).set u none = _
        rw [ih ρ]
        by_cases hu : i ∈ us
        · rw [if_pos hu, if_pos (List.mem_cons_of_mem _ hu)]; rfl
        · rw [if_neg hu]
          by_cases hi : i = u
          · subst hi
            rw [if_pos List.mem_cons_self, List.set_set]; rfl
          · rw [if_neg (by simp [hi, hu]), List.set_comm _ _ hi]; rfl
    rw [out, if_pos h]
theorem wp_name {i : Nat} {vs : List Nat} (h : i ∈ vs := by simp) : Wp (gName i) vs := fun x σ H Q q => ⟨wipe_set h, q⟩
def Wps (g : TGs) (vs : List Nat) : Prop := ∀ x σ H Q, g x σ H Q → g x σ H fun σ2 H2 => wipe σ2 vs = wipe σ vs ∧ Q σ2 H2
theorem wps_nil {vs : List Nat} : Wps gNil vs := fun x σ H Q ⟨e, q⟩ => ⟨e, rfl, q⟩
theorem wps_cons {i : Nat} {gs : TGs} {vs : List Nat} (h2 : Wps gs vs) (h : i ∈ vs := by simp) : Wps (gCons (gName i) gs) vs := fun x σ H Q ⟨v, r, e, q⟩ => by
  refine ⟨v, r, e, ?_⟩
  have z := h2 _ _ _ _ (show gs r (σ.set i (some v)) H Q from q)
  rw [wipe_set h] at z
  exact z
theorem wp_tup {K : PySem.W.Frag} {n : Nat} {gs : TGs} {vs : List Nat} (h : Wps gs vs) : Wp (gTup K n gs) vs := fun x σ H Q ⟨a, xs, e, hs, hl, q⟩ => ⟨a, xs, e, hs, hl, h _ _ _ _ q⟩
theorem lgl_name {K : PySem.W.Frag} {E : WX} {i : Nat} : LGL K E (gName3 i) (gName i) := fun F S τ w x σ H Q3 Q R Ev r h k => k F S H _ _ (Sm.refl F) R (Ev.set r) h
def LGLs (K : PySem.W.Frag) (E : WX) (g3 : TGs3) (g : TGs) : Prop := ∀ F S τ ws xs σ H Q3 Q, Rel K F S H → EnvR K F E τ σ → RepWs K F ws xs → g3 ws τ S Q3 → KS K F E Q3 Q → g xs σ H Q
theorem lgls_nil {K : PySem.W.Frag} {E : WX} : LGLs K E gNil3 gNil := fun F S τ ws xs σ H Q3 Q R Ev r ⟨e, h⟩ k => by
  subst e
  cases r
  exact ⟨rfl, k F S H _ _ (Sm.refl F) R Ev h⟩
theorem lgls_cons {K : PySem.W.Frag} {E : WX} {i : Nat} {gs3 : TGs3} {gs : TGs} (l : LGLs K E gs3 gs) : LGLs K E (gCons3 (gName3 i) gs3) (gCons (gName i) gs) := fun F S τ ws xs σ H Q3 Q R Ev r ⟨w, us, e, h⟩ k => by
  subst e
  cases r with
  | cons a t => exact ⟨_, _, rfl, l F S _ us _ _ H Q3 Q R (Ev.set a) t h k⟩
theorem lgl_tup {K : PySem.W.Frag} {E : WX} {n : Nat} {gs3 : TGs3} {gs : TGs} (l : LGLs K E gs3 gs) : LGL K E (gTup3 n gs3) (gTup K n gs) := fun F S τ w x σ H Q3 Q R Ev r ⟨ds, e, hl, h⟩ k => by
  subst e
  obtain ⟨_, a, vs, rfl, hs, ha⟩ := tup_rep R r rfl
  exact ⟨a, vs, rfl, hs, by rw [dpAll_len ha]; exact hl, l F S τ _ _ σ H Q3 Q R Ev (repWs_of_all ha) h k⟩
/-- the comprehension, its list hidden while it is made -/
theorem le_lc {K : PySem.W.Frag} {Ex : WX} {s : TI3} {g3 : TG3} {g : TG} {tt : TT3} {te : TE3} {vs : List Nat} {Qe : K3 → List W → Sto → Prop} (lg : LGL K EN g3 g) (wp : Wp g vs)
    (fin : ∀ (F F' : Fz) (S' : Sto) (H' : Hp) (D : Addr) (xs : List V) (us : List W) (Q3 : K3) (Q : VK), F.g D = none → Same F.f F'.f → F'.g = upd F.g D (.lst xs) → Rel K F' S' H' → RepWs K F' us xs → Qe Q3 us S' → KE K F Q3 Q → Q (.ref D) H') :
    ∀ σ H Q, LE K Ex (fun τ S Q => s τ S fun ws S1 => ws.length ≤ 1000000 ∧ lcGo g3 tt te ⟨wipe3 τ.sl vs, XN⟩ ws [] S1 (Qe Q)) σ H Q → tLc (LI K Ex s) g (LT K EN tt) (LE K EN te) vs σ H Q :=
  fun σ H Q ⟨F, S, τ, Q3, R, Ev, h, k⟩ => ⟨F, S, τ, _, R, Ev, h, fun F1 S1 H1 ws J s1 R1 yl ⟨hz, h1⟩ => by
    intro D hD
    have gD := R1.freeG hD
    refine ⟨fun i m H' => ∃ F' S' xs us, Same F1.f F'.f ∧ F'.g = upd F1.g D (.lst xs) ∧ Rel K F' S' H' ∧ RepWs K F' us xs ∧ xs.length ≤ i ∧ m = ws.length - i ∧ i ≤ ws.length ∧ lcGo g3 tt te ⟨wipe3 τ.sl vs, XN⟩ (ws.drop i) us S' (Qe Q3), ⟨ws.length, ⟨upd F1.g D (.lst []), F1.f⟩, S1, [], [], fun _ _ e => e, rfl, R1.hide hD, .nil, Nat.le_refl _, rfl, Nat.zero_le _, h1⟩, ?_⟩
    rintro i m H' ⟨F2, S2, xs, us, s2, g2, R2, r2, hl, rfl, hi, h2⟩
    by_cases hlt : i < ws.length
    · rw [List.drop_eq_getElem_cons hlt] at h2
      refine .inr ⟨yl.go i H' F2 S2 s2 R2 hlt, fun H3 => ∃ F' S' xs us, Same F1.f F'.f ∧ F'.g = upd F1.g D (.lst xs) ∧ Rel K F' S' H3 ∧ RepWs K F' us xs ∧ xs.length ≤ i + 1 ∧ lcGo g3 tt te ⟨wipe3 τ.sl vs, XN⟩ (ws.drop (i + 1)) us S' (Qe Q3), ?_, fun x H3 hy => ?_⟩
      · rintro H3 ⟨F', S', xs', us', q1, q2, q3, q4, q5, q6⟩
        exact ⟨ws.length - (i + 1), by omega, F', S', xs', us', q1, q2, q3, q4, q5, rfl, hlt, q6⟩
      · obtain ⟨F3, w, hw, s3, R3, r3⟩ := yl.yld i H' F2 S2 x H3 s2 R2 hlt hy
        rw [List.getElem?_eq_getElem hlt] at hw
        cases hw
        have Ev3 : EnvR K F3 EN ⟨wipe3 τ.sl vs, XN⟩ (wipe σ vs) := ⟨sle_g (s1.f.trans (s2.trans s3.f)) (sl_wipe Ev.sl vs), fun _ _ _ _ _ _ _ _ _ _ _ _ _ _ z => z.elim⟩
        have z := lg F3 S2 ⟨wipe3 τ.sl vs, XN⟩ _ x (wipe σ vs) H3 _ (fun σ2 H2 => LT K EN tt σ2 H2 fun b H3 => if b = true then LE K EN te σ2 H3 fun y H4 => ∃ acc, H4 D = some (.lst acc) ∧ acc.length < sizeLine ∧ (∃ F' S' xs us, Same F1.f F'.f ∧ F'.g = upd F1.g D (.lst xs) ∧ Rel K F' S' (upd H4 D (.lst (acc ++ [y]))) ∧ RepWs K F' us xs ∧ xs.length ≤ i + 1 ∧ lcGo g3 tt te ⟨wipe3 τ.sl vs, XN⟩ (ws.drop (i + 1)) us S' (Qe Q3))
          else ∃ F' S' xs us, Same F1.f F'.f ∧ F'.g = upd F1.g D (.lst xs) ∧ Rel K F' S' H3 ∧ RepWs K F' us xs ∧ xs.length ≤ i + 1 ∧ lcGo g3 tt te ⟨wipe3 τ.sl vs, XN⟩ (ws.drop (i + 1)) us S' (Qe Q3)) R3 Ev3 r3 h2
          fun F4 S4 H4 τ4 σ4 s4 R4 Ev4 h4 => ⟨F4, S4, τ4, _, R4, Ev4, h4, fun F5 S5 H5 b s5 R5 ⟨h5, h6⟩ => by
            have g5 : F5.g = upd F1.g D (.lst xs) := by rw [s5.g, s4.g, s3.g, g2]
            have sf : Same F2.f F5.f := s3.f.trans (s4.f.trans s5.f)
            cases b with
            | true =>
              refine iteT ⟨F5, S5, τ4, _, R5, Ev4.mono s5, h5 rfl, fun F6 S6 H6 y v s6 R6 r6 h7 => ?_⟩
              have g6 : F6.g = upd F1.g D (.lst xs) := by rw [s6.g, g5]
              have gd : F6.g D = some (.lst xs) := by rw [g6, upd_same]
              refine ⟨xs, R6.hd D _ gd, Nat.lt_of_le_of_lt (Nat.le_trans hl (Nat.le_trans hi hz)) (by decide), ⟨upd F6.g D (.lst (xs ++ [v])), F6.f⟩, S6, xs ++ [v], us ++ [y], s2.trans (sf.trans s6.f), ?_, R6.rehide gd, ?_, by rw [List.length_append, List.length_singleton]; omega, h7⟩
              · show upd F6.g D _ = _
                rw [g6, upd_upd]
              · have r6' : RepW K ⟨upd F6.g D (.lst (xs ++ [v])), F6.f⟩ y v := repW_g r6
                exact rep_app (Paired.mapP r2 fun _ _ q => repW_g (q.mono1 (sf.trans s6.f))) (.cons r6' .nil)
            | false => exact iteF ⟨F5, S5, xs, us, s2.trans sf, g5, R5, Paired.mapP r2 fun _ _ q => q.mono1 sf, by omega, h6 rfl⟩⟩
        have z2 := wp _ _ _ _ z
        have e0 : wipe (wipe σ vs) vs = wipe σ vs := by
          have : ∀ us : List Nat, (∀ u ∈ us, u ∈ vs) → wipe (wipe σ us) vs = wipe σ vs := fun us => by
            induction us with
            | nil => intro _; rfl
            | cons u us ih =>
              intro hu
              show wipe ((wipe σ us).set u none) vs = _
              rw [wipe_set (hu u List.mem_cons_self)]
              exact ih fun q hq => hu q (List.mem_cons_of_mem _ hq)
          exact this vs fun _ h => h
        rw [e0] at z2
        exact z2
    · have e : i = ws.length := by omega
      subst e
      rw [List.drop_length] at h2
      exact .inl ⟨yl.stop _ H' F2 S2 s2 R2 (Nat.le_refl _), fin F1 F2 S2 H' D xs us Q3 Q gD s2 g2 R2 r2 h2 (k.mono s1)⟩⟩
theorem fin_D {K : PySem.W.Frag} (F F' : Fz) (S' : Sto) (H' : Hp) (D : Addr) (xs : List V) (us : List W) (Q3 : K3) (Q : VK) (h1 : F.g D = none) (h2 : Same F.f F'.f) (h3 : F'.g = upd F.g D (.lst xs)) (R : Rel K F' S' H') (r : RepWs K F' us xs) (q : ∃ ds : List PyData, us = ds.map W.d ∧ Q3 (.lst ds) S') (k : KE K F Q3 Q) : Q (.ref D) H' := by
  obtain ⟨ds, rfl, q⟩ := q
  obtain ⟨R2, s2⟩ := R.showF h1 h3
  exact k ⟨F.g, upd F'.f D (.lst xs)⟩ S' H' (.lst ds) _ ⟨rfl, h2.trans s2⟩ R2 (Dp.lst (.inl (.inl (show upd F'.f D (HO.lst xs) D = _ from upd_same))) (dpAll_mono s2 (all_of_repWs r))) q
theorem fin_M {K : PySem.W.Frag} (F F' : Fz) (S' : Sto) (H' : Hp) (D : Addr) (xs : List V) (us : List W) (Q3 : K3) (Q : VK) (h1 : F.g D = none) (h2 : Same F.f F'.f) (h3 : F'.g = upd F.g D (.lst xs)) (R : Rel K F' S' H') (r : RepWs K F' us xs) (q : ∀ p, S' p = none → Q3 (.r p) (put S' p (.lst us))) (k : KE K F Q3 Q) : Q (.ref D) H' := by
  obtain ⟨R2, hs⟩ := R.showS (q0 := .lst us) h1 h3 ⟨xs, rfl, r⟩
  exact k ⟨F.g, F'.f⟩ _ H' (.r D) _ ⟨rfl, h2⟩ R2 (show V.ref D = V.ref D from rfl) (q D hs)
structure PTs3 (X : Cx) (ifs : List Expr) (t : TT3) : Prop where
  h : PTs X ifs (LT X.K EN t)
def tYes3 : TT3 := fun _ S Q => Q true S
theorem pts3_nil {X : Cx} : PTs X [] (LT X.K EN tYes3) := ⟨fun pins s σ H Q I ⟨F, S, τ, Q3, R, Ev, h, k⟩ => pts_nil.run pins s σ H Q I (k F S H _ (Sm.refl F) R h)⟩
theorem pts3_one {X : Cx} {c : Expr} {t : TT3} (h : PT X c (LT X.K EN t)) : PTs X [c] (LT X.K EN t) := pts_one h
section
variable {X : Cx} {Ex : WX} {elt tg iter : Expr} {ifs : List Expr} {scope : Scope} {own : List (Str × Nat)} {pos : Pos} {s : TI3} {g3 : TG3} {g : TG} {tt : TT3} {te : TE3}
theorem pe3_lcD (own : List (Str × Nat)) (hc : X.calm = true) (hN : X.N.Nodup) (hi : PI X tg iter (LI X.K Ex s)) (ok : BlkOk X.N X.env.scope scope own) (lg : LGL X.K EN g3 g) (wp : Wp g (own.map (·.2)))
    (hg : ∀ (s : Shared) (H : Hp) (C : Addr) (cl : List (Str × Addr)) (fp : List Addr), PG (X.blk s H scope (compEnvC scope cl C X.env) fp) tg g)
    (ht : ∀ (s : Shared) (H : Hp) (C : Addr) (cl : List (Str × Addr)) (fp : List Addr), PTs (X.blk s H scope (compEnvC scope cl C X.env) fp) ifs (LT X.K EN tt))
    (he : ∀ (s : Shared) (H : Hp) (C : Addr) (cl : List (Str × Addr)) (fp : List Addr), PE (X.blk s H scope (compEnvC scope cl C X.env) fp) elt (LE X.K EN te)) (hs : ∀ x, foldedSetIterable iter X.env x = pure x := by intro _; rfl) :
    PE X (.ListComp elt [⟨tg, iter, ifs, 0⟩] scope pos) (LE X.K Ex (tLcD3 s g3 tt te (own.map (·.2)))) := pe_imp (pe_lc hc hN hi ok hg ht he hs) (le_lc lg wp fin_D)
theorem pe3_lcM (own : List (Str × Nat)) (hc : X.calm = true) (hN : X.N.Nodup) (hi : PI X tg iter (LI X.K Ex s)) (ok : BlkOk X.N X.env.scope scope own) (lg : LGL X.K EN g3 g) (wp : Wp g (own.map (·.2)))
    (hg : ∀ (s : Shared) (H : Hp) (C : Addr) (cl : List (Str × Addr)) (fp : List Addr), PG (X.blk s H scope (compEnvC scope cl C X.env) fp) tg g)
    (ht : ∀ (s : Shared) (H : Hp) (C : Addr) (cl : List (Str × Addr)) (fp : List Addr), PTs (X.blk s H scope (compEnvC scope cl C X.env) fp) ifs (LT X.K EN tt))
    (he : ∀ (s : Shared) (H : Hp) (C : Addr) (cl : List (Str × Addr)) (fp : List Addr), PE (X.blk s H scope (compEnvC scope cl C X.env) fp) elt (LE X.K EN te)) (hs : ∀ x, foldedSetIterable iter X.env x = pure x := by intro _; rfl) :
    PE X (.ListComp elt [⟨tg, iter, ifs, 0⟩] scope pos) (LE X.K Ex (tLcM3 s g3 tt te (own.map (·.2)))) := pe_imp (pe_lc hc hN hi ok hg ht he hs) (le_lc lg wp fin_M)
theorem ps3_setLcD (i : Nat) (own : List (Str × Nat)) {y : Str} {py spos : Pos} (hc : X.calm = true) (hN : X.N.Nodup) (hsw : swapsWith (.ListComp elt [⟨tg, iter, ifs, 0⟩] scope pos) (some (.Name y py)) spos.line X.env = pure true) (hi : PI X tg iter (LI X.K Ex s)) (ok : BlkOk X.N X.env.scope scope own) (lg : LGL X.K EN g3 g) (wp : Wp g (own.map (·.2)))
    (hg : ∀ (s : Shared) (H : Hp) (C : Addr) (cl : List (Str × Addr)) (fp : List Addr), PG (X.blk s H scope (compEnvC scope cl C X.env) fp) tg g)
    (ht : ∀ (s : Shared) (H : Hp) (C : Addr) (cl : List (Str × Addr)) (fp : List Addr), PTs (X.blk s H scope (compEnvC scope cl C X.env) fp) ifs (LT X.K EN tt))
    (he : ∀ (s : Shared) (H : Hp) (C : Addr) (cl : List (Str × Addr)) (fp : List Addr), PE (X.blk s H scope (compEnvC scope cl C X.env) fp) elt (LE X.K EN te)) (hy : X.N[i]? = some y := by rfl) (hyl : X.env.scope.names.lookup y = some .local := by rfl) (hs : ∀ x, foldedSetIterable iter X.env x = pure x := by intro _; rfl) :
    PS X (.Assign [.Name y py] (.ListComp elt [⟨tg, iter, ifs, 0⟩] scope pos) spos) (LS X.K Ex (tSet3 i (tLcD3 s g3 tt te (own.map (·.2))))) :=
  ps_imp (ps_setLc hc hN hy hyl hsw hi ok hg ht he hs) fun D σ H ⟨F, S, τ, D3, R, Ev, h, k⟩ => le_lc lg wp fin_D σ H _ ⟨F, S, τ, fun w S1 => D3.nx (τ.set i (some w)) S1, R, Ev, h, fun F1 S1 H1 w v s1 R1 r1 h1 => k.nx F1 S1 H1 _ _ s1 R1 ((Ev.mono s1).set r1) h1⟩
theorem ps3_setLcM (i : Nat) (own : List (Str × Nat)) {y : Str} {py spos : Pos} (hc : X.calm = true) (hN : X.N.Nodup) (hsw : swapsWith (.ListComp elt [⟨tg, iter, ifs, 0⟩] scope pos) (some (.Name y py)) spos.line X.env = pure true) (hi : PI X tg iter (LI X.K Ex s)) (ok : BlkOk X.N X.env.scope scope own) (lg : LGL X.K EN g3 g) (wp : Wp g (own.map (·.2)))
    (hg : ∀ (s : Shared) (H : Hp) (C : Addr) (cl : List (Str × Addr)) (fp : List Addr), PG (X.blk s H scope (compEnvC scope cl C X.env) fp) tg g)
    (ht : ∀ (s : Shared) (H : Hp) (C : Addr) (cl : List (Str × Addr)) (fp : List Addr), PTs (X.blk s H scope (compEnvC scope cl C X.env) fp) ifs (LT X.K EN tt))
    (he : ∀ (s : Shared) (H : Hp) (C : Addr) (cl : List (Str × Addr)) (fp : List Addr), PE (X.blk s H scope (compEnvC scope cl C X.env) fp) elt (LE X.K EN te)) (hy : X.N[i]? = some y := by rfl) (hyl : X.env.scope.names.lookup y = some .local := by rfl) (hs : ∀ x, foldedSetIterable iter X.env x = pure x := by intro _; rfl) :
    PS X (.Assign [.Name y py] (.ListComp elt [⟨tg, iter, ifs, 0⟩] scope pos) spos) (LS X.K Ex (tSet3 i (tLcM3 s g3 tt te (own.map (·.2))))) :=
  ps_imp (ps_setLc hc hN hy hyl hsw hi ok hg ht he hs) fun D σ H ⟨F, S, τ, D3, R, Ev, h, k⟩ => le_lc lg wp fin_M σ H _ ⟨F, S, τ, fun w S1 => D3.nx (τ.set i (some w)) S1, R, Ev, h, fun F1 S1 H1 w v s1 R1 r1 h1 => k.nx F1 S1 H1 _ _ s1 R1 ((Ev.mono s1).set r1) h1⟩
end
end H3

namespace H3
open PySem PySem.Spec L2
open PyProof.Rows hiding St

/-! ### a law's end -/
/-- the law's call of a script at a ends in True -/
def LawEnd (P : Program) (w : World) (fa a : Addr) (s : Shared) : Prop :=
  codeAny (model P w) callerA (.call (.ref fa) ⟨[.ref a], []⟩) (fun r z => r = .ok (.ret (.bool true)) ∧ OldK s.heap z.heap ∧ z.os = s.os ∧ AllBare z.gens) s
section
variable {P : Program} {w : World} {K : PySem.W.Frag} {mg mb : Str → Option Value} {k : Nat} {fa a : Addr} {fd : FuncData} {x : Str} {sp : Sp} {s₁ : Shared} {vs : List Value} {ns : List Int}
/-- from a heap in which the script alone may be tracked -/
theorem law_core {H : Hp} (KX : K.In s₁.heap) (hns : s₁.heap.Ns mainGlobals mg) (hb : s₁.heap.Ns builtinsNs mb) (hbb : ∀ x : Str, x ≠ "__name__" → mb x = bootBuiltins x) (hlim : s₁.heap.NoLimit) (hg : s₁.gens = #[])
    (ha : s₁.heap.get? a = some { cls := .type "list", data := .seq vs.toArray }) (hr : Room k callerA) (F : ∀ base : Heap, K.In base → base.Ns mainGlobals mg → FnG P w K mg base (L2.CX P w) k fa fd [x] sp)
    (hbind : ∀ (s : Shared) (u : Value), BindsTo s fd ⟨[u], []⟩ [(x, u)]) (hO : Only H) (hsp : sp [.ref a] H (fun v _ => v = .bl true) fun _ _ _ => False) (hok : HOk P w H s₁.heap) (hA : ∀ b, H b ≠ none → b = a) (hK : H a ≠ none → K.lookup a = none) :
    LawEnd P w fa a s₁ := by
  have inB : ∀ b o, s₁.heap.get? b = some o → (b = a → H a = none) → (hidT s₁.heap H).get? b = some o := fun b o e n => by
    apply hidT_get e
    cases q : H b with
    | none => rfl
    | some u =>
      have eb := hA b (by rw [q]; simp)
      rw [eb, n eb] at q
      cases q
  have dictB : ∀ {b : Addr} {m : Str → Option Value}, s₁.heap.Ns b m → (hidT s₁.heap H).Ns b m := by
    rintro b m ⟨o, es, ep, e, d, r⟩
    refine ⟨o, es, ep, inB b o e fun eb => ?_, d, r⟩
    subst eb
    rw [ha] at e
    cases e
    exact nomatch d
  have kB : K.In (hidT s₁.heap H) := fun b o e => inB b o (KX b o e) fun eb => by
    subst eb
    cases q : H b with
    | none => rfl
    | some u => rw [hK (by rw [q]; simp)] at e; cases e
  obtain ⟨mc, l1, l2⟩ := hlim
  have e0 : Env0 P w K mg (hidT s₁.heap H) callerA [] s₁ H :=
    { frames := rfl, mod := ⟨kB, dictB hns, ⟨mb, dictB hb, hbb⟩, ⟨mc, dictB l1, l2⟩⟩, bs := fun b o e => of_hidT e, bsz := Nat.le_of_eq (hidT_size _ _), funs := trivial, frf := fun b z => absurd z (by simp [frs]), hok := hok, bare := .of_eq hg }
  apply codeAny_mono ((F _ kB (dictB hns)).run callerA [] s₁ H ⟨[.ref a], []⟩ [.ref a] [.ref a] _ _ rfl hr e0 (hbind s₁ (.ref a)) (.cons rfl .nil) hsp)
  intro r s' h
  cases r with
  | error e =>
    exact (let ⟨_, _, _, _, _, _, _, _, _, _, _, _, no⟩ := h; no.elim)
  | ok fl =>
    cases fl with
    | next => exact h.elim
    | brk => exact h.elim
    | cont => exact h.elim
    | ret u =>
      obtain ⟨v, G, sky, bare, un, hok', r', q⟩ := h
      cases (show v = .bl true from q)
      cases (show u = Value.bool true from r')
      refine ⟨rfl, OldK.of_keep ?_, sky, bare⟩
      intro b o e
      rcases hO b with z | ⟨fo, us, z⟩
      · exact un.keep b o e z (by simp [frs]) (by simp)
      · obtain ⟨e1, _⟩ := hok b _ z
        obtain ⟨e2, _⟩ := hok' b _ (un.frzs b fo _ z)
        rw [e] at e1
        cases e1
        exact e2
theorem law_callG (KX : K.In s₁.heap) (hns : s₁.heap.Ns mainGlobals mg) (hb : s₁.heap.Ns builtinsNs mb) (hbb : ∀ x : Str, x ≠ "__name__" → mb x = bootBuiltins x) (hlim : s₁.heap.NoLimit) (hg : s₁.gens = #[])
    (ha : s₁.heap.get? a = some { cls := .type "list", data := .seq vs.toArray }) (hi : IntsAre vs ns) (hl : ns.length ≤ sizeLine) (hr : Room k callerA) (F : ∀ base : Heap, K.In base → base.Ns mainGlobals mg → FnG P w K mg base (L2.CX P w) k fa fd [x] sp)
    (hbind : ∀ (s : Shared) (u : Value), BindsTo s fd ⟨[u], []⟩ [(x, u)]) (hsp : ∀ H : Hp, Only H → SqL K H a (ns.map V.int) → sp [.ref a] H (fun v _ => v = .bl true) fun _ _ _ => False) :
    LawEnd P w fa a s₁ := by
  have rv := vals_ints hi
  cases hk : K.lookup a with
  | some o =>
    have e := KX a o hk
    rw [ha] at e
    cases e
    have hO : Only fun _ => none := fun _ => .inl rfl
    refine law_core (H := fun _ => none) KX hns hb hbb hlim hg ha hr F hbind hO (hsp _ hO (.inr ⟨_, vs.toArray, _, hk, rfl, rfl, rfl, ?_, by simpa using rv⟩)) (fun b u z => nomatch z) (fun b z => absurd rfl z) fun z => absurd rfl z
    rw [List.size_toArray]; rw [hi.length]
    exact hl
  | none =>
    have hO : Only fun b => if b = a then some (.frz { cls := .type "list", data := .seq vs.toArray } (.lst (ns.map V.int))) else none := fun b => by
      by_cases q : b = a
      · exact .inr ⟨_, _, if_pos q⟩
      · exact .inl (if_neg q)
    refine law_core (H := fun b => if b = a then some (.frz { cls := .type "list", data := .seq vs.toArray } (.lst (ns.map V.int))) else none) KX hns hb hbb hlim hg ha hr F hbind hO (hsp _ hO (.inl (.inr ⟨_, if_pos rfl⟩))) (fun b u z => ?_) (fun b z => ?_) fun _ => hk
    · by_cases q : b = a
      · have z' : some (HO.frz { cls := .type "list", data := .seq vs.toArray } (.lst (ns.map V.int))) = some u := (if_pos q).symm.trans z
        cases z'
        subst q
        exact ⟨ha, (List.length_map (as := ns) V.int).symm ▸ hl, vs, _, rv, ha⟩
      · exact nomatch (if_neg q).symm.trans z
    · by_cases q : b = a
      · exact q
      · exact absurd (if_neg q) z
end
/-- a law over values: from the script's ints -/
theorem walk3 {l : PySem.W.OpenLaw} {k : Nat} {q : Program} {loose : List Str} {XP : (Str → Option Value) → Heap → Prop} {YP : World → Heap → Prop} {d : DefRec} {x : Str} (hn : l.most = some 63) (hdf : d.params.defaults = []) (hr : Room k callerA) (sp : Sp3)
    (F : ∀ (w : World) (mg : Str → Option Value) (fa : Addr) (h : Heap), YP w h → h.Ns mainGlobals mg → mg d.name = some (.ref fa) → ∃ (K : PySem.W.Frag) (fd : FuncData), K.In h ∧ (∀ (s : Shared) (u : Value), BindsTo s fd ⟨[u], []⟩ [(x, u)]) ∧ ∀ base : Heap, K.In base → base.Ns mainGlobals mg → FnG l.prog w K mg base (L2.CX l.prog w) k fa fd [x] (LSp K sp))
    (hsp : ∀ ns : List Int, ns.length ≤ 63 → sp [.lst (ns.map PyData.int)] (fun _ => none) (fun w _ => w = .bl true) X0) :
    PySem.W.WalkO q loose XP YP l.row.toRowW d [] (fun g us => PySem.call g us) := by
  apply Att.attach_call hn hdf
  intro w s₀ s₁ mg mb fa o pm cd doc a vs ns G Y ho hd hcd hmg hobj hints hlen hg
  obtain ⟨K, fd, KX, hb, hF⟩ := F w mg fa _ Y G.T.g hmg
  refine law_callG KX G.T.g G.T.b G.T.builtins G.T.nolimit hg hobj hints (Nat.le_trans hlen (by decide)) hr hF hb fun H hO hS => ?_
  have da : ∀ ns : List Int, DpAll K H (ns.map V.int) (ns.map PyData.int) := fun ns => by
    induction ns with
    | nil => exact .nil
    | cons n ns ih => exact .cons (.int n) ih
  refine ⟨⟨fun _ => none, H⟩, fun _ => none, [.lst (ns.map PyData.int)], fun w _ => w = .bl true, X0, ⟨fun a o e => ⟨e, rfl, rfl⟩, (fun a p e => (nomatch e)), (fun a o e => (nomatch e))⟩, .cons (show Dp K H (.ref a) (.list (ns.map PyData.int)) from .lst hS (da ns)) .nil, hsp ns hlen, ?_, H3.KX.no⟩
  intro F' S' H' w v _ _ r q
  subst q
  exact rep_bl r
end H3

namespace H3
open PySem PySem.Spec L2
open PyProof.Rows hiding St

/-! ### tuple(range(..)), list(range(..)) -/
def rgD (a b : Int) : List PyData := (List.range (b - a).toNat).map fun i => PyData.int (a + (i : Nat))
theorem dp_rg {K : PySem.W.Frag} {F : Hp} {a b : Int} : DpAll K F (rgV a b) (rgD a b) := by
  unfold rgV rgD
  induction (List.range (b - a).toNat) with
  | nil => exact .nil
  | cons n ns ih => exact .cons (.int _) ih
section
variable {X : Cx} {Ex : WX} {a b : Expr} {ta tb : TE3}
def tRg13 (ta : TE3) : S3 → Sto → (Int → Int → Sto → Prop) → Prop := fun τ S Q => ta τ S fun w S1 => ∃ n, w = .int n ∧ Q 0 n S1
def tRg23 (ta tb : TE3) : S3 → Sto → (Int → Int → Sto → Prop) → Prop := fun τ S Q => ta τ S fun w S1 => tb τ S1 fun u S2 => ∃ i j, w = .int i ∧ u = .int j ∧ Q i j S2
def LR (K : PySem.W.Frag) (E : WX) (t : S3 → Sto → (Int → Int → Sto → Prop) → Prop) : St → Hp → (Int → Int → Hp → Prop) → Prop := fun σ H Q => ∃ F S τ Q3, Rel K F S H ∧ EnvR K F E τ σ ∧ t τ S Q3 ∧ ∀ F' S' H' i j, Sm F F' → Rel K F' S' H' → Q3 i j S' → Q i j H'
theorem prg_imp {e : Expr} {t u : St → Hp → (Int → Int → Hp → Prop) → Prop} (h : PRg X e t) (i : ∀ σ H Q, u σ H Q → t σ H Q) : PRg X e u := fun pins s σ H Q I q => h pins s σ H Q I (i _ _ _ q)
theorem prg3_1 {p pos : Pos} (hg : Gl X "range") (hm : X.mg "range" = none) (ha : PE X a (LE X.K Ex ta)) (na : starEach [a] X.env = (false, eval a X.env) :: starEach [] X.env := by rfl) : PRg X (.Call (.Name "range" p) [a] [] pos) (LR X.K Ex (tRg13 ta)) :=
  prg_imp (prg_1 hg hm ha na) fun σ H Q ⟨F, S, τ, Q3, R, Ev, h, k⟩ => ⟨F, S, τ, _, R, Ev, h, fun F1 S1 H1 w v s1 R1 r1 ⟨n, e, q⟩ => by
    subst e
    exact ⟨n, rep_int r1, k F1 S1 H1 _ _ s1 R1 q⟩⟩
theorem prg3_2 {p pos : Pos} (hg : Gl X "range") (hm : X.mg "range" = none) (ha : PE X a (LE X.K Ex ta)) (hb : PE X b (LE X.K Ex tb)) (na : starEach [a, b] X.env = (false, eval a X.env) :: starEach [b] X.env := by rfl) (nb : starEach [b] X.env = (false, eval b X.env) :: starEach [] X.env := by rfl) (hp : (backTo pos (starEach [b] X.env)).any (·.1) = false := by rfl) :
    PRg X (.Call (.Name "range" p) [a, b] [] pos) (LR X.K Ex (tRg23 ta tb)) :=
  prg_imp (prg_2 hg hm ha hb na nb hp) fun σ H Q ⟨F, S, τ, Q3, R, Ev, h, k⟩ => ⟨F, S, τ, _, R, Ev, h, fun F1 S1 H1 w v s1 R1 r1 h1 => ⟨F1, S1, τ, _, R1, Ev.mono s1, h1, fun F2 S2 H2 u y s2 R2 r2 ⟨i, j, e1, e2, q⟩ => by
    subst e1 e2
    exact ⟨i, j, rep_int r1, rep_int r2, k F2 S2 H2 _ _ (s1.trans s2) R2 q⟩⟩⟩
variable {e : Expr} {t : S3 → Sto → (Int → Int → Sto → Prop) → Prop}
def tTupRg3 (t : S3 → Sto → (Int → Int → Sto → Prop) → Prop) : TE3 := fun τ S Q => t τ S fun a b S1 => RgOk a b ∧ Q (.tup (rgD a b)) S1
def tLstRgD3 (t : S3 → Sto → (Int → Int → Sto → Prop) → Prop) : TE3 := fun τ S Q => t τ S fun a b S1 => RgOk a b ∧ Q (.lst (rgD a b)) S1
def tLstRgM3 (t : S3 → Sto → (Int → Int → Sto → Prop) → Prop) : TE3 := fun τ S Q => t τ S fun a b S1 => RgOk a b ∧ ∀ p, S1 p = none → Q (.r p) (put S1 p (.lst ((rgD a b).map W.d)))
theorem pe3_tupRg {p pos : Pos} (hc : X.calm = true) (hg : Gl X "tuple") (hm : X.mg "tuple" = none) (he : PRg X e (LR X.K Ex t)) (na : starEach [e] X.env = (false, eval e X.env) :: starEach [] X.env := by rfl) : PE X (.Call (.Name "tuple" p) [e] [] pos) (LE X.K Ex (tTupRg3 t)) :=
  pe_imp (pe_tupRgN hc hg hm he na) fun σ H Q ⟨F, S, τ, Q3, R, Ev, h, k⟩ => ⟨F, S, τ, _, R, Ev, h, fun F1 S1 H1 i j s1 R1 ⟨ok, q⟩ => ⟨ok, fun p o hp no => by
    obtain ⟨s, R', rw'⟩ := newTup R1 hp no dp_rg
    exact k _ _ _ _ _ (s1.trans s) R' rw' q⟩⟩
theorem pe3_lstRgD {p pos : Pos} (hc : X.calm = true) (hg : Gl X "list") (hm : X.mg "list" = none) (he : PRg X e (LR X.K Ex t)) (na : starEach [e] X.env = (false, eval e X.env) :: starEach [] X.env := by rfl) : PE X (.Call (.Name "list" p) [e] [] pos) (LE X.K Ex (tLstRgD3 t)) :=
  pe_imp (pe_listRg hc hg hm he na) fun σ H Q ⟨F, S, τ, Q3, R, Ev, h, k⟩ => ⟨F, S, τ, _, R, Ev, h, fun F1 S1 H1 i j s1 R1 ⟨ok, q⟩ => ⟨ok, fun p hp => by
    obtain ⟨s, R', rw'⟩ := newLst R1 hp dp_rg
    exact k _ _ _ _ _ (s1.trans s) R' rw' q⟩⟩
theorem pe3_lstRgM {p pos : Pos} (hc : X.calm = true) (hg : Gl X "list") (hm : X.mg "list" = none) (he : PRg X e (LR X.K Ex t)) (na : starEach [e] X.env = (false, eval e X.env) :: starEach [] X.env := by rfl) : PE X (.Call (.Name "list" p) [e] [] pos) (LE X.K Ex (tLstRgM3 t)) :=
  pe_imp (pe_listRg hc hg hm he na) fun σ H Q ⟨F, S, τ, Q3, R, Ev, h, k⟩ => ⟨F, S, τ, _, R, Ev, h, fun F1 S1 H1 i j s1 R1 ⟨ok, q⟩ => ⟨ok, fun p hp =>
    k _ _ _ (.r p) _ s1 (newMut R1 hp (repWs_of_all dp_rg)) (show V.ref p = V.ref p from rfl) (q p (R1.freeS hp))⟩⟩
end

/-! ### len(set(x)) of ints -/
theorem met_nodup (f : Nat → Int) : ∀ n, (firstMet f n).Nodup
  | 0 => List.nodup_nil
  | n + 1 => by
    rw [firstMet_succ]
    unfold step_dedup
    by_cases h : (firstMet f n).any (· == f n) = true
    · rw [if_pos h]; exact met_nodup f n
    · rw [if_neg h, List.nodup_append]
      refine ⟨met_nodup f n, by simp, ?_⟩
      intro x hx y hy
      cases List.mem_singleton.mp hy
      intro e
      exact h (List.any_eq_true.mpr ⟨x, hx, by simp [e]⟩)
theorem met_mem {ns : List Int} {k : Int} : k ∈ firstMet (fun i => ns.getD i 0) ns.length ↔ k ∈ ns := by
  have e := firstMet_any (fun i => ns.getD i 0) ns.length k
  have a1 : ∀ l : List Int, l.any (· == k) = true ↔ k ∈ l := fun l => by
    rw [List.any_eq_true]
    constructor
    · rintro ⟨x, hx, h⟩; rw [← beq_iff_eq.mp h]; exact hx
    · exact fun h => ⟨k, h, by simp⟩
  rw [← a1, e, a1]
  constructor
  · intro h
    obtain ⟨i, hi, h⟩ := List.mem_map.mp h
    have hi := List.mem_range.mp hi
    rw [← h, List.getD_eq_getElem?_getD, List.getElem?_eq_getElem hi]
    exact List.getElem_mem hi
  · intro h
    obtain ⟨i, hi, h⟩ := List.getElem_of_mem h
    refine List.mem_map.mpr ⟨i, List.mem_range.mpr hi, ?_⟩
    rw [List.getD_eq_getElem?_getD, List.getElem?_eq_getElem hi]; exact h
section
variable {X : Cx} {Ex : WX} {a : Expr}
def tLenSetV (K : PySem.W.Frag) (ta : TE) : TE := fun σ H Q => ta σ H fun x H1 => ∃ (l : Addr) (ns : List Int), x = V.ref l ∧ (SqL K H1 l (ns.map V.int) ∨ SqT K H1 l (ns.map V.int)) ∧ ns.length ≤ 1000 ∧ ∀ L : List Int, L.Nodup → (∀ k, k ∈ L ↔ k ∈ ns) → Q (.int L.length) H1
theorem pe_lenSetV {ta : TE} {p p2 q pos : Pos} (hc : X.calm = true) (hg : Gl X "len") (hm : X.mg "len" = none) (hg2 : Gl X "set") (hm2 : X.mg "set" = none) (ha : PE X a ta)
    (na : starEach [a] X.env = (false, eval a X.env) :: starEach [] X.env := by rfl) : PE X (.Call (.Name "len" p) [.Call (.Name "set" p2) [a] [] q] [] pos) (tLenSetV X.K ta) := by
  constructor
  intro pins s σ H Q I h
  refine Call_ (ld_blt I hg hm PySem.boot_len (callWith_builtin1 (args_cons (Call_ (ld_blt I hg2 hm2 boot_set (callWith_type1 (args_cons ?_ na) na rfl))) rfl) rfl rfl))
  refine thn (ha.run pins s σ H _ I h) (fun v s1 ⟨x, H1, I1, r1, l, ns, e, hq, hl, q1⟩ => args_nil ?_)
  subst e
  cases r1
  have fin : ∀ (h' : Heap) (tk n : Nat) (L : List Int), L.length = n → L.Nodup → (∀ k, k ∈ L ↔ k ∈ ns) → (∃ o es ep t, h'.get? s1.heap.objs.size = some o ∧ o.ExactSet ∧ o.data = .set es ep t ∧ t.fits es.size = true ∧ es.size = n) → n ≤ 1000 → (∀ b u, s1.heap.get? b = some u → h'.get? b = some u) →
      wpAny (model X.prog X.w) X.A (call (.builtin "len") [.ref s1.heap.objs.size]) (EP X pins σ Q) X.xe { s1 with heap := h', toks := tk } := by
    intro h' tk n L e1 nd mem ⟨o, es, ep, t, ho, hex, hd, hf, hn⟩ hn1 kp
    have J : Inv X pins σ H1 { s1 with heap := h', toks := tk } := I1.kept kp
    refine PySem.call_len_set ho hex hd hf (by rw [hn]; omega) ⟨.int L.length, H1, J.tok _, ⟨_, by rw [hn, e1]⟩, q1 L nd mem⟩
  rcases hq with hq | hq
  · obtain ⟨its, r, pl, _⟩ := I1.list hq
    have hi : IntsAre its.toArray.toList ns := ints_of_vals r
    have hl2 : its.toArray.size = ns.length := by rw [List.size_toArray, ← r.length, List.length_map]
    refine call_set_list (I1.ok.hd hc) pl.isList (ns := ns) hi (by unfold scanBound; omega) fun h' tk hS hk => ?_
    rw [hl2] at hS
    have table : ∃ o es ep t, h'.get? s1.heap.objs.size = some o ∧ o.ExactSet ∧ o.data = .set es ep t ∧ t.fits es.size = true ∧ es.size = _ := let ⟨o, es, ep, t, a1, a2, a3, _, _, _, a4, a5⟩ := hS; ⟨o, es, ep, t, a1, a2, a3, a4, a5⟩
    exact args_nil (fin h' tk _ _ rfl (met_nodup _ _) (fun k => met_mem) table (Nat.le_trans (firstMet_length_le _ _) hl) fun b u e => hk b u (Heap.lt_size e) e)
  · obtain ⟨its, r, pt, hz⟩ := I1.tuple hq
    have hi : IntsAre its.toArray.toList ns := ints_of_vals r
    refine call_set_tupI ns (I1.ok.hd hc) (show s1.heap.IsTuple l its.toArray from pt) hi (by unfold scanBound; omega) fun h' tk c R1 hcn k => ?_
    obtain ⟨o, es, ep, t, ho, hex, hd, g, nd, hm3, hb, hf, hn, _⟩ := R1
    exact args_nil (fin h' tk c (es.toList.map keyOf) (by rw [List.length_map, Array.length_toList]; exact hn) nd (fun j => by rw [← hm3 j]; simp) ⟨o, es, ep, t, ho, hex, hd, hf, hn⟩ (Nat.le_trans hcn hl) k)
variable {ta : TE3}
def tLenSet3 (ta : TE3) : TE3 := fun τ S Q => ta τ S fun w S1 => ∃ ns : List Int, itemsW S1 w = some (ns.map PyData.int) ∧ ns.length ≤ 1000 ∧ ∀ L : List Int, L.Nodup → (∀ k, k ∈ L ↔ k ∈ ns) → Q (.int L.length) S1
theorem pe3_lenSet {p p2 q pos : Pos} (hc : X.calm = true) (hg : Gl X "len") (hm : X.mg "len" = none) (hg2 : Gl X "set") (hm2 : X.mg "set" = none) (ha : PE X a (LE X.K Ex ta))
    (na : starEach [a] X.env = (false, eval a X.env) :: starEach [] X.env := by rfl) : PE X (.Call (.Name "len" p) [.Call (.Name "set" p2) [a] [] q] [] pos) (LE X.K Ex (tLenSet3 ta)) :=
  pe_imp (pe_lenSetV hc hg hm hg2 hm2 ha na) fun σ H Q ⟨F, S, τ, Q3, R, Ev, h, k⟩ => ⟨F, S, τ, _, R, Ev, h, fun F1 S1 H1 w v s1 R1 r1 ⟨ns, e, hl, q⟩ => by
    obtain ⟨a, vs, rfl, hs, ha, _⟩ := items_rep R1 r1 e
    have e2 := ints_of ha
    subst e2
    exact ⟨a, ns, rfl, hs.imp id And.left, hl, fun L h1 h2 => k F1 S1 H1 _ _ s1 R1 mk_int (q L h1 h2)⟩⟩
end

/-! ### is True, is False; x in xs -/
section
variable {X : Cx} {K : PySem.W.Frag}
def gIsB : R3 := fun w u S Q => ∃ a b, w = .bl a ∧ u = .bl b ∧ Q (.bl (decide (a = b))) S
theorem l_isB : OpL K gIsB rIsB := fun F S H w u x y Q3 Q R rw ru ⟨a, b, e1, e2, q⟩ k => by
  subst e1 e2
  exact ⟨a, b, rep_bl rw, rep_bl ru, k F S H _ _ (Sm.refl F) R mk_bl q⟩
def gNotB : R3 := fun w u S Q => ∃ a b, w = .bl a ∧ u = .bl b ∧ Q (.bl (!decide (a = b))) S
theorem l_notB : OpL K gNotB rNotB := fun F S H w u x y Q3 Q R rw ru ⟨a, b, e1, e2, q⟩ k => by
  subst e1 e2
  exact ⟨a, b, rep_bl rw, rep_bl ru, k F S H _ _ (Sm.refl F) R mk_bl q⟩
/-- x in a list or tuple of data -/
def rInV (K : PySem.W.Frag) (neg : Bool) : R2 := fun x y H Q => ∃ d ds, L2.Dp K H x d ∧ (L2.Dp K H y (.list ds) ∨ L2.Dp K H y (.tuple ds)) ∧ SeqAt.shaped d = true ∧ PyData.canLayAll0 ds = true ∧ Q (.bl (if neg then !ds.any fun z => PyData.eqv z d else ds.any fun z => PyData.eqv z d)) H
theorem room_in {A : Around} {d : PyData} {n : Nat} (h : SeqAt.shaped d = true) (hu : A.units + 70 < cLine) : A.units + 1 + min n d.depth < cLine := by
  have h1 := SeqAt.depth_of_shaped h
  have h2 := Nat.min_le_right n d.depth
  omega
theorem op_inV (hu : X.A.units + 70 < cLine) : OpR X (compareOp .In) (rInV X.K false) := by
  rintro pins s σ H x y v u Q I rx ry ⟨d, ds, hd, he, sd, se, q⟩
  obtain ⟨as, r1⟩ := L2.Dp.reads I d x v hd rx
  rcases he with he | he
  · obtain ⟨bs, r2⟩ := L2.Dp.reads I _ y u he ry
    exact SeqAt.in_list_reads r2 r1 se (SeqAt.canLay_of_shaped sd) (room_in sd hu) ⟨.bl _, H, I, rfl, q⟩
  · obtain ⟨bs, r2⟩ := L2.Dp.reads I _ y u he ry
    exact SeqAt.in_tuple_reads r2 r1 se (SeqAt.canLay_of_shaped sd) (room_in sd hu) ⟨.bl _, H, I, rfl, q⟩
theorem op_notInV (hu : X.A.units + 70 < cLine) : OpR X (compareOp .NotIn) (rInV X.K true) := by
  rintro pins s σ H x y v u Q I rx ry ⟨d, ds, hd, he, sd, se, q⟩
  obtain ⟨as, r1⟩ := L2.Dp.reads I d x v hd rx
  rcases he with he | he
  · obtain ⟨bs, r2⟩ := L2.Dp.reads I _ y u he ry
    exact SeqAt.notIn_list_reads r2 r1 se (SeqAt.canLay_of_shaped sd) (room_in sd hu) ⟨.bl _, H, I, rfl, q⟩
  · obtain ⟨bs, r2⟩ := L2.Dp.reads I _ y u he ry
    exact SeqAt.notIn_tuple_reads r2 r1 se (SeqAt.canLay_of_shaped sd) (room_in sd hu) ⟨.bl _, H, I, rfl, q⟩
def gIn (neg : Bool) : R3 := fun w u S Q => ∃ d ds, viewW S w = some d ∧ itemsW S u = some ds ∧ SeqAt.shaped d = true ∧ PyData.canLayAll0 ds = true ∧ Q (.bl (if neg then !ds.any fun z => PyData.eqv z d else ds.any fun z => PyData.eqv z d)) S
theorem items_dp {F : Fz} {S : Sto} {H : Hp} {w : W} {v : V} {ds : List PyData} (R : Rel K F S H) (r : RepW K F w v) (h : itemsW S w = some ds) : L2.Dp K H v (.list ds) ∨ L2.Dp K H v (.tuple ds) := by
  unfold itemsW at h
  cases e : viewW S w with
  | none => rw [e] at h; exact nomatch h
  | some x =>
    rw [e] at h
    have z := view_rep R r e
    cases x with
    | list l => cases h; exact .inl z
    | tuple l => cases h; exact .inr z
    | none => cases h
    | bool => cases h
    | int => cases h
    | str => cases h
    | dict => cases h
theorem l_in {neg : Bool} : OpL K (gIn neg) (rInV K neg) := fun F S H w u x y Q3 Q R rw ru ⟨d, ds, e1, e2, s1, s2, q⟩ k =>
  ⟨d, ds, view_rep R rw e1, items_dp R ru e2, s1, s2, k F S H _ _ (Sm.refl F) R mk_bl q⟩
/-- a text in a text -/
def gInS (neg : Bool) : R3 := fun w u S Q => ∃ i j, w = .str i ∧ u = .str j ∧ Q (.bl (if neg then !(!(Builtin.Str.occurrences j i 0 j.length 1).isEmpty) else !(Builtin.Str.occurrences j i 0 j.length 1).isEmpty)) S
theorem l_inS : OpL K (gInS false) (fun x y H Q => ∃ i j, x = .str i ∧ y = .str j ∧ Q (.bl (!(Builtin.Str.occurrences j i 0 j.length 1).isEmpty)) H) := fun F S H w u x y Q3 Q R rw ru ⟨i, j, e1, e2, q⟩ k => by
  subst e1 e2
  exact ⟨i, j, rep_str rw, rep_str ru, k F S H _ _ (Sm.refl F) R mk_bl q⟩
/-- lists joined to a new one, to stay -/
def gCat : R3 := fun w u S Q => ∃ ds es : List PyData, viewW S w = some (.list ds) ∧ viewW S u = some (.list es) ∧ ds.length + es.length ≤ 1000000 ∧ Q (.lst (ds ++ es)) S
/-- tuples joined -/
def gCatT : R3 := fun w u S Q => ∃ ds es : List PyData, w = .tup ds ∧ u = .tup es ∧ ds.length + es.length ≤ 1000000 ∧ Q (.tup (ds ++ es)) S
theorem dpAll_app {F : Hp} : ∀ {vs us : List V} {ds es : List PyData}, DpAll K F vs ds → DpAll K F us es → DpAll K F (vs ++ us) (ds ++ es)
  | _, _, _, _, .nil, h => h
  | _, _, _, _, .cons a t, h => .cons a (dpAll_app t h)
theorem l_catT : OpL K gCatT (rCatN K) := fun F S H w u x y Q3 Q R rw ru ⟨ds, es, e1, e2, hl, q⟩ k => by
  subst e1 e2
  obtain ⟨_, a, vs, rfl, hs, ha⟩ := tup_rep R rw rfl
  obtain ⟨_, b, us, rfl, hb, hc⟩ := tup_rep R ru rfl
  have l1 := dpAll_len ha
  have l2 := dpAll_len hc
  refine ⟨a, b, vs, us, rfl, rfl, hs, hb, by rw [l1, l2]; exact Nat.le_trans hl (by decide), fun hx => ?_, fun hx hy => ?_, fun hx hy p o hp no => ?_⟩
  · subst hx
    cases ha
    exact k F S H _ _ (Sm.refl F) R ru q
  · subst hy
    cases hc
    rw [List.append_nil] at q
    exact k F S H _ _ (Sm.refl F) R rw q
  · obtain ⟨s, R', rw'⟩ := newTup R hp no (dpAll_app ha hc)
    exact k _ _ _ _ _ s R' rw' q
end
end H3

namespace H3
open PySem PySem.Spec L2
open PyProof.Rows hiding St

section
variable {X : Cx} {Ex : WX} {e : Expr} {te : TE3} {pos : Pos}
def tNeg3 (t : TE3) : TE3 := fun τ S Q => t τ S fun w S1 => ∃ i, w = .int i ∧ Q (.int (-i)) S1
theorem pe3_neg (he : PE X e (LE X.K Ex te)) : PE X (.UnaryOp .USub e pos) (LE X.K Ex (tNeg3 te)) :=
  pe_imp (pe_un un_neg he) fun σ H Q ⟨F, S, τ, Q3, R, Ev, h, k⟩ => ⟨F, S, τ, _, R, Ev, h, fun F1 S1 H1 w x s1 R1 r1 ⟨i, e, q⟩ => by
    subst e
    exact ⟨i, rep_int r1, k F1 S1 H1 _ _ s1 R1 mk_int q⟩⟩
/-- xs[::-1], to be changed -/
def tRevM3 (te : TE3) : TE3 := fun τ S Q => te τ S fun w S1 => ∃ ws, (∃ ds, w = .lst ds ∧ ws = ds.map W.d) ∧ ∀ p, S1 p = none → Q (.r p) (put S1 p (.lst ws.reverse))
theorem pe3_revM {k : Nat} {p1 p2 p3 : Pos} (he : PE X e (LE X.K Ex te)) : PE X (.Subscript e (.Slice none none (some (.UnaryOp .USub (.Constant (.int 1) k p1) p2)) p3) pos) (LE X.K Ex (tRevM3 te)) :=
  pe_imp (pe_revL he) fun σ H Q ⟨F, S, τ, Q3, R, Ev, h, k⟩ => ⟨F, S, τ, _, R, Ev, h, fun F1 S1 H1 w x s1 R1 r1 ⟨ws, ⟨ds, e, e2⟩, q⟩ => by
    subst e e2
    obtain ⟨a, vs, rfl, hs, ha, _⟩ := list_rep R1 r1 (show viewW S1 (.lst ds) = some (.list ds) from rfl)
    refine ⟨a, vs, rfl, hs, fun p hp => ?_⟩
    rw [← List.map_reverse] at q
    exact k _ _ _ (.r p) _ s1 (newMut R1 hp (repWs_of_all (dpAll_rev ha))) (show V.ref p = V.ref p from rfl) (q p (R1.freeS hp))⟩
/-- three names at once -/
def tPar33 (i j l : Nat) (ta : TA3) : TS3 := fun D τ S => ta τ S fun ws S1 => ∃ u v w, ws = [u, v, w] ∧ D.nx (((τ.set i (some u)).set j (some v)).set l (some w)) S1
theorem ps3_par3 (i j l : Nat) {x y z : Str} {a b c : Expr} {ta : TA3} {px py pz pt : Pos} {kt k2 pt2} (hc : X.calm = true) (hN : X.N.Nodup) (ha : PA X [a, b, c] (LA X.K Ex ta)) (hi : X.N[i]? = some x := by rfl) (hj : X.N[j]? = some y := by rfl) (hl : X.N[l]? = some z := by rfl)
    (hij : i ≠ j := by decide) (hil : i ≠ l := by decide) (hjl : j ≠ l := by decide) (hx : X.env.scope.names.lookup x = some .local := by rfl) (hy : X.env.scope.names.lookup y = some .local := by rfl) (hz : X.env.scope.names.lookup z = some .local := by rfl)
    (hw : swappedStores [.Tuple [.Name x px, .Name y py, .Name z pz] kt pt] (.Tuple [a, b, c] k2 pt2) X.env = pure (some [x, y, z]) := by rfl) (hs : swapsWithSole [.Tuple [.Name x px, .Name y py, .Name z pz] kt pt] (.Tuple [a, b, c] k2 pt2) pos.line X.env = pure false := by rfl) :
    PS X (.Assign [.Tuple [.Name x px, .Name y py, .Name z pz] kt pt] (.Tuple [a, b, c] k2 pt2) pos) (LS X.K Ex (tPar33 i j l ta)) :=
  ps_imp (L2.ps_par3 hc hN hi hj hl hij hil hjl hx hy hz ha hw hs) fun D σ H ⟨F, S, τ, D3, R, Ev, h, k⟩ => ⟨F, S, τ, _, R, Ev, h, fun F1 S1 H1 ws vs s1 R1 r1 ⟨u, v, w, e, h1⟩ => by
    subst e
    cases r1 with
    | cons a t =>
      obtain ⟨v', w', rfl, rv, rw⟩ := ws2 t
      exact ⟨_, v', w', rfl, k.nx F1 S1 H1 _ _ s1 R1 ((((Ev.mono s1).set a).set rv).set rw) h1⟩⟩
/-- how many values names take -/
class GLen (gs : TGs3) (n : Nat) : Prop where
  h : ∀ ws τ S Q, gs ws τ S Q → ws.length = n
instance : GLen gNil3 0 := ⟨fun ws τ S Q ⟨e, _⟩ => by rw [e]; rfl⟩
instance {i : Nat} {gs : TGs3} {n : Nat} [h : GLen gs n] : GLen (gCons3 (gName3 i) gs) (n + 1) := ⟨fun ws τ S Q ⟨w, r, e, q⟩ => by rw [e, List.length_cons, h.h _ _ _ _ q]⟩
theorem unp_len {gs : TGs3} {n : Nat} [h : GLen gs n] {ws : List W} {τ : S3} {S : Sto} {Q : S3 → Sto → Prop} (q : gs ws τ S Q) : ws.length = n := h.h _ _ _ _ q
end

/-! ### steps of a proof over readings -/
/-- a promise is not opened while it is met -/
structure Bx (p : Prop) : Prop where
  h : p
/-- a store that differs at these places alone -/
def Upto (as : List Addr) (S S' : Sto) : Prop := ∀ b, b ∉ as → S' b = S b
theorem Upto.refl {as : List Addr} {S : Sto} : Upto as S S := fun _ _ => rfl
theorem Upto.trans {as : List Addr} {S S1 S2 : Sto} (a : Upto as S S1) (b : Upto as S1 S2) : Upto as S S2 := fun c h => (b c h).trans (a c h)
theorem Upto.put {as : List Addr} {S S1 : Sto} {a : Addr} {o : SO} (u : Upto as S S1) (h : a ∈ as) : Upto as S (put S1 a o) := fun c hc => by
  rw [put_ne (fun e => hc (by rw [e]; exact h))]; exact u c hc
/-- a loop by an invariant over the turns -/
theorem forGo_inv {g : TG3} {tb : TS3} {D : Ends3} {ws : List W} {τ : S3} {S : Sto} (P : Nat → S3 → Sto → Prop) (h0 : P 0 τ S)
    (hs : ∀ i w τ S, ws[i]? = some w → P i τ S → g w τ S fun τ2 S2 => tb { D with nx := P (i + 1), ct := P (i + 1), bk := D.nx } τ2 S2) (hd : ∀ τ S, P ws.length τ S → D.nx τ S) : forGo g tb D ws τ S := by
  have aux : ∀ (us : List W) (k : Nat) (τ : S3) (S : Sto), (∀ j, us[j]? = ws[k + j]?) → k + us.length = ws.length → P k τ S → forGo g tb D us τ S := fun us => by
    induction us with
    | nil =>
      intro k τ S _ hl p
      have : k = ws.length := by simpa using hl
      subst this
      exact hd τ S p
    | cons w us ih =>
      intro k τ S hj hl p
      refine ⟨P (k + 1), fun τ' S' p' => ih (k + 1) τ' S' (fun j => ?_) (by rw [List.length_cons] at hl; omega) p', hs k w τ S ?_ p⟩
      · have := hj (j + 1)
        rw [List.getElem?_cons_succ] at this
        rw [this]; congr 1; omega
      · have := hj 0
        rw [List.getElem?_cons_zero] at this
        exact this.symm
  exact aux ws 0 τ S (fun j => by rw [Nat.zero_add]) (by simp) h0
/-- a comprehension by an invariant: acc is what is made so far -/
theorem lcGo_inv {g : TG3} {tt : TT3} {te : TE3} {τ0 : S3} {ws : List W} {S : Sto} {Q : List W → Sto → Prop} (P : Nat → List W → Sto → Prop) (h0 : P 0 [] S)
    (hs : ∀ i w acc S, ws[i]? = some w → P i acc S → g w τ0 S fun τ2 S2 => tt τ2 S2 fun b S3 => (b = true → te τ2 S3 fun y S4 => P (i + 1) (acc ++ [y]) S4) ∧ (b = false → P (i + 1) acc S3))
    (mg : ∀ w τ S (A B : S3 → Sto → Prop), (∀ τ S, A τ S → B τ S) → g w τ S A → g w τ S B) (mt : ∀ τ S (A B : Bool → Sto → Prop), (∀ b S, A b S → B b S) → tt τ S A → tt τ S B) (me : ∀ τ S (A B : K3), (∀ w S, A w S → B w S) → te τ S A → te τ S B)
    (hd : ∀ acc S, P ws.length acc S → Q acc S) : lcGo g tt te τ0 ws [] S Q := by
  have aux : ∀ (us : List W) (k : Nat) (acc : List W) (S : Sto), (∀ j, us[j]? = ws[k + j]?) → k + us.length = ws.length → P k acc S → lcGo g tt te τ0 us acc S Q := fun us => by
    induction us with
    | nil =>
      intro k acc S _ hl p
      have : k = ws.length := by simpa using hl
      subst this
      exact hd acc S p
    | cons w us ih =>
      intro k acc S hj hl p
      have hl' : k + 1 + us.length = ws.length := by rw [List.length_cons] at hl; omega
      have hj' : ∀ j, us[j]? = ws[k + 1 + j]? := fun j => by
        have := hj (j + 1)
        rw [List.getElem?_cons_succ] at this
        rw [this]; congr 1; omega
      have h0 : ws[k]? = some w := by
        have := hj 0
        rw [List.getElem?_cons_zero] at this
        exact this.symm
      exact mg w τ0 S _ _ (fun τ2 S2 h => mt τ2 S2 _ _ (fun b S3 ⟨h1, h2⟩ => ⟨fun e => me τ2 S3 _ _ (fun y S4 p => ih (k + 1) _ S4 hj' hl' p) (h1 e), fun e => ih (k + 1) acc S3 hj' hl' (h2 e)⟩) h) (hs k w acc S h0 p)
  exact aux ws 0 [] S (fun j => by rw [Nat.zero_add]) (by simp) h0
/-- a comprehension of pure things over one name: filter by p, map by f -/
theorem lcGo_pure {i : Nat} {tt : TT3} {te : TE3} {τ0 : S3} {S : Sto} {Q : List W → Sto → Prop} (p : W → Bool) (f : W → W) : ∀ {ws : List W} {acc : List W}, (∀ w ∈ ws, ∀ A : Bool → Sto → Prop, A (p w) S → tt (τ0.set i (some w)) S A) → (∀ w ∈ ws, p w = true → ∀ A : K3, A (f w) S → te (τ0.set i (some w)) S A) →
    Q (acc ++ (ws.filter p).map f) S → lcGo (gName3 i) tt te τ0 ws acc S Q
  | [], acc, _, _, q => by
    have q : Q (acc ++ []) S := q
    rw [List.append_nil] at q
    exact q
  | w :: ws, acc, ht, he, q => by
    refine ht w List.mem_cons_self _ ⟨fun e => he w List.mem_cons_self e _ ?_, fun e => ?_⟩
    · refine lcGo_pure p f (fun w h => ht w (List.mem_cons_of_mem _ h)) (fun w h => he w (List.mem_cons_of_mem _ h)) ?_
      rw [List.filter_cons, if_pos e, List.map_cons] at q
      rw [List.append_assoc]
      exact q
    · refine lcGo_pure p f (fun w h => ht w (List.mem_cons_of_mem _ h)) (fun w h => he w (List.mem_cons_of_mem _ h)) ?_
      rw [List.filter_cons, if_neg (by rw [e]; exact Bool.false_ne_true)] at q
      exact q
theorem map_filter_true {α β : Type} (f : α → β) (l : List α) : (l.filter fun _ => true).map f = l.map f := by
  rw [List.filter_eq_self.mpr]; intro _ _; rfl
/-- .. without a test -/
theorem lcGo_map {i : Nat} {te : TE3} {τ0 : S3} {S : Sto} {Q : List W → Sto → Prop} (f : W → W) {ws acc : List W} (he : ∀ w ∈ ws, ∀ A : K3, A (f w) S → te (τ0.set i (some w)) S A) (q : Q (acc ++ ws.map f) S) : lcGo (gName3 i) tYes3 te τ0 ws acc S Q :=
  lcGo_pure (fun _ => true) f (fun _ _ _ a => a) (fun w h _ => he w h) (by rw [map_filter_true]; exact q)
end H3

namespace H3
open PySem PySem.Spec L2
open PyProof.Rows hiding St

/-! ### a law's draws -/
theorem ixW_r {S : Sto} {a : Addr} {ws : List W} {i : Int} (h : S a = some (.lst ws)) : ixW S i (.r a) = atI ws i := by
  show ((match S a with | some (.lst ws) => some ws | _ => none).bind fun ws => atI ws i) = _
  rw [h]; rfl
theorem isLst_r {S : Sto} {a : Addr} {ws : List W} (h : S a = some (.lst ws)) : isLst S (.r a) := .inr ⟨a, ws, rfl, h⟩
theorem lenW_r {S : Sto} {a : Addr} {ws : List W} (h : S a = some (.lst ws)) : lenW S (.r a) = some ws.length := by
  show ((match S a with | some (.lst ws) => some ws | _ => none).map List.length) = _
  rw [h]; rfl
theorem canLayAll_map {α : Type} (f : α → PyData) (h : ∀ x, (f x).canLay0 = true) : ∀ l : List α, PyData.canLayAll0 (l.map f) = true
  | [] => rfl
  | x :: l => by
    show (PyData.canLay0 (f x) && PyData.canLayAll0 (l.map f)) = true
    rw [h x, canLayAll_map f h l]; rfl
theorem depthAll_flat : ∀ l : List Int, PyData.depthAll (l.map PyData.int) = 0
  | [] => rfl
  | n :: l => by
    show max (PyData.depth (.int n)) (PyData.depthAll (l.map PyData.int)) = 0
    rw [depthAll_flat l]; rfl
theorem shaped_intsL (ns : List Int) : SeqAt.shaped (.list (ns.map PyData.int)) = true := by
  unfold SeqAt.shaped
  rw [show PyData.canLay0 (.list (ns.map PyData.int)) = PyData.canLayAll0 (ns.map PyData.int) from rfl, canLayAll_map _ (fun _ => rfl)]
  rw [show PyData.depth (.list (ns.map PyData.int)) = PyData.depthAll (ns.map PyData.int) + 1 from rfl, depthAll_flat]
  rfl
theorem shaped_intsT (ns : List Int) : SeqAt.shaped (.tuple (ns.map PyData.int)) = true := shaped_intsL ns
theorem eqv_int {a b : Int} : PyData.eqv (.int a) (.int b) = decide (a = b) := by
  show (a == b) = _
  rw [Bool.eq_iff_iff]; simp
theorem mw_ints (ns : List Int) : (ns.map PyData.int).map W.d = ns.map W.int := by rw [List.map_map]; rfl
theorem atI_nat {α : Type} {xs : List α} {i : Nat} {x : α} (h : xs[i]? = some x) : atI xs (i : Int) = some x := by
  have hl := (List.getElem?_eq_some_iff.mp h).1
  unfold atI ixN
  rw [if_pos (show (0 : Int) ≤ i by omega), if_pos (show (i : Int) < xs.length by omega)]
  exact h
theorem atI_of {α : Type} {xs : List α} {i : Int} (h0 : 0 ≤ i) (h : i < xs.length) : ∃ x, xs[i.toNat]? = some x ∧ atI xs i = some x := by
  have hl : i.toNat < xs.length := by omega
  refine ⟨xs[i.toNat], List.getElem?_eq_getElem hl, ?_⟩
  have z := atI_nat (List.getElem?_eq_getElem hl)
  rw [show ((i.toNat : Nat) : Int) = i by omega] at z
  exact z
theorem atI_last {α : Type} {xs : List α} {x : α} (h : xs[xs.length - 1]? = some x) : atI xs (-1) = some x := by
  have hl := (List.getElem?_eq_some_iff.mp h).1
  unfold atI ixN
  rw [if_neg (by omega), if_pos (by omega)]
  show xs[(-1 + (xs.length : Int)).toNat]? = _
  rw [show (-1 + (xs.length : Int)).toNat = xs.length - 1 by omega]
  exact h
def rb_law_deal_0 : TS3 := (tSet3 3 (tOp3 gMod (tCB3 gInt (tCons3 (tOp3 gAdd (tOp3 gAdd (tOp3 gMul (tVar3 3) (tC3 (.int 48271))) (tOp3 gMod (tVar3 4) (tC3 (.int 2147483579)))) (tC3 (.int 61))) tNil3)) (tC3 (.int 2147483647))))
def rd_law_deal : TS3 := (tSeq3 (tSet3 2 (tLcD3 (tSeqI3 (tSl3 gSlL (tVar3 0) tNoP3 (tPart3 (tC3 (.int 63))))) (gName3 4) tYes3 (tCB3 gAbs (tCons3 (tCB3 gInt (tCons3 (tVar3 4) tNil3)) tNil3)) [4])) (tSeq3 (tSet3 3 (tOp3 gAdd (tOp3 gMul (tC3 (.int 40127)) (tVar3 1)) (tC3 (.int 863)))) (tSeq3 (tFor3 (tSeqI3 (tVar3 2)) (gName3 4) rb_law_deal_0) (tRet3 (tLstM3 (tCons3 (tRevM3 (tLcD3 (tSeqI3 (tVar3 2)) (gName3 4) (tB3 (tOp3 gGe (tVar3 4) (tOp3 gPow (tC3 (.int 10)) (tC3 (.int 18))))) (tVar3 4) [4])) (tCons3 (tVar3 3) tNil3)))))))
def rd_law_any : TS3 := (tSeq3 (tWhile3 (tAnd3 (tB3 (tOp3 gNe (tOp3 gIx (tVar3 0) (tC3 (.int 0))) (tLstD3 tNil3))) (tB3 (tOp3 gEq (tOp3 gIx (tOp3 gIx (tVar3 0) (tC3 (.int 0))) (tNeg3 (tC3 (.int 1)))) (tC3 (.int 0))))) (tDrop3 (tBM03 gPop (tOp3 gIx (tVar3 0) (tC3 (.int 0)))))) (tSeq3 (tIf3 (tB3 (tOp3 gNe (tOp3 gIx (tVar3 0) (tC3 (.int 0))) (tLstD3 tNil3))) (tSeq3 (tSet3 2 (tCB3 gInt (tCons3 (tBM03 gPop (tOp3 gIx (tVar3 0) (tC3 (.int 0)))) tNil3))) (tSeq3 (tDrop3 (tBM3 gAppend (tOp3 gIx (tVar3 0) (tC3 (.int 0))) (tCons3 (tOp3 gDiv (tVar3 2) (tVar3 1)) tNil3))) (tRet3 (tOp3 gMod (tVar3 2) (tVar3 1))))) tNext3) (tSeq3 (tAsg3 (tOp3 gMod (tCB3 gInt (tCons3 (tOp3 gAdd (tOp3 gMul (tOp3 gIx (tVar3 0) (tC3 (.int 1))) (tC3 (.int 48271))) (tC3 (.int 83))) tNil3)) (tC3 (.int 2147483647))) (gSub3 (tVar3 0) (tC3 (.int 1)) gSetL)) (tRet3 (tOp3 gMod (tCB3 gInt (tCons3 (tOp3 gDiv (tOp3 gIx (tVar3 0) (tC3 (.int 1))) (tC3 (.int 64))) tNil3)) (tVar3 1))))))
--DEAL
/-- a deal: the list at dl holds a list of ints at d1, and a number -/
structure Deal (S : Sto) (dl d1 : Addr) : Prop where
  ne : dl ≠ d1
  top : ∃ m : Int, S dl = some (.lst [.r d1, .int m])
  low : ∃ ns : List Int, ns.length ≤ 63 ∧ S d1 = some (.lst (ns.map W.int))
theorem Deal.up {S S' : Sto} {dl d1 a : Addr} (h : Deal S dl d1) (u : ∀ b, b = dl ∨ b = d1 → S' b = S b) : Deal S' dl d1 := by
  obtain ⟨ne, ⟨m, t⟩, ⟨ns, hl, l⟩⟩ := h
  exact ⟨ne, ⟨m, by rw [u _ (.inl rfl)]; exact t⟩, ⟨ns, hl, by rw [u _ (.inr rfl)]; exact l⟩⟩
theorem Deal.up' {S S' : Sto} {dl d1 : Addr} (h : Deal S dl d1) (u : ∀ b, b = dl ∨ b = d1 → S' b = S b) : Deal S' dl d1 := h.up (a := dl) u
theorem Deal.new {S : Sto} {dl d1 p : Addr} {o : SO} (h : Deal S dl d1) (hp : S p = none) : Deal (put S p o) dl d1 := h.up' fun b e => put_ne fun q => by
  subst q
  obtain ⟨ne, ⟨m, t⟩, ⟨ns, hl, l⟩⟩ := h
  rcases e with e | e
  · rw [e, t] at hp; cases hp
  · rw [e, l] at hp; cases hp
theorem Deal.free {S : Sto} {dl d1 p : Addr} (h : Deal S dl d1) (hp : S p = none) : p ≠ dl ∧ p ≠ d1 := by
  obtain ⟨ne, ⟨m, t⟩, ⟨ns, hl, l⟩⟩ := h
  constructor
  · rintro rfl; rw [t] at hp; cases hp
  · rintro rfl; rw [l] at hp; cases hp
theorem Deal.other {S : Sto} {dl d1 p : Addr} {o : SO} (h : Deal S dl d1) (h1 : p ≠ dl) (h2 : p ≠ d1) : Deal (put S p o) dl d1 := h.up' fun b e => put_ne fun q => by
  subst q
  rcases e with e | e
  · exact h1 e
  · exact h2 e
def sq_law_deal : Sp3 := fun ws S Q _ => ∃ (ns : List Int) (b : Int), ws = [.lst (ns.map PyData.int), .int b] ∧ ns.length ≤ 63 ∧ ∀ dl d1 S', S dl = none → S d1 = none → Upto [dl, d1] S S' → Deal S' dl d1 → Q (.r dl) S'
def sp_law_deal : Sp3 := fun ws S Q E => Bx (sq_law_deal ws S Q E)
def sq_law_any : Sp3 := fun ws S Q _ => ∃ (dl d1 : Addr) (b : Int), ws = [.r dl, .int b] ∧ 0 < b ∧ b.natAbs.log2 < 9000 ∧ Deal S dl d1 ∧ ∀ r S', 0 ≤ r → r < b → Upto [dl, d1] S S' → Deal S' dl d1 → Q (.int r) S'
def sp_law_any : Sp3 := fun ws S Q E => Bx (sq_law_any ws S Q E)
theorem len_law_deal : ∀ ws S Q E, sp_law_deal ws S Q E → ws.length = 2 := fun ws S Q E ⟨ns, b, e, _⟩ => by rw [e]; rfl
theorem len_law_any : ∀ ws S Q E, sp_law_any ws S Q E → ws.length = 2 := fun ws S Q E ⟨dl, d1, b, e, _⟩ => by rw [e]; rfl
theorem eqv_nil (ns : List Int) : PyData.eqv (.list (ns.map PyData.int)) (.list []) = decide (ns = []) := by
  cases ns with
  | nil => rfl
  | cons n ns => rfl
theorem cutG_none_len {α : Type} (xs : List α) (hi : Option Int) : (cutG xs none hi).length ≤ xs.length := by
  unfold cutG
  simp only [List.length_take, List.length_drop]
  omega
theorem cutG_map {α β : Type} (f : α → β) (xs : List α) (lo hi : Option Int) : cutG (xs.map f) lo hi = (cutG xs lo hi).map f := by
  unfold cutG
  rw [List.length_map, List.map_take, List.map_drop]
theorem sem_law_deal : ∀ ws S Q E, sp_law_deal ws S Q E → rd_law_deal (DQ Q) (start3 5 ws E) S := fun ws S Q E ⟨ns, b, e, hl, hQ⟩ => by
  subst e
  refine ⟨_, rfl, _, rfl, ns.map PyData.int, rfl, _, .inl rfl, ?_, ?_⟩
  · rw [List.length_map]
    have z := cutG_none_len (ns.map PyData.int) (some 63)
    rw [List.length_map] at z
    omega
  rw [cutG_map, mw_ints]
  have hcl := cutG_none_len ns (some 63)
  refine lcGo_map (fun w => match w with | .d (.int i) => .int (if i < 0 then -i else i) | w => w) ?_ ?_
  · intro w hw A a
    obtain ⟨i, hi, rfl⟩ := List.mem_map.mp hw
    exact ⟨_, rfl, i, rfl, i, rfl, a⟩
  · refine ⟨((cutG ns none (some 63)).map fun i => if i < 0 then -i else i).map PyData.int, by rw [List.map_map, List.map_map, List.map_map]; rfl, ?_⟩
    generalize hcs : ((cutG ns none (some 63)).map fun i => if i < 0 then -i else i) = cs
    have hcsl : cs.length ≤ 63 := by rw [← hcs, List.length_map]; omega
    refine ⟨_, rfl, _, _, rfl, rfl, .inl ⟨by decide, by decide⟩, _, _, rfl, rfl, _, rfl, _, .inl rfl, ?_⟩
    refine forGo_inv (fun _ τ S' => S' = S ∧ ∃ m w, τ.sl = [some (.lst (ns.map PyData.int)), some (.int b), some (.lst (cs.map PyData.int)), some (.int m), w]) ⟨rfl, _, _, rfl⟩ ?_ ?_
    · rintro i w ⟨sl, ex⟩ S' hw ⟨rfl, m, w4, e⟩
      subst e
      rw [mw_ints, List.getElem?_map] at hw
      obtain ⟨n, hn, rfl⟩ : ∃ n, cs[i]? = some n ∧ W.int n = w := by
        cases h : cs[i]? with
        | none => rw [h] at hw; cases hw
        | some n => rw [h] at hw; exact ⟨n, rfl, Option.some.inj hw⟩
      exact ⟨_, rfl, _, _, rfl, rfl, .inr ⟨by decide, by decide⟩, _, rfl, _, _, rfl, rfl, (show (0 : Int) < 2147483579 by decide), _, _, rfl, rfl, _, _, rfl, rfl, _, rfl, _, _, rfl, rfl, (show (0 : Int) < 2147483647 by decide), rfl, _, _, rfl⟩
    · rintro ⟨sl, ex⟩ S' ⟨rfl, m, w4, e⟩
      subst e
      refine ⟨_, rfl, _, .inl rfl, by rw [List.length_map, List.length_map]; omega, ?_⟩
      rw [mw_ints]
      refine lcGo_pure (fun w => match w with | .d (.int i) => decide ((10 : Int) ^ (18 : Int).toNat ≤ i) | _ => false) id ?_ ?_ ?_
      · intro w hw A a
        obtain ⟨i, hi, rfl⟩ := List.mem_map.mp hw
        exact ⟨_, rfl, _, _, rfl, rfl, ⟨by decide, by decide, by decide⟩, _, _, rfl, rfl, _, rfl, a⟩
      · intro w hw hp A a
        exact ⟨_, rfl, a⟩
      · have e : ([] ++ ((cs.map W.int).filter fun w => match w with | .d (.int i) => decide ((10 : Int) ^ (18 : Int).toNat ≤ i) | _ => false).map id) = ((cs.filter fun i => decide ((10 : Int) ^ (18 : Int).toNat ≤ i)).map PyData.int).map W.d := by
          rw [List.nil_append, List.map_id, List.filter_map, List.map_map]; rfl
        refine ⟨_, e, _, ⟨_, rfl, rfl⟩, fun p hp => ?_⟩
        generalize hgs : (cs.filter fun i => decide ((10 : Int) ^ (18 : Int).toNat ≤ i)) = gs
        have hgl : gs.length ≤ 63 := by rw [← hgs]; exact Nat.le_trans (List.length_filter_le _ _) hcsl
        refine ⟨_, rfl, (show 2 ≤ 1000 by decide), fun q hq => ⟨_, Sub.refl _, ?_⟩⟩
        have hqp : p ≠ q := by rintro rfl; rw [put_same] at hq; cases hq
        refine hQ q p _ (by rw [← hq, put_ne hqp.symm]) hp ((Upto.put (Upto.refl) (by simp)).put (by simp)) ⟨hqp.symm, ⟨_, put_same⟩, gs.reverse, by rw [List.length_reverse]; exact hgl, ?_⟩
        rw [put_ne hqp, put_same, mw_ints, List.map_reverse]
theorem sem_law_any : ∀ ws S Q E, sp_law_any ws S Q E → rd_law_any (DQ Q) (start3 3 ws E) S := fun ws S Q E ⟨dl, d1, b, e, hb, hb2, hD, hQ⟩ => by
  subst e
  refine ⟨fun k τ S' => τ.sl = [some (.r dl), some (.int b), none] ∧ Upto [dl, d1] S S' ∧ Deal S' dl d1 ∧ ∃ ns : List Int, ns.length = k ∧ S' d1 = some (.lst (ns.map W.int)), ?_, ?_⟩
  · obtain ⟨ns, _, h⟩ := hD.low
    exact ⟨_, rfl, Upto.refl, hD, ns, rfl, h⟩
  rintro k ⟨sl, ex⟩ S' ⟨e, u, hD', ns, hk, h1⟩
  subst e
  obtain ⟨ne, ⟨m, ht⟩, ns', hl', h1'⟩ := id hD'
  rw [h1] at h1'
  have hl : ns.length ≤ 63 := by
    have z : ns.map W.int = ns'.map W.int := by injection (Option.some.inj h1')
    have z2 := congrArg List.length z
    rw [List.length_map, List.length_map] at z2
    omega
  have i0 : ixW S' 0 (.r dl) = some (.r d1) := by rw [ixW_r ht]; rfl
  have i1 : ixW S' 1 (.r dl) = some (.int m) := by rw [ixW_r ht]; rfl
  have vw : viewW S' (.r d1) = some (.list (ns.map PyData.int)) := view_lst (by rw [mw_ints]; exact h1)
  refine ⟨_, rfl, _, _, rfl, i0, [], rfl, by decide, .inr ⟨_, _, vw, rfl, shaped_intsL ns, shaped_intsL [], _, rfl, fun hc => ?_, fun hc => ?_⟩⟩
  · rw [eqv_nil] at hc
    have hn : ns ≠ [] := by simpa using hc
    have hpos : 0 < ns.length := List.length_pos_iff.mpr hn
    have hlast : (ns.map W.int)[(ns.map W.int).length - 1]? = some (.int (ns[ns.length - 1])) := by
      rw [List.length_map, List.getElem?_map, List.getElem?_eq_getElem (by omega)]; rfl
    have il : ixW S' (-1) (.r d1) = some (.int (ns[ns.length - 1])) := by rw [ixW_r h1]; exact atI_last hlast
    refine ⟨_, rfl, _, _, rfl, i0, _, rfl, _, _, rfl, il, .inr ⟨_, _, rfl, rfl, rfl, rfl, _, rfl, fun hz => ?_, fun hz => ?_⟩⟩
    · refine ⟨fun τ2 S2 => ∃ m', m' < k ∧ τ2.sl = [some (.r dl), some (.int b), none] ∧ Upto [dl, d1] S S2 ∧ Deal S2 dl d1 ∧ ∃ ns : List Int, ns.length = m' ∧ S2 d1 = some (.lst (ns.map W.int)), fun τ2 S2 h => h, ?_⟩
      refine ⟨_, rfl, _, _, rfl, i0, isLst_r h1, d1, _, _, rfl, rfl, h1, hlast, ns.length - 1, by omega, rfl, u.put (by simp), ⟨ne, ⟨m, by rw [put_ne ne]; exact ht⟩, ns.dropLast, by rw [List.length_dropLast]; omega, by rw [put_same, List.map_dropLast]⟩, ns.dropLast, by rw [List.length_dropLast], by rw [put_same, List.map_dropLast]⟩
    · -- the last is not 0
      refine ⟨_, rfl, _, _, rfl, i0, [], rfl, by decide, .inr ⟨_, _, vw, rfl, shaped_intsL ns, shaped_intsL [], _, rfl, fun _ => ?_, fun hc2 => ?_⟩⟩
      · generalize hx : ns[ns.length - 1] = x at *
        refine ⟨_, rfl, _, _, rfl, i0, isLst_r h1, d1, _, _, rfl, rfl, h1, hlast, x, rfl, ?_⟩
        have h2 : put S' d1 (.lst (ns.map W.int).dropLast) d1 = some (.lst (ns.map W.int).dropLast) := put_same
        have i2 : ixW (put S' d1 (.lst (ns.map W.int).dropLast)) 0 (.r dl) = some (.r d1) := by rw [ixW_r (by rw [put_ne ne]; exact ht)]; rfl
        refine ⟨_, rfl, _, _, rfl, i2, isLst_r h2, _, rfl, _, rfl, _, _, rfl, rfl, ⟨hb, hb2⟩, d1, _, _, rfl, rfl, h2, ?_, ?_⟩
        · rw [List.length_dropLast, List.length_map]; exact Nat.lt_of_le_of_lt (show ns.length - 1 ≤ 63 by omega) (by decide)
        refine ⟨_, rfl, _, rfl, _, _, rfl, rfl, hb, _, Sub.refl _, hQ _ _ (Int.emod_nonneg _ (by omega)) (Int.emod_lt_of_pos _ hb) ((u.put (by simp)).put (by simp)) ⟨ne, ⟨m, by rw [put_ne ne, put_ne ne]; exact ht⟩, ns.dropLast ++ [x / b], ?_, ?_⟩⟩
        · rw [List.length_append, List.length_dropLast, List.length_singleton]; omega
        · rw [put_same, List.map_append, List.map_dropLast]; rfl
      · rw [eqv_nil, hc] at hc2; cases hc2
  · -- nothing is left
    rw [eqv_nil] at hc
    refine ⟨fun z => (nomatch z), fun _ => ?_⟩
    refine ⟨_, rfl, _, _, rfl, i0, [], rfl, by decide, .inr ⟨_, _, vw, rfl, shaped_intsL ns, shaped_intsL [], _, rfl, fun hc2 => ?_, fun _ => ?_⟩⟩
    · rw [eqv_nil, hc] at hc2; cases hc2
    · have t2 : put S' dl (.lst ([W.r d1, W.int m].set 1 (.int ((m * 48271 + 83) % 2147483647)))) dl = some (.lst [.r d1, .int ((m * 48271 + 83) % 2147483647)]) := put_same
      have i2 : ixW (put S' dl (.lst ([W.r d1, W.int m].set 1 (.int ((m * 48271 + 83) % 2147483647))))) 1 (.r dl) = some (.int ((m * 48271 + 83) % 2147483647)) := by rw [ixW_r t2]; rfl
      refine ⟨_, rfl, _, _, rfl, i1, _, _, rfl, rfl, .inr ⟨by decide, by decide⟩, _, _, rfl, rfl, _, rfl, _, _, rfl, rfl, (show (0 : Int) < 2147483647 by decide), _, rfl, dl, _, _, 1, rfl, rfl, ht, rfl, ?_⟩
      exact ⟨_, rfl, _, _, rfl, i2, _, _, rfl, rfl, ⟨by decide, by decide⟩, _, rfl, _, rfl, _, _, rfl, rfl, hb, _, Sub.refl _, hQ _ _ (Int.emod_nonneg _ (by omega)) (Int.emod_lt_of_pos _ hb) (u.put (by simp)) ⟨ne, ⟨_, t2⟩, ns, hl, by rw [put_ne ne.symm]; exact h1⟩⟩
def rd_law_of : TS3 := (tRet3 (tOp3 gIx (tVar3 1) (tCall3 sp_law_any (tCons3 (tVar3 0) (tCons3 (tCB3 gLen (tCons3 (tVar3 1) tNil3)) tNil3)))))
--OF
theorem t : True := trivial

end H3

namespace H3
open PySem PySem.Spec L2
open PyProof.Rows hiding St

theorem un70 {k : Nat} {A : Around} (hr : Room k A) : A.units + 70 < cLine := by have := hr.un; omega
theorem un64 {k : Nat} {A : Around} (hr : Room k A) : A.units + 64 < cLine := by have := hr.un; omega
/-! ### data that is small -/
structure Fine (k w : Nat) (x : PyData) : Prop where
  lay : x.canLay0 = true
  dep : x.depth ≤ k
  sho : x.showable = true
  int : x.intsShort 70 = true
  wgt : x.bulk ≤ w
theorem Fine.mono {k w k' w' : Nat} {x : PyData} (h : Fine k w x) (hk : k ≤ k' := by decide) (hw : w ≤ w' := by decide) : Fine k' w' x := ⟨h.lay, Nat.le_trans h.dep hk, h.sho, h.int, Nat.le_trans h.wgt hw⟩
theorem Fine.big {i : Int} (h : i.natAbs < 10 ^ 64) : Fine 0 0 (.int i) := by
  have hl : i.natAbs.log2 < 230 := by
    by_cases h0 : i.natAbs = 0
    · rw [h0]; decide
    · exact (Nat.log2_lt h0).mpr (Nat.lt_of_lt_of_le h (by decide))
  refine ⟨rfl, Nat.le_refl _, decide_eq_true (show i.natAbs.log2 < 1920 by omega), decide_eq_true ?_, Nat.le_refl _⟩
  have e := PySem.int_text_length_le10 (k := 64) (by decide) h
  show (Str.ofString (toString i)).length ≤ 70
  rw [PySem.ofString_length]; omega
theorem Fine.int0 {i : Int} (h : i.natAbs < 10 ^ 50) : Fine 0 0 (.int i) := .big (Nat.lt_of_lt_of_le h (by decide))
theorem Fine.ofInt {i : Int} (h : i.natAbs < 10 ^ 50) : Fine 0 200 (.int i) := (Fine.int0 h).mono
theorem Fine.bool {b : Bool} : Fine 0 0 (.bool b) := ⟨rfl, Nat.le_refl _, rfl, rfl, Nat.le_refl _⟩
theorem Fine.none : Fine 0 0 .none := ⟨rfl, Nat.le_refl _, rfl, rfl, Nat.le_refl _⟩
theorem fine_all {k w : Nat} : ∀ {ds : List PyData}, (∀ x ∈ ds, Fine k w x) → PyData.canLayAll0 ds = true ∧ PyData.depthAll ds ≤ k ∧ PyData.showableAll ds = true ∧ PyData.intsShortAll 70 ds = true ∧ PyData.bulkAll ds ≤ (w + 1) * ds.length
  | [], _ => ⟨rfl, Nat.zero_le _, rfl, rfl, Nat.zero_le _⟩
  | x :: ds, h => by
    have h0 := h x List.mem_cons_self
    obtain ⟨a, b, c, d, e⟩ := fine_all fun y hy => h y (List.mem_cons_of_mem _ hy)
    refine ⟨?_, ?_, ?_, ?_, ?_⟩
    · show (x.canLay0 && PyData.canLayAll0 ds) = true
      rw [h0.lay, a]; rfl
    · show max x.depth (PyData.depthAll ds) ≤ k
      exact Nat.max_le.mpr ⟨h0.dep, b⟩
    · show (x.showable && PyData.showableAll ds) = true
      rw [h0.sho, c]; rfl
    · show (x.intsShort 70 && PyData.intsShortAll 70 ds) = true
      rw [h0.int, d]; rfl
    · show x.bulk + 1 + PyData.bulkAll ds ≤ (w + 1) * (ds.length + 1)
      have := h0.wgt
      rw [Nat.mul_add, Nat.mul_one]; omega
theorem Fine.list {k w n : Nat} {ds : List PyData} (h : ∀ x ∈ ds, Fine k w x) (hn : (w + 1) * ds.length ≤ n) : Fine (k + 1) n (.list ds) := by
  obtain ⟨a, b, c, d, e⟩ := fine_all h
  exact ⟨a, Nat.succ_le_succ b, c, d, Nat.le_trans e hn⟩
theorem Fine.tuple {k w n : Nat} {ds : List PyData} (h : ∀ x ∈ ds, Fine k w x) (hn : (w + 1) * ds.length ≤ n) : Fine (k + 1) n (.tuple ds) := by
  obtain ⟨a, b, c, d, e⟩ := fine_all h
  exact ⟨a, Nat.succ_le_succ b, c, d, Nat.le_trans e hn⟩
theorem Fine.shaped {k w : Nat} {x : PyData} (h : Fine k w x) (hk : k ≤ 64 := by decide) : SeqAt.shaped x = true := by
  unfold SeqAt.shaped
  rw [h.lay, Bool.true_and]
  exact decide_eq_true (Nat.le_trans h.dep hk)
theorem Fine.len {k w : Nat} {x : PyData} (h : Fine k w x) (hw : w ≤ 200000 := by decide) : x.shown.length ≤ sizeLine := by
  have z := PyData.shown_le_bulk 70 (by decide) x (PyData.leavesShort_of_canLay0 70 x h.lay h.int)
  have h1 := h.wgt
  have e : sizeLine = 16777216 := by decide
  omega
/-- repr of such -/
theorem Fine.repr {k w : Nat} {x : PyData} {u : W} {S : Sto} {Q : K3} (h : Fine k w x) (hv : viewW S u = some x) (q : Q (.str x.shown) S) (hk : k ≤ 64 := by decide) (hw : w ≤ 200000 := by decide) : gRepr [u] S Q :=
  ⟨u, x, rfl, hv, h.sho, PyData.hasDict_of_canLay x h.lay, Nat.le_trans h.dep hk, h.len hw, q⟩
theorem repr_bl {b : Bool} {S : Sto} {Q : K3} (q : Q (.str (PyData.bool b).shown) S) : gRepr [.bl b] S Q := (Fine.bool (b := b)).repr rfl q
theorem shown_bl {a b : Bool} : (PyData.bool a).shown = (PyData.bool b).shown ↔ a = b := by
  cases a <;> cases b <;> simp <;> decide +kernel

/-! ### one of some things -/
def sq_law_of : Sp3 := fun ws S Q _ => ∃ (dl d1 : Addr) (w : W) (n : Nat), ws = [.r dl, w] ∧ lenW S w = some n ∧ 0 < n ∧ n.log2 < 9000 ∧ Deal S dl d1 ∧ ∀ (i : Int) S', 0 ≤ i → i < n → Upto [dl, d1] S S' → Deal S' dl d1 → ∃ x, ixW S' i w = some x ∧ Q x S'
def sp_law_of : Sp3 := fun ws S Q E => Bx (sq_law_of ws S Q E)
theorem len_law_of : ∀ ws S Q E, sp_law_of ws S Q E → ws.length = 2 := fun ws S Q E ⟨dl, d1, w, n, e, _⟩ => by rw [e]; rfl
theorem sem_law_of : ∀ ws S Q E, sp_law_of ws S Q E → rd_law_of (DQ Q) (start3 2 ws E) S := fun ws S Q E ⟨dl, d1, w, n, e, hn, h0, h9, hD, hQ⟩ => by
  subst e
  refine ⟨_, rfl, _, rfl, _, rfl, w, n, rfl, hn, dl, d1, n, rfl, by omega, by simpa using h9, hD, fun r S' r0 r1 u hD' => ?_⟩
  obtain ⟨x, hx, q⟩ := hQ r S' r0 r1 u hD'
  exact ⟨r, x, rfl, hx, _, Sub.refl _, q⟩
theorem law_of_list {dl d1 : Addr} {ds : List PyData} {S : Sto} {Q : K3} {E : X3} (hD : Deal S dl d1) (h0 : ds ≠ []) (hl : ds.length < 2 ^ 60) (q : ∀ d ∈ ds, ∀ S', Upto [dl, d1] S S' → Deal S' dl d1 → Q (.d d) S') : sp_law_of [.r dl, .lst ds] S Q E := by
  have hp := List.length_pos_iff.mpr h0
  refine ⟨dl, d1, _, ds.length, rfl, ?_, hp, ?_, hD, fun i S' i0 i1 u hD' => ?_⟩
  · show some (ds.map W.d).length = _
    rw [List.length_map]
  · exact Nat.lt_trans ((Nat.log2_lt (by omega)).mpr hl) (by decide)
  · obtain ⟨x, hx, hi⟩ := atI_of (xs := ds.map W.d) i0 (by rw [List.length_map]; exact i1)
    rw [List.getElem?_map] at hx
    cases hd : ds[i.toNat]? with
    | none => rw [hd] at hx; cases hx
    | some d =>
      rw [hd] at hx
      cases hx
      exact ⟨_, hi, q d (List.mem_of_getElem? hd) S' u hD'⟩
theorem law_of_tup {dl d1 : Addr} {ds : List PyData} {S : Sto} {Q : K3} {E : X3} (hD : Deal S dl d1) (h0 : ds ≠ []) (hl : ds.length < 2 ^ 60) (q : ∀ d ∈ ds, ∀ S', Upto [dl, d1] S S' → Deal S' dl d1 → Q (.d d) S') : sp_law_of [.r dl, .tup ds] S Q E := by
  have hp := List.length_pos_iff.mpr h0
  refine ⟨dl, d1, _, ds.length, rfl, ?_, hp, ?_, hD, fun i S' i0 i1 u hD' => ?_⟩
  · show some (ds.map W.d).length = _
    rw [List.length_map]
  · exact Nat.lt_trans ((Nat.log2_lt (by omega)).mpr hl) (by decide)
  · obtain ⟨x, hx, hi⟩ := atI_of (xs := ds.map W.d) i0 (by rw [List.length_map]; exact i1)
    rw [List.getElem?_map] at hx
    cases hd : ds[i.toNat]? with
    | none => rw [hd] at hx; cases hx
    | some d =>
      rw [hd] at hx
      cases hx
      exact ⟨_, hi, q d (List.mem_of_getElem? hd) S' u hD'⟩
/-- a number -/
theorem log_lt {b : Int} (h0 : 0 < b) (hb : b < 2 ^ 200) : b.natAbs.log2 < 9000 := by
  have h : b.natAbs < 2 ^ 200 := by omega
  exact Nat.lt_trans ((Nat.log2_lt (by omega)).mpr h) (by decide)
theorem law_any_lt {dl d1 : Addr} {b : Int} {S : Sto} {Q : K3} {E : X3} (hD : Deal S dl d1) (h0 : 0 < b) (hb : b < 2 ^ 200) (q : ∀ r S', 0 ≤ r → r < b → Upto [dl, d1] S S' → Deal S' dl d1 → Q (.int r) S') : sp_law_any [.r dl, .int b] S Q E :=
  ⟨dl, d1, b, rfl, h0, log_lt h0 hb, hD, q⟩
theorem mono_law_any {ws : List W} {S : Sto} {A B : K3} {E E' : X3} (m : ∀ w S, A w S → B w S) : sp_law_any ws S A E → sp_law_any ws S B E' := fun ⟨dl, d1, b, e, h1, h2, h3, q⟩ => ⟨dl, d1, b, e, h1, h2, h3, fun r S' a b c d => m _ _ (q r S' a b c d)⟩
theorem Upto.drp {as : List Addr} {S S1 : Sto} {a : Addr} (u : Upto (a :: as) S S1) (h : S a = none) : Upto as S (drp S1 a) := fun c hc => by
  by_cases e : c = a
  · subst e; rw [drp_same, h]
  · rw [drp_ne e]
    exact u c (by simp [e, hc])
theorem Upto.more {as bs : List Addr} {S S1 : Sto} (u : Upto as S S1) (h : ∀ a ∈ as, a ∈ bs) : Upto bs S S1 := fun c hc => u c fun q => hc (h c q)
theorem Upto.new {as : List Addr} {S S1 : Sto} {a : Addr} {o : SO} (u : Upto as S S1) : Upto (a :: as) S (H3.put S1 a o) := (u.more fun _ h => List.mem_cons_of_mem _ h).put List.mem_cons_self
theorem sub_drp {S : Sto} {a : Addr} : Sub (drp S a) S := fun b p h => by
  by_cases e : b = a
  · subst e; rw [drp_same] at h; cases h
  · rw [drp_ne e] at h; exact h
theorem Deal.drp {S : Sto} {dl d1 a : Addr} (h : Deal S dl d1) (h1 : a ≠ dl) (h2 : a ≠ d1) : Deal (drp S a) dl d1 := h.up' fun b e => drp_ne fun q => by
  subst q
  rcases e with e | e
  · exact h1 e
  · exact h2 e
theorem nodup_len {L M : List Int} (h1 : L.Nodup) (h2 : M.Nodup) (h : ∀ k, k ∈ L ↔ k ∈ M) : L.length = M.length :=
  Nat.le_antisymm (h1.length_le_of_subset fun k hk => (h k).mp hk) (h2.length_le_of_subset fun k hk => (h k).mpr hk)
end H3

namespace H3
open PySem PySem.Spec L2
open PyProof.Rows hiding St
/-! ### what the program's defs do -/
def btw : PyData → Int → Int → Bool
  | .int i, lo, hi => decide (lo ≤ i) && decide (i ≤ hi)
  | _, _, _ => false
def isI : PyData → Bool
  | .int _ => true
  | _ => false
def isMap : PyData → Bool
  | .tuple ds => decide (1 ≤ ds.length) && decide (ds.length ≤ 12) && ds.all fun d => btw d 0 (ds.length - 1)
  | _ => false
/-- data without dicts -/
def flatD : PyData → Bool
  | .dict _ => false
  | _ => true
def sq_is_int : Sp3 := fun ws S Q _ => ∃ d, ws = [.d d] ∧ flatD d = true ∧ Q (.bl (isI d)) S
def sp_is_int : Sp3 := fun ws S Q E => Bx (sq_is_int ws S Q E)
def sq_is_between : Sp3 := fun ws S Q _ => ∃ d lo hi, ws = [.d d, .int lo, .int hi] ∧ flatD d = true ∧ Q (.bl (btw d lo hi)) S
def sp_is_between : Sp3 := fun ws S Q E => Bx (sq_is_between ws S Q E)
def sq_is_map : Sp3 := fun ws S Q _ => ∃ d, ws = [.d d] ∧ d.canLay0 = true ∧ Q (.bl (isMap d)) S
def sp_is_map : Sp3 := fun ws S Q E => Bx (sq_is_map ws S Q E)
def sq_is_turning : Sp3 := fun ws S Q _ => ∃ ns : List Int, ws = [.tup (ns.map PyData.int)] ∧ ns.length ≤ 1000 ∧ ∀ L : List Int, L.Nodup → (∀ k, k ∈ L ↔ k ∈ ns) → Q (.bl (decide (L.length = ns.length))) S
def sp_is_turning : Sp3 := fun ws S Q E => Bx (sq_is_turning ws S Q E)
def sq_is_setting : Sp3 := fun ws S Q _ => ∃ ns : List Int, ws = [.tup (ns.map PyData.int)] ∧ ns.length ≤ 1000 ∧ ∀ L : List Int, L.Nodup → (∀ k, k ∈ L ↔ k ∈ ns) → Q (.bl (decide (L.length = 1))) S
def sp_is_setting : Sp3 := fun ws S Q E => Bx (sq_is_setting ws S Q E)
def sq_still : Sp3 := fun ws S Q _ => ∃ n : Int, ws = [.int n] ∧ 0 ≤ n ∧ n ≤ 1000 ∧ Q (.tup (rgD 0 n)) S
def sp_still : Sp3 := fun ws S Q E => Bx (sq_still ws S Q E)
theorem len_is_int : ∀ ws S Q E, sp_is_int ws S Q E → ws.length = 1 := fun ws S Q E ⟨d, e, _⟩ => by rw [e]; rfl
theorem len_is_between : ∀ ws S Q E, sp_is_between ws S Q E → ws.length = 3 := fun ws S Q E ⟨d, _, _, e, _⟩ => by rw [e]; rfl
theorem len_is_map : ∀ ws S Q E, sp_is_map ws S Q E → ws.length = 1 := fun ws S Q E ⟨d, e, _⟩ => by rw [e]; rfl
theorem len_is_turning : ∀ ws S Q E, sp_is_turning ws S Q E → ws.length = 1 := fun ws S Q E ⟨d, e, _⟩ => by rw [e]; rfl
theorem len_is_setting : ∀ ws S Q E, sp_is_setting ws S Q E → ws.length = 1 := fun ws S Q E ⟨d, e, _⟩ => by rw [e]; rfl
theorem len_still : ∀ ws S Q E, sp_still ws S Q E → ws.length = 1 := fun ws S Q E ⟨d, e, _⟩ => by rw [e]; rfl
def rd_is_int : TS3 := (tRet3 (tAndV3 (tCB3 gIsi (tCons3 (tVar3 0) (tCons3 (tC3 (.ty "int")) tNil3))) (tNotV3 (tCB3 gIsi (tCons3 (tVar3 0) (tCons3 (tC3 (.ty "bool")) tNil3))))))
theorem isi_int {d : PyData} (h : flatD d = true) : ∃ b, isiB d "int" = some b ∧ (b = false → isI d = false) ∧ (b = true → ∃ c, isiB d "bool" = some c ∧ isI d = !c) := by
  cases d with
  | none => exact ⟨false, show kitB "NoneType" "int" = _ by decide +kernel, fun _ => rfl, fun h => (nomatch h)⟩
  | bool b => exact ⟨true, show kitB "bool" "int" = _ by decide +kernel, fun h => (nomatch h), fun _ => ⟨true, show kitB "bool" "bool" = _ by decide +kernel, rfl⟩⟩
  | int i => exact ⟨true, show kitB "int" "int" = _ by decide +kernel, fun h => (nomatch h), fun _ => ⟨false, show kitB "int" "bool" = _ by decide +kernel, rfl⟩⟩
  | str x => exact ⟨false, show kitB "str" "int" = _ by decide +kernel, fun _ => rfl, fun h => (nomatch h)⟩
  | list l => exact ⟨false, show kitB "list" "int" = _ by decide +kernel, fun _ => rfl, fun h => (nomatch h)⟩
  | tuple l => exact ⟨false, show kitB "tuple" "int" = _ by decide +kernel, fun _ => rfl, fun h => (nomatch h)⟩
  | dict l => cases h
theorem sem_is_int : ∀ ws S Q E, sp_is_int ws S Q E → rd_is_int (DQ Q) (start3 1 ws E) S := fun ws S Q E ⟨d, e, hd, q⟩ => by
  subst e
  obtain ⟨b, hb, h0, h1⟩ := isi_int hd
  refine ⟨_, rfl, _, d, _, b, rfl, rfl, hb, b, rfl, fun e => ?_, fun e => ⟨_, Sub.refl _, by rw [← h0 e]; exact q⟩⟩
  obtain ⟨c, hc, e2⟩ := h1 e
  exact ⟨_, rfl, _, d, _, c, rfl, rfl, hc, c, rfl, _, Sub.refl _, by rw [← e2]; exact q⟩
def rd_is_between : TS3 := (tRet3 (tAndV3 (tCall3 sp_is_int (tCons3 (tVar3 0) tNil3)) (tChain3 gLe gLe (tVar3 1) (tVar3 0) (tVar3 2))))
theorem btw_of {d : PyData} {lo hi : Int} : isI d = false → btw d lo hi = false := fun h => by
  cases d <;> first | rfl | cases h
theorem sem_is_between : ∀ ws S Q E, sp_is_between ws S Q E → rd_is_between (DQ Q) (start3 3 ws E) S := fun ws S Q E ⟨d, lo, hi, e, hd, q⟩ => by
  subst e
  refine ⟨_, rfl, d, rfl, hd, isI d, rfl, fun e => ?_, fun e => ⟨_, Sub.refl _, by rw [← btw_of e]; exact q⟩⟩
  cases d with
  | int i =>
    refine ⟨_, rfl, _, rfl, _, _, rfl, rfl, _, rfl, fun h => ?_, fun h => ⟨_, Sub.refl _, ?_⟩⟩
    · refine ⟨_, rfl, _, _, rfl, rfl, _, Sub.refl _, ?_⟩
      have e : btw (.int i) lo hi = decide (i ≤ hi) := by show (decide (lo ≤ i) && decide (i ≤ hi)) = _; rw [h]; rfl
      show Q (.bl (decide (i ≤ hi))) S
      rw [← e]; exact q
    · have e : btw (.int i) lo hi = false := by show (decide (lo ≤ i) && decide (i ≤ hi)) = _; rw [h]; rfl
      rw [← e]; exact q
  | _ => cases e
def rd_is_map : TS3 := (tSeq3 (tIf3 (tOr3 (tNot3 (tB3 (tCB3 gIsi (tCons3 (tVar3 0) (tCons3 (tC3 (.ty "tuple")) tNil3))))) (tNot3 (tB3 (tChain3 gLe gLe (tC3 (.int 1)) (tCB3 gLen (tCons3 (tVar3 0) tNil3)) (tC3 (.int 12)))))) (tRet3 (tC3 (.bl false))) tNext3) (tRet3 (tCB3 gAll (tCons3 (tLcD3 (tSeqI3 (tVar3 0)) (gName3 1) tYes3 (tCall3 sp_is_between (tCons3 (tVar3 1) (tCons3 (tC3 (.int 0)) (tCons3 (tOp3 gSub (tCB3 gLen (tCons3 (tVar3 0) tNil3)) (tC3 (.int 1))) tNil3)))) [1]) tNil3))))
theorem canLayAll_mem : ∀ {ds : List PyData}, PyData.canLayAll0 ds = true → ∀ d ∈ ds, d.canLay0 = true
  | [], _, d, hd => by cases hd
  | x :: ds, h, d, hd => by
    have h : (x.canLay0 && PyData.canLayAll0 ds) = true := h
    rw [Bool.and_eq_true] at h
    rcases List.mem_cons.mp hd with e | e
    · rw [e]; exact h.1
    · exact canLayAll_mem h.2 d e
theorem flat_of {d : PyData} (h : d.canLay0 = true) : flatD d = true := by
  cases d <;> first | rfl | exact (nomatch h)
theorem isi_tup {d : PyData} (h : d.canLay0 = true) : ∃ b, isiB d "tuple" = some b ∧ (b = true → ∃ ds, d = .tuple ds) ∧ (b = false → ∀ ds, d ≠ .tuple ds) := by
  cases d with
  | none => exact ⟨false, show kitB "NoneType" "tuple" = _ by decide +kernel, fun h => (nomatch h), fun _ _ h => (nomatch h)⟩
  | bool b => exact ⟨false, show kitB "bool" "tuple" = _ by decide +kernel, fun h => (nomatch h), fun _ _ h => (nomatch h)⟩
  | int i => exact ⟨false, show kitB "int" "tuple" = _ by decide +kernel, fun h => (nomatch h), fun _ _ h => (nomatch h)⟩
  | str x => exact ⟨false, show kitB "str" "tuple" = _ by decide +kernel, fun h => (nomatch h), fun _ _ h => (nomatch h)⟩
  | list l => exact ⟨false, show kitB "list" "tuple" = _ by decide +kernel, fun h => (nomatch h), fun _ _ h => (nomatch h)⟩
  | tuple l => exact ⟨true, show kitB "tuple" "tuple" = _ by decide +kernel, fun _ => ⟨l, rfl⟩, fun h => (nomatch h)⟩
  | dict l => exact (nomatch h)
theorem isMap_no {d : PyData} (h : ∀ ds, d ≠ .tuple ds) : isMap d = false := by
  cases d <;> first | rfl | exact absurd rfl (h _)
theorem sem_is_map : ∀ ws S Q E, sp_is_map ws S Q E → rd_is_map (DQ Q) (start3 2 ws E) S := fun ws S Q E ⟨d, e, hd, q⟩ => by
  subst e
  obtain ⟨b, hb, h1, h0⟩ := isi_tup hd
  refine ⟨_, rfl, _, d, _, b, rfl, rfl, hb, _, rfl, fun e => ?_, fun e => ?_⟩
  · refine ⟨fun _ => ⟨_, Sub.refl _, ?_⟩, fun h => (nomatch h)⟩
    rw [← isMap_no (h0 (by simpa using e))]; exact q
  · obtain ⟨ds, rfl⟩ := h1 (by simpa using e)
    have hl : lenW S (.tup ds) = some ds.length := by show some (ds.map W.d).length = _; rw [List.length_map]
    refine ⟨_, rfl, _, _, rfl, hl, _, _, rfl, rfl, _, rfl, fun c => ?_, fun c => ?_⟩
    · refine ⟨_, _, rfl, rfl, _, rfl, ?_⟩
      refine ⟨fun c2 => ⟨_, Sub.refl _, ?_⟩, fun c2 => ?_⟩
      · have e : isMap (.tuple ds) = false := by
          have : ¬ ds.length ≤ 12 := by intro h; simp at c2; omega
          show (decide (1 ≤ ds.length) && decide (ds.length ≤ 12) && _) = false
          rw [decide_eq_false this, Bool.and_false, Bool.false_and]
        rw [← e]; exact q
      · have hl2 : ds.length ≤ 12 := by simp at c2; omega
        have hl1 : 1 ≤ ds.length := by simp at c; omega
        refine ⟨_, rfl, ds, .inr rfl, by rw [List.length_map]; omega, ?_⟩
        refine lcGo_map (fun w => match w with | .d x => .bl (btw x 0 (ds.length - 1)) | w => w) ?_ ?_
        · intro w hw A a
          obtain ⟨x, hx, rfl⟩ := List.mem_map.mp hw
          exact ⟨_, rfl, _, rfl, _, _, rfl, hl, _, _, rfl, rfl, x, _, _, rfl, flat_of (canLayAll_mem hd x hx), a⟩
        · refine ⟨(ds.map fun x => btw x 0 (ds.length - 1)).map PyData.bool, by rw [List.nil_append, List.map_map, List.map_map, List.map_map]; rfl, _, rfl, _, Sub.refl _, ?_⟩
          have e : isMap (.tuple ds) = (ds.map fun x => btw x 0 (ds.length - 1)).all id := by
            show (decide (1 ≤ ds.length) && decide (ds.length ≤ 12) && _) = _
            rw [decide_eq_true hl1, decide_eq_true hl2, Bool.true_and, Bool.true_and, List.all_map]; rfl
          rw [← e]; exact q
    · refine ⟨_, rfl, fun _ => ⟨_, Sub.refl _, ?_⟩, fun c2 => (nomatch c2)⟩
      have e : isMap (.tuple ds) = false := by
        have : ¬ 1 ≤ ds.length := by intro h; simp at c; omega
        show (decide (1 ≤ ds.length) && decide (ds.length ≤ 12) && _) = false
        rw [decide_eq_false this, Bool.false_and, Bool.false_and]
      rw [← e]; exact q
def rd_is_turning : TS3 := (tRet3 (tOp3 gEq (tLenSet3 (tVar3 0)) (tCB3 gLen (tCons3 (tVar3 0) tNil3))))
theorem lenW_tupI {S : Sto} {ns : List Int} : lenW S (.tup (ns.map PyData.int)) = some ns.length := by show some ((ns.map PyData.int).map W.d).length = _; rw [List.length_map, List.length_map]
theorem lenW_lstI {S : Sto} {ns : List Int} : lenW S (.lst (ns.map PyData.int)) = some ns.length := by show some ((ns.map PyData.int).map W.d).length = _; rw [List.length_map, List.length_map]
theorem sem_is_turning : ∀ ws S Q E, sp_is_turning ws S Q E → rd_is_turning (DQ Q) (start3 1 ws E) S := fun ws S Q E ⟨ns, e, hl, q⟩ => by
  subst e
  refine ⟨_, rfl, ns, rfl, hl, fun L nd mem => ⟨_, rfl, _, _, rfl, lenW_tupI, .inr ⟨_, _, rfl, rfl, rfl, rfl, _, Sub.refl _, ?_⟩⟩⟩
  have e : PyData.eqv (.int L.length) (.int ns.length) = decide (L.length = ns.length) := by rw [eqv_int]; exact decide_eq_decide.mpr (by omega)
  rw [e]
  exact q L nd mem
def rd_is_setting : TS3 := (tRet3 (tOp3 gEq (tLenSet3 (tVar3 0)) (tC3 (.int 1))))
theorem sem_is_setting : ∀ ws S Q E, sp_is_setting ws S Q E → rd_is_setting (DQ Q) (start3 1 ws E) S := fun ws S Q E ⟨ns, e, hl, q⟩ => by
  subst e
  refine ⟨_, rfl, ns, rfl, hl, fun L nd mem => .inr ⟨_, _, rfl, rfl, rfl, rfl, _, Sub.refl _, ?_⟩⟩
  have e : PyData.eqv (.int L.length) (.int 1) = decide (L.length = 1) := by rw [eqv_int]; exact decide_eq_decide.mpr (by omega)
  rw [e]
  exact q L nd mem
def rd_still : TS3 := (tRet3 (tTupRg3 (tRg13 (tVar3 0))))
theorem sem_still : ∀ ws S Q E, sp_still ws S Q E → rd_still (DQ Q) (start3 1 ws E) S := fun ws S Q E ⟨n, e, h0, h1, q⟩ => by
  subst e
  exact ⟨_, rfl, n, rfl, RgOk.of_le (by decide) (by omega) (by decide) h0, _, Sub.refl _, q⟩

end H3

namespace H3
open PySem PySem.Spec L2
open PyProof.Rows hiding St

/-! ### tuple.index; lists joined, repeated, cut, sorted -/
section
variable {X : Cx} {Ex : WX} {o e : Expr} {es : List Expr} {to : TE3} {t : TA3} {name : Str} {apos cpos : Pos} {id : String} {r3 : RM3} {r : V → List V → Hp → VK → Prop}
def tTM3 (r : RM3) (to : TE3) (t : TA3) : TE3 := fun τ S Q => to τ S fun w S1 => (∃ ds, w = .tup ds) ∧ t τ S1 fun ws S2 => r w ws S2 Q
theorem pe3_tm (slot : Slot "tuple" name id) (hty : typeOf (.builtin id) = pure (.type "method_descriptor")) (hm : MtR X id r) (l : MtL X.K r3 r) (ho : PE X o (LE X.K Ex to)) (ha : PA X (e :: es) (LA X.K Ex t))
    (mc : MCall X o name apos cpos e es := by exact ⟨rfl, rfl, rfl, rfl, rfl⟩) :
    PE X (.Call (.Attribute o name apos) (e :: es) [] cpos) (LE X.K Ex (tTM3 r3 to t)) :=
  pe_imp (pe_tm slot hty hm ho ha mc) fun σ H Q ⟨F, S, τ, Q3, R, Ev, h, k⟩ => ⟨F, S, τ, _, R, Ev, h, fun F1 S1 H1 w x s1 R1 r1 ⟨⟨ds, hl⟩, h1⟩ => by
    subst hl
    have r1' := r1
    cases (show Dp X.K F1.f x (.tuple ds) from r1) with
    | tup ht ha2 =>
      exact ⟨⟨_, _, rfl, ht.mono R1.same⟩, F1, S1, τ, _, R1, Ev.mono s1, h1, fun F2 S2 H2 ws vs s2 R2 r2 h2 => l F2 S2 H2 _ ws _ vs Q3 Q R2 (r1'.mono s2) r2 h2 (k.mono (s1.trans s2))⟩⟩
def gTIx : RM3 := fun w ws S Q => ∃ (ns : List Int) (k : Int), w = .tup (ns.map PyData.int) ∧ ws = [.int k] ∧ k ∈ ns ∧ Q (.int (ns.idxOf k : Nat)) S
theorem l_tix {K : PySem.W.Frag} : MtL K gTIx (fun x xs H Q => ∃ (p : Addr) (ns : List Int) (k : Int), x = .ref p ∧ xs = [.int k] ∧ SqT K H p (ns.map V.int) ∧ k ∈ ns ∧ Q (.int (ns.idxOf k : Nat)) H) := fun F S H w ws x vs Q3 Q R rw rs ⟨ns, k, e1, e2, hk, q⟩ kk => by
  subst e1 e2
  obtain ⟨v, rfl, rv⟩ := ws1 rs
  obtain ⟨_, a, us, rfl, hs, ha⟩ := tup_rep R rw rfl
  have e3 := ints_of ha
  subst e3
  exact ⟨a, ns, k, rfl, by rw [rep_int rv], hs, hk, kk F S H _ _ (Sm.refl F) R mk_int q⟩
end
section
variable {K : PySem.W.Frag}
theorem rep_flat {F : Fz} {ws : List W} {vs : List V} (h : RepWs K F ws vs) : ∀ n, RepWs K F (List.replicate n ws).flatten (List.replicate n vs).flatten
  | 0 => .nil
  | n + 1 => by
    simp only [List.replicate_succ, List.flatten_cons]
    exact rep_app h (rep_flat h n)
/-- xs * n, to be changed -/
def gRepM : R3 := fun w u S Q => ∃ a k ws, w = .r a ∧ u = .int k ∧ S a = some (.lst ws) ∧ -(2 ^ 63) ≤ k ∧ k < 2 ^ 63 ∧ ws.length * k.toNat ≤ sizeLine ∧ ∀ p, S p = none → Q (.r p) (put S p (.lst (List.replicate k.toNat ws).flatten))
theorem l_repM : OpL K gRepM rRep := fun F S H w u x y Q3 Q R rw ru ⟨a, n, ws, e1, e2, h, h1, h2, hz, q⟩ k => by
  subst e1 e2
  obtain ⟨xs, hx, rx⟩ := rd_lst R h
  exact ⟨a, n, xs, rw, rep_int ru, hx, h1, h2, by rw [← Paired.length rx]; exact hz, fun p hp => k _ _ _ (.r p) _ (Sm.refl F) (newMut R hp (rep_flat rx _)) (show V.ref p = V.ref p from rfl) (q p (R.freeS hp))⟩
/-- xs + ys, to be changed -/
def gCatM : R3 := fun w u S Q => ∃ a b ws us, w = .r a ∧ u = .r b ∧ S a = some (.lst ws) ∧ S b = some (.lst us) ∧ ws.length + us.length ≤ sizeLine ∧ ∀ p, S p = none → Q (.r p) (put S p (.lst (ws ++ us)))
theorem l_catM : OpL K gCatM rCat := fun F S H w u x y Q3 Q R rw ru ⟨a, b, ws, us, e1, e2, h, h2, hz, q⟩ k => by
  subst e1 e2
  obtain ⟨xs, hx, rx⟩ := rd_lst R h
  obtain ⟨ys, hy, ry⟩ := rd_lst R h2
  exact ⟨a, b, xs, ys, rw, ru, hx, hy, by rw [← Paired.length rx, ← Paired.length ry]; exact hz, fun p hp => k _ _ _ (.r p) _ (Sm.refl F) (newMut R hp (rep_app rx ry)) (show V.ref p = V.ref p from rfl) (q p (R.freeS hp))⟩
theorem rep_take {F : Fz} : ∀ {ws : List W} {vs : List V} (n : Nat), RepWs K F ws vs → RepWs K F (ws.take n) (vs.take n)
  | _, _, 0, _ => by simp; exact .nil
  | _, _, n + 1, .nil => by simp; exact .nil
  | _, _, n + 1, .cons a t => .cons a (rep_take n t)
theorem rep_drop {F : Fz} : ∀ {ws : List W} {vs : List V} (n : Nat), RepWs K F ws vs → RepWs K F (ws.drop n) (vs.drop n)
  | _, _, 0, h => by simpa using h
  | _, _, n + 1, .nil => by simp; exact .nil
  | _, _, n + 1, .cons a t => rep_drop n t
theorem rep_cut {F : Fz} {ws : List W} {vs : List V} (h : RepWs K F ws vs) (lo hi : Option Int) : RepWs K F (cutG ws lo hi) (cutV vs lo hi) := by
  unfold cutG cutV
  rw [Paired.length h]
  exact rep_take _ (rep_drop _ h)
/-- a list's slice, to be changed -/
def gSlM : W → Option Int → Option Int → Sto → K3 → Prop := fun w lo hi S Q => ∃ ds, viewW S w = some (.list ds) ∧ ∀ p, S p = none → Q (.r p) (put S p (.lst ((cutG ds lo hi).map W.d)))
theorem l_slM : SlL K gSlM (rSlL K) := fun F S H w x lo hi Q3 Q R rw ⟨ds, hd, q⟩ k => by
  obtain ⟨a, vs, rfl, hs, ha, _⟩ := list_rep R rw hd
  exact ⟨a, vs, rfl, hs, fun p hp => k _ _ _ (.r p) _ (Sm.refl F) (newMut R hp (repWs_of_all (dpAll_cut ha lo hi))) (show V.ref p = V.ref p from rfl) (q p (R.freeS hp))⟩
end

section
variable {X : Cx} {K : PySem.W.Frag}
/-- a list's or a tuple's slice, to stay -/
def rSlB (K : PySem.W.Frag) : V → Option Int → Option Int → Hp → VK → Prop := fun x lo hi H Q => rSlN K x lo hi H Q ∨ rSlL K x lo hi H Q
theorem sl_both : SlR X (rSlB X.K) := fun pins s σ H x v vl vu lo hi sl Q I rx hs pl pu h => h.elim (sl_tupN pins s σ H x v vl vu lo hi sl Q I rx hs pl pu) (sl_list pins s σ H x v vl vu lo hi sl Q I rx hs pl pu)
def gSlB : W → Option Int → Option Int → Sto → K3 → Prop := fun w lo hi S Q => gSlT w lo hi S Q ∨ gSlL w lo hi S Q
theorem l_slB : SlL K gSlB (rSlB K) := fun F S H w x lo hi Q3 Q R rw h k => h.imp (fun h => l_slT F S H w x lo hi Q3 Q R rw h k) (fun h => l_slL F S H w x lo hi Q3 Q R rw h k)
end
/-! ### sorted(xs) of data that are alike -/
/-- what stands where in the sorted list stood somewhere before -/
def rSortD (K : PySem.W.Frag) : List V → Hp → VK → Prop := fun vs H Q => ∃ (a : Addr) (xs : List V) (ds : List PyData), vs = [V.ref a] ∧ SqL K H a xs ∧ L2.DpAll K H xs ds ∧ PySem.W.AllAlike ds ∧ PySem.W.Sortable ds ∧ ds.length ≤ sizeLine ∧ (∀ d ∈ ds, d.depth ≤ 60) ∧
  ∀ (ys : List V) (p : Addr), Paired (fun y d => (y, d) ∈ xs.zip ds) ys (ds.mergeSort (PySem.W.dataLe false id)) → H p = none → Q (.ref p) (upd H p (.lst ys))
theorem each_reads {X : Cx} {pins : List (Addr × Obj)} {σ : L2.St} {H : Hp} {s : Shared} (I : Inv X pins σ H s) : ∀ {xs : List V} {us : List Value} {ds : List PyData}, L2.DpAll X.K H xs ds → Vals xs us → PySem.W.EachIs (fun v d => ∃ as, Reads s.heap v d as) us ds
  | _, _, _, .nil, .nil => .nil
  | _, _, _, .cons h t, .cons r rs => .cons (L2.Dp.reads I _ _ _ h r) (each_reads I t rs)
theorem each_pair {K : PySem.W.Frag} {H : Hp} {P : V → PyData → Prop} : ∀ {xs : List V} {us : List Value} {ds : List PyData}, (∀ p ∈ xs.zip ds, P p.1 p.2) → L2.DpAll K H xs ds → Vals xs us → PySem.W.EachIs (fun v d => ∃ x, RelV x v ∧ P x d) us ds
  | _, _, _, _, .nil, .nil => .nil
  | _, _, _, h, .cons _ t, .cons r rs => .cons ⟨_, r, h (_, _) List.mem_cons_self⟩ (each_pair (fun p hp => h p (List.mem_cons_of_mem _ hp)) t rs)
theorem each_out {P : V → PyData → Prop} : ∀ {us : List Value} {ds : List PyData}, PySem.W.EachIs (fun v d => ∃ x, RelV x v ∧ P x d) us ds → ∃ ys, Vals ys us ∧ Paired P ys ds
  | _, _, .nil => ⟨[], .nil, .nil⟩
  | _, _, .cons ⟨x, r, h⟩ t => by
    obtain ⟨ys, r2, h2⟩ := each_out t
    exact ⟨x :: ys, .cons r r2, .cons h h2⟩
theorem dpAllL_len {K : PySem.W.Frag} {H : Hp} : ∀ {vs : List V} {ds : List PyData}, L2.DpAll K H vs ds → vs.length = ds.length
  | _, _, .nil => rfl
  | _, _, .cons _ t => congrArg Nat.succ (dpAllL_len t)
theorem cr_sortD {X : Cx} (hu : X.A.units + 70 < cLine) : CallR X (.builtin "sorted") (rSortD X.K) := by
  rintro pins s σ H _ us Q I rr ⟨a, xs, ds, rfl, hs, hd, al, so, hz, dp, q⟩
  obtain ⟨its, rv, pl, _⟩ := I.list hs
  rw [Vals.ref1 rr]
  have hlen := dpAllL_len hd
  have e1 := each_pair (P := fun y d => (y, d) ∈ xs.zip ds) (fun p hp => hp) hd rv
  refine PySem.W.sorted_data (enc := id) (bs := ds) (vs := its) pl.isList e1 (each_reads I hd rv) (by rw [List.map_id]; exact al) (by rw [List.map_id]; exact so) hz (fun d hd => ?_) fun out ho hO => ?_
  · have := dp d hd
    show X.A.units + 2 + d.depth < cLine
    omega
  · obtain ⟨ys, r2, h2⟩ := each_out hO
    obtain ⟨ep, at'⟩ := PyProof.Rows.sortedAll_at s.heap its (List.toArray out)
    have hyl : ys.length ≤ sizeLine := by rw [r2.length, ho]; exact hz
    exact ⟨.ref _, _, I.laid (t' := s.toks) (o := .lst ys) (fun _ _ => PyProof.Rows.sortedAll_old) (Nat.le_succ _) ⟨hyl, out, ep, r2, at'⟩, rfl, q ys _ h2 (I.hok.fresh (Nat.le_succ _))⟩
def gSorted : RC3 := fun ws S Q => ∃ w ds, ws = [w] ∧ viewW S w = some (.list ds) ∧ PySem.W.AllAlike ds ∧ PySem.W.Sortable ds ∧ ds.length ≤ sizeLine ∧ (∀ d ∈ ds, d.depth ≤ 60) ∧ Q (.lst (ds.mergeSort (PySem.W.dataLe false id))) S
theorem dpAll_zip {K : PySem.W.Frag} {F : Hp} : ∀ {xs : List V} {ds : List PyData}, DpAll K F xs ds → ∀ p ∈ xs.zip ds, Dp K F p.1 p.2
  | _, _, .nil, p, h => by cases h
  | _, _, .cons a t, p, h => by
    cases List.mem_cons.mp h with
    | inl e => rw [e]; exact a
    | inr e => exact dpAll_zip t p e
theorem dpAll_paired {K : PySem.W.Frag} {F : Hp} {P : V → PyData → Prop} (h : ∀ v d, P v d → Dp K F v d) : ∀ {ys : List V} {ds : List PyData}, Paired P ys ds → DpAll K F ys ds
  | _, _, .nil => .nil
  | _, _, .cons a t => .cons (h _ _ a) (dpAll_paired h t)
theorem l_sorted {K : PySem.W.Frag} : CallL K gSorted (rSortD K) := fun F S H ws vs Q3 Q R r ⟨w, ds, e, hd, al, so, hz, dp, q⟩ k => by
  subst e
  obtain ⟨v, rfl, rv⟩ := ws1 r
  obtain ⟨a, us, rfl, hs, ha, _⟩ := list_rep R rv hd
  refine ⟨a, us, ds, rfl, hs, (dpAll_mono R.same ha).q, al, so, hz, dp, fun ys p hy hp => ?_⟩
  obtain ⟨s, R', rw'⟩ := newLst R hp (dpAll_paired (fun v d hm => dpAll_zip ha (v, d) hm) hy)
  exact k _ S _ _ _ s R' rw' q

/-! ### what stays in a store -/
/-- all that was there is there still, but at these places -/
def Kp (as : List Addr) (S S' : Sto) : Prop := ∀ b o, b ∉ as → S b = some o → S' b = some o
theorem Kp.refl {as : List Addr} {S : Sto} : Kp as S S := fun _ _ _ h => h
theorem Kp.trans {as : List Addr} {S S1 S2 : Sto} (a : Kp as S S1) (b : Kp as S1 S2) : Kp as S S2 := fun c o hc h => b c o hc (a c o hc h)
theorem Kp.more {as bs : List Addr} {S S1 : Sto} (a : Kp as S S1) (h : ∀ x ∈ as, x ∈ bs) : Kp bs S S1 := fun c o hc e => a c o (fun q => hc (h c q)) e
theorem Kp.put {as : List Addr} {S S1 : Sto} {p : Addr} {o : SO} (u : Kp as S S1) (h : p ∈ as) : Kp as S (H3.put S1 p o) := fun c v hc e => by
  rw [put_ne (fun q => hc (by rw [q]; exact h))]
  exact u c v hc e
theorem Kp.new {as : List Addr} {S S1 : Sto} {p : Addr} {o : SO} (u : Kp as S S1) (h : S1 p = none) : Kp as S (H3.put S1 p o) := fun c v hc e => by
  have e1 := u c v hc e
  rw [put_ne (fun q => by subst q; rw [h] at e1; cases e1)]
  exact e1
theorem Kp.wr {as : List Addr} {S S1 : Sto} {p : Addr} {o : SO} (u : Kp as S S1) (h : S p = none) : Kp as S (H3.put S1 p o) := fun c v hc e => by
  rw [put_ne (fun q => by subst q; rw [h] at e; cases e)]
  exact u c v hc e
theorem Kp.drp {as : List Addr} {S S1 : Sto} {p : Addr} (u : Kp as S S1) (h : S p = none) : Kp as S (H3.drp S1 p) := fun c v hc e => by
  rw [drp_ne (fun q => by subst q; rw [h] at e; cases e)]
  exact u c v hc e
theorem Upto.kp {as : List Addr} {S S1 : Sto} (u : Upto as S S1) : Kp as S S1 := fun c o hc e => by rw [u c hc]; exact e
theorem Kp.sub {S S1 : Sto} (u : Kp [] S S1) : Sub S S1 := fun c o e => u c o (by simp) e
/-- fresh later is fresh before -/
theorem Kp.none {as : List Addr} {S S1 : Sto} {p : Addr} (u : Kp as S S1) (h : S1 p = Option.none) (hp : p ∉ as) : S p = Option.none := by
  cases e : S p with
  | none => rfl
  | some o => rw [u p o hp e] at h; cases h
/-- of what a def leaves, only a deal's two places -/
def two (dl d1 : Addr) (S S' : Sto) : Sto := fun b => if b = dl ∨ b = d1 then S' b else S b
theorem two_sub {dl d1 : Addr} {S S' : Sto} (u : Kp [dl, d1] S S') : Sub (two dl d1 S S') S' := fun b o e => by
  unfold two at e
  split at e
  · exact e
  · rename_i h
    exact u b o (by simpa using h) e
theorem two_upto {dl d1 : Addr} {S S' : Sto} : Upto [dl, d1] S (two dl d1 S S') := fun b hb => if_neg (by simpa using hb)
theorem two_deal {dl d1 : Addr} {S S' : Sto} (h : Deal S' dl d1) : Deal (two dl d1 S S') dl d1 := h.up' fun b e => if_pos e
end H3

namespace H3
open PySem PySem.Spec L2
open PyProof.Rows hiding St

/-! ### turnings: plain law -/
def PmP (n : Nat) (a : List Nat) : Prop := a.length = n ∧ a.Nodup ∧ ∀ x ∈ a, x < n
instance {n : Nat} {a : List Nat} : Decidable (PmP n a) := by unfold PmP; infer_instance
def jn (a b : List Nat) : List Nat := a.map fun i => b.getD i 0
def iv (a : List Nat) : List Nat := (List.range a.length).map fun k => a.idxOf k
def cm (a b : List Nat) : List Nat := jn (jn a b) (jn (iv a) (iv b))
def cj (a b : List Nat) : List Nat := jn (jn (iv b) a) b
theorem nodup_map_on {α β : Type} (f : α → β) : ∀ {l : List α}, (∀ x ∈ l, ∀ y ∈ l, f x = f y → x = y) → l.Nodup → (l.map f).Nodup
  | [], _, _ => List.nodup_nil
  | x :: l, h, hn => by
    have ⟨h1, h2⟩ := List.nodup_cons.mp hn
    refine List.nodup_cons.mpr ⟨fun hm => ?_, nodup_map_on f (fun a ha b hb => h a (List.mem_cons_of_mem _ ha) b (List.mem_cons_of_mem _ hb)) h2⟩
    obtain ⟨y, hy, e⟩ := List.mem_map.mp hm
    have := h y (List.mem_cons_of_mem _ hy) x List.mem_cons_self e
    subst this
    exact h1 hy
theorem getD_lt {b : List Nat} {i : Nat} (h : i < b.length) : b.getD i 0 = b[i] := by rw [List.getD_eq_getElem?_getD, List.getElem?_eq_getElem h]; rfl
section
variable {n : Nat} {a b c : List Nat}
theorem PmP.mem (h : PmP n a) {k : Nat} (hk : k < n) : k ∈ a := by
  apply Classical.byContradiction
  intro hn
  have h1 : (k :: a).Nodup := List.nodup_cons.mpr ⟨hn, h.2.1⟩
  have h2 := h1.length_le_of_subset (l₂ := List.range n) fun x hx => by
    rw [List.mem_range]
    rcases List.mem_cons.mp hx with e | e
    · rw [e]; exact hk
    · exact h.2.2 x e
  rw [List.length_cons, List.length_range, h.1] at h2
  omega
theorem jn_ok (ha : PmP n a) (hb : PmP n b) : PmP n (jn a b) := by
  unfold jn
  refine ⟨by rw [List.length_map]; exact ha.1, nodup_map_on _ (fun x hx y hy e => ?_) ha.2.1, fun x hx => ?_⟩
  · have h1 : x < b.length := by rw [hb.1]; exact ha.2.2 x hx
    have h2 : y < b.length := by rw [hb.1]; exact ha.2.2 y hy
    rw [getD_lt h1, getD_lt h2] at e
    exact (List.getElem_inj hb.2.1).mp e
  · obtain ⟨i, hi, rfl⟩ := List.mem_map.mp hx
    have h1 : i < b.length := by rw [hb.1]; exact ha.2.2 i hi
    rw [getD_lt h1]
    exact hb.2.2 _ (List.getElem_mem h1)
theorem jn_assoc (ha : ∀ x ∈ a, x < b.length) : jn (jn a b) c = jn a (jn b c) := by
  unfold jn
  rw [List.map_map]
  refine List.map_congr_left fun i hi => ?_
  have h1 := ha i hi
  show c.getD (b.getD i 0) 0 = (b.map fun i => c.getD i 0).getD i 0
  rw [getD_lt (b := b.map fun i => c.getD i 0) (i := i) (by rw [List.length_map]; exact h1), List.getElem_map, getD_lt h1]
theorem hm_ok : PmP n (List.range n) := ⟨List.length_range, List.nodup_range, fun x hx => List.mem_range.mp hx⟩
theorem hm_jn (h : a.length = n) : jn (List.range n) a = a := by
  unfold jn
  apply List.ext_getElem
  · rw [List.length_map, List.length_range, h]
  · intro i h1 h2
    rw [List.getElem_map, List.getElem_range, getD_lt h2]
theorem jn_hm (h : ∀ x ∈ a, x < n) : jn a (List.range n) = a := by
  have e : ∀ i ∈ a, (List.range n).getD i 0 = id i := fun i hi => by
    have h1 := h i hi
    rw [getD_lt (by rw [List.length_range]; exact h1), List.getElem_range]; rfl
  unfold jn
  rw [List.map_congr_left e, List.map_id]
theorem iv_ok (h : PmP n a) : PmP n (iv a) := by
  unfold iv
  rw [h.1]
  refine ⟨by rw [List.length_map, List.length_range], nodup_map_on _ (fun x hx y hy e => ?_) List.nodup_range, fun x hx => ?_⟩
  · have h1 := h.mem (List.mem_range.mp hx)
    have h2 := h.mem (List.mem_range.mp hy)
    have e1 := List.getElem_idxOf (List.idxOf_lt_length_of_mem h1)
    have e2 := List.getElem_idxOf (List.idxOf_lt_length_of_mem h2)
    rw [← e1, ← e2]
    congr 1
  · obtain ⟨k, hk, rfl⟩ := List.mem_map.mp hx
    have := List.idxOf_lt_length_of_mem (h.mem (List.mem_range.mp hk))
    rw [h.1] at this
    exact this
theorem iv_getD {k : Nat} (hk : k < a.length) : (iv a).getD k 0 = a.idxOf k := by
  unfold iv
  rw [getD_lt (by rw [List.length_map, List.length_range]; exact hk), List.getElem_map, List.getElem_range]
theorem jn_iv (h : PmP n a) : jn a (iv a) = List.range n := by
  unfold jn
  apply List.ext_getElem
  · rw [List.length_map, List.length_range, h.1]
  · intro i h1 h2
    have hi : i < a.length := by rw [h.1]; simpa using h2
    rw [List.getElem_map, List.getElem_range]
    rw [iv_getD (Nat.lt_of_lt_of_eq (h.2.2 _ (List.getElem_mem hi)) h.1.symm)]
    exact h.2.1.idxOf_getElem i hi
theorem iv_jn (h : PmP n a) : jn (iv a) a = List.range n := by
  unfold jn iv
  rw [List.map_map, h.1]
  have e : ∀ k ∈ List.range n, ((fun i => a.getD i 0) ∘ fun k => a.idxOf k) k = id k := fun k hk => by
    have h1 := List.idxOf_lt_length_of_mem (h.mem (List.mem_range.mp hk))
    show a.getD (a.idxOf k) 0 = k
    rw [getD_lt h1, List.getElem_idxOf h1]
  rw [List.map_congr_left e, List.map_id]
end
/-- turnings of n states, as a group -/
def Pm (n : Nat) := { a : List Nat // PmP n a }
section
variable {n : Nat}
instance : Mul (Pm n) := ⟨fun a b => ⟨jn a.1 b.1, jn_ok a.2 b.2⟩⟩
instance : Inv (Pm n) := ⟨fun a => ⟨iv a.1, iv_ok a.2⟩⟩
instance : One (Pm n) := ⟨⟨List.range n, hm_ok⟩⟩
theorem pm_assoc (a b c : Pm n) : a * b * c = a * (b * c) := Subtype.ext (jn_assoc fun x hx => by rw [b.2.1]; exact a.2.2.2 x hx)
theorem pm_one_mul (a : Pm n) : 1 * a = a := Subtype.ext (hm_jn a.2.1)
theorem pm_mul_one (a : Pm n) : a * 1 = a := Subtype.ext (jn_hm a.2.2.2)
theorem pm_inv_mul (a : Pm n) : a⁻¹ * a = 1 := Subtype.ext (iv_jn a.2)
theorem pm_mul_inv (a : Pm n) : a * a⁻¹ = 1 := Subtype.ext (jn_iv a.2)
theorem pm_ic (a b : Pm n) : a⁻¹ * (a * b) = b := by rw [← pm_assoc, pm_inv_mul, pm_one_mul]
theorem pm_ci (a b : Pm n) : a * (a⁻¹ * b) = b := by rw [← pm_assoc, pm_mul_inv, pm_one_mul]
theorem pm_inv_of {a b : Pm n} (h : a * b = 1) : a⁻¹ = b := by
  have e := pm_ic a b
  rw [h, pm_mul_one] at e
  exact e
theorem pm_inv_rev (a b : Pm n) : (a * b)⁻¹ = b⁻¹ * a⁻¹ := pm_inv_of (by rw [pm_assoc, pm_ci, pm_mul_inv])
theorem pm_inv_inv (a : Pm n) : a⁻¹⁻¹ = a := pm_inv_of (pm_inv_mul a)
theorem pm_one_inv : (1 : Pm n)⁻¹ = 1 := pm_inv_of (pm_one_mul 1)
/-- powers -/
def pw (x : Pm n) : Nat → Pm n
  | 0 => 1
  | k + 1 => x * pw x k
theorem pw_sq (x : Pm n) : ∀ k, pw (x * x) k = pw x (2 * k)
  | 0 => rfl
  | k + 1 => by
    show x * x * pw (x * x) k = x * (x * pw x (2 * k))
    rw [pw_sq x k, pm_assoc]
theorem pw_two (x : Pm n) : pw x 2 = x * x := by
  show x * (x * 1) = _
  rw [pm_mul_one]
def cmP (a b : Pm n) : Pm n := a * b * (a⁻¹ * b⁻¹)
def cjP (a b : Pm n) : Pm n := b⁻¹ * a * b
theorem cm_inv (a b : Pm n) : (cmP a b)⁻¹ = cmP b a := by simp only [cmP, pm_inv_rev, pm_inv_inv, pm_assoc]
theorem cm_one_iff (a b : Pm n) : cmP a b = 1 ↔ a * b = b * a := by
  constructor
  · intro h
    have e : a * b * (a⁻¹ * b⁻¹) * (b * a) = a * b := by rw [pm_assoc (a * b), pm_assoc a⁻¹, pm_ic, pm_inv_mul, pm_mul_one]
    rw [show a * b * (a⁻¹ * b⁻¹) = 1 from h, pm_one_mul] at e
    exact e.symm
  · intro h
    show a * b * (a⁻¹ * b⁻¹) = 1
    rw [h, pm_assoc, pm_ci, pm_mul_inv]
theorem cm_self (a : Pm n) : cmP a a = 1 := (cm_one_iff a a).mpr rfl
theorem cm_one (a : Pm n) : cmP a 1 = 1 := (cm_one_iff a 1).mpr (by rw [pm_mul_one, pm_one_mul])
theorem one_cm (a : Pm n) : cmP 1 a = 1 := (cm_one_iff 1 a).mpr (by rw [pm_mul_one, pm_one_mul])
theorem cj_mul (a b : Pm n) : b * cjP a b = a * b := by simp only [cjP, pm_assoc, pm_ci]
theorem parts_l (a b m : Pm n) : cmP (a * b) m = cjP (cmP b m) a⁻¹ * cmP a m := by simp only [cmP, cjP, pm_inv_rev, pm_inv_inv, pm_assoc, pm_ic]
theorem parts_r (a b m : Pm n) : cmP m (a * b) = cmP m a * cjP (cmP m b) a⁻¹ := by simp only [cmP, cjP, pm_inv_rev, pm_inv_inv, pm_assoc, pm_ic]
theorem cj_pw (a b : Pm n) : cjP (pw a 2) b = pw (cjP a b) 2 := by
  rw [pw_two, pw_two]
  simp only [cjP, pm_assoc, pm_ci]
/-- folds -/
def foldP (a : Pm n) (as : List (Pm n)) : Pm n := as.foldl cmP a
theorem fold_one : ∀ (as : List (Pm n)), foldP (1 : Pm n) as = 1
  | [] => rfl
  | a :: as => by
    show foldP (cmP 1 a) as = 1
    rw [one_cm]; exact fold_one as
theorem fold_home : ∀ (as : List (Pm n)) (a : Pm n), as ≠ [] → (1 : Pm n) ∈ a :: as → foldP a as = 1
  | [], _, h, _ => absurd rfl h
  | b :: as, a, _, hm => by
    show foldP (cmP a b) as = 1
    cases (List.mem_cons.mp hm : (1 : Pm n) = a ∨ _) with
    | inl e => rw [← e, one_cm]; exact fold_one as
    | inr e =>
      cases List.mem_cons.mp e with
      | inl e => rw [← e, cm_one]; exact fold_one as
      | inr e => exact fold_home as _ (fun q => by subst q; cases e) (List.mem_cons_of_mem _ e)
end
theorem rgD_zero {m : Int} : rgD 0 m = ((List.range m.toNat).map fun i => ((i : Nat) : Int)).map PyData.int := by
  unfold rgD
  rw [List.map_map, Int.sub_zero]
  apply List.map_congr_left; intro i _
  show PyData.int (0 + (i : Nat)) = PyData.int (i : Nat)
  rw [Int.zero_add]
/-! as data -/
def ci (a : List Nat) : List Int := a.map fun k : Nat => (k : Int)
def ti (a : List Nat) : PyData := .tuple ((ci a).map PyData.int)
theorem ci_inj {a b : List Nat} : ci a = ci b ↔ a = b := by
  constructor
  · intro h
    have e : (ci a).map Int.toNat = (ci b).map Int.toNat := by rw [h]
    unfold ci at e
    simp only [List.map_map] at e
    have f : (Int.toNat ∘ fun k : Nat => (k : Int)) = id := by funext k; simp
    rw [f, List.map_id, List.map_id] at e
    exact e
  · intro h; rw [h]
theorem eqvAll_ints : ∀ ns ms : List Int, PyData.eqvAll (ns.map PyData.int) (ms.map PyData.int) = decide (ns = ms)
  | [], [] => rfl
  | [], _ :: _ => rfl
  | _ :: _, [] => rfl
  | n :: ns, m :: ms => by
    show (PyData.eqv (.int n) (.int m) && PyData.eqvAll (ns.map PyData.int) (ms.map PyData.int)) = _
    rw [eqvAll_ints ns ms, eqv_int, ← Bool.decide_and]
    exact decide_eq_decide.mpr (by simp)
theorem eqv_ti {a b : List Nat} : PyData.eqv (ti a) (ti b) = decide (a = b) := by
  show PyData.eqvAll ((ci a).map PyData.int) ((ci b).map PyData.int) = _
  rw [eqvAll_ints]
  exact decide_eq_decide.mpr ci_inj
theorem shaped_ti (a : List Nat) : SeqAt.shaped (ti a) = true := shaped_intsT _
theorem lay_ti (a : List Nat) : (ti a).canLay0 = true := canLayAll_map _ (fun _ => rfl) _
theorem fine_ti {a : List Nat} {n : Nat} (h : PmP n a) (hn : n ≤ 100) : Fine 1 30000 (ti a) := by
  refine Fine.tuple (k := 0) (w := 200) (fun x hx => ?_) ?_
  · obtain ⟨i, hi, rfl⟩ := List.mem_map.mp hx
    have ⟨k, hk, ek⟩ := List.mem_map.mp hi
    subst ek
    have := h.2.2 k hk
    exact Fine.ofInt (show (k : Int).natAbs < 10 ^ 50 by omega)
  · rw [List.length_map, ci, List.length_map, h.1]; omega
theorem len_ti {S : Sto} {a : List Nat} : lenW S (.d (ti a)) = some a.length := by
  show some (((ci a).map PyData.int).map W.d).length = _
  rw [List.length_map, List.length_map, ci, List.length_map]
theorem ix_ti {S : Sto} {a : List Nat} {i : Nat} (h : i < a.length) : ixW S (i : Int) (.d (ti a)) = some (.int (a.getD i 0 : Nat)) := by
  show atI (((ci a).map PyData.int).map W.d) (i : Int) = _
  apply atI_nat
  rw [List.getElem?_map, List.getElem?_map, ci, List.getElem?_map, List.getElem?_eq_getElem h, getD_lt h]; rfl
theorem rgD_ti {n : Nat} : rgD 0 (n : Int) = (ci (List.range n)).map PyData.int := by rw [rgD_zero]; rfl
end H3

namespace H3
open PySem PySem.Spec L2
open PyProof.Rows hiding St
/-! ### the program's turnings -/
def sq_joined : Sp3 := fun ws S Q _ => ∃ a b, ws = [.d (ti a), .d (ti b)] ∧ a.length ≤ 1000 ∧ (∀ x ∈ a, x < b.length) ∧ Q (.d (ti (jn a b))) S
def sp_joined : Sp3 := fun ws S Q E => Bx (sq_joined ws S Q E)
theorem len_joined : ∀ ws S Q E, sp_joined ws S Q E → ws.length = 2 := fun ws S Q E ⟨a, b, e, _⟩ => by rw [e]; rfl
def rd_joined : TS3 := (tRet3 (tCB3 gTuple (tCons3 (tLcD3 (tSeqI3 (tVar3 0)) (gName3 2) tYes3 (tOp3 gIx (tVar3 1) (tVar3 2)) [2]) tNil3)))
theorem mw_ti (a : List Nat) : ((ci a).map PyData.int).map W.d = a.map fun k => W.int (k : Nat) := by rw [ci, List.map_map, List.map_map]; rfl
theorem join_eq (a b : List Nat) : (a.map fun k => W.int (k : Nat)).map (fun w => match w with | .d (.int i) => W.int (b.getD i.toNat 0 : Nat) | w => w) = ((ci (jn a b)).map PyData.int).map W.d := by
  rw [mw_ti, jn, List.map_map, List.map_map]; rfl
theorem sem_joined : ∀ ws S Q E, sp_joined ws S Q E → rd_joined (DQ Q) (start3 3 ws E) S := fun ws S Q E ⟨a, b, e, hl, hb, q⟩ => by
  subst e
  refine ⟨_, rfl, _, .inr rfl, by rw [mw_ti, List.length_map]; omega, ?_⟩
  rw [mw_ti]
  refine lcGo_map (fun w => match w with | .d (.int i) => W.int (b.getD i.toNat 0 : Nat) | w => w) (fun w hw A h => ?_) ?_
  · obtain ⟨k, hk, rfl⟩ := List.mem_map.mp hw
    exact ⟨_, rfl, _, rfl, _, _, rfl, ix_ti (hb k hk), h⟩
  · exact ⟨_, join_eq a b, _, _, rfl, rfl, _, Sub.refl _, q⟩
/-- a map of n states -/
def MpP (n : Nat) (a : List Nat) : Prop := a.length = n ∧ ∀ x ∈ a, x < n
theorem PmP.mp {n : Nat} {a : List Nat} (h : PmP n a) : MpP n a := ⟨h.1, h.2.2⟩
theorem jn_mp {n : Nat} {a b : List Nat} (ha : MpP n a) (hb : MpP n b) : MpP n (jn a b) := by
  unfold jn
  refine ⟨by rw [List.length_map]; exact ha.1, fun x hx => ?_⟩
  obtain ⟨i, hi, rfl⟩ := List.mem_map.mp hx
  have h1 : i < b.length := by rw [hb.1]; exact ha.2 i hi
  rw [getD_lt h1]
  exact hb.2 _ (List.getElem_mem h1)
theorem hm_mp {n : Nat} : MpP n (List.range n) := hm_ok.mp
theorem jn_all_mp {n : Nat} : ∀ {as : List (List Nat)} {f : List Nat}, MpP n f → (∀ a ∈ as, MpP n a) → MpP n (as.foldl jn f)
  | [], _, h, _ => h
  | a :: as, f, h, ha => jn_all_mp (as := as) (jn_mp h (ha a List.mem_cons_self)) fun b hb => ha b (List.mem_cons_of_mem _ hb)
/-- n states -/
def Tis (w : W) (ds : List PyData) : Prop := w = .lst ds ∨ w = .tup ds
def sq_joined_all : Sp3 := fun ws S Q _ => ∃ (n : Nat) (w : W) (as : List (List Nat)), ws = [.int n, w] ∧ Tis w (as.map ti) ∧ n ≤ 1000 ∧ (∀ a ∈ as, MpP n a) ∧ Q (.d (ti (as.foldl jn (List.range n)))) S
def sp_joined_all : Sp3 := fun ws S Q E => Bx (sq_joined_all ws S Q E)
theorem len_joined_all : ∀ ws S Q E, sp_joined_all ws S Q E → ws.length = 2 := fun ws S Q E ⟨n, w, as, e, _⟩ => by rw [e]; rfl
def rb_joined_all_0 : TS3 := (tSet3 2 (tCall3 sp_joined (tCons3 (tVar3 2) (tCons3 (tVar3 3) tNil3))))
def rd_joined_all : TS3 := (tSeq3 (tSet3 2 (tCall3 sp_still (tCons3 (tVar3 0) tNil3))) (tSeq3 (tFor3 (tSeqI3 (tVar3 1)) (gName3 3) rb_joined_all_0) (tRet3 (tVar3 2))))
theorem still_ti {n : Nat} {S : Sto} {Q : K3} {E : X3} (hn : n ≤ 1000) (q : Q (.d (ti (List.range n))) S) : sp_still [.int n] S Q E := ⟨n, rfl, by omega, by omega, by rw [rgD_ti]; exact q⟩
theorem jn_all_ok {n : Nat} : ∀ {as : List (List Nat)} {f : List Nat}, PmP n f → (∀ a ∈ as, PmP n a) → PmP n (as.foldl jn f)
  | [], _, h, _ => h
  | a :: as, f, h, ha => jn_all_ok (as := as) (jn_ok h (ha a List.mem_cons_self)) fun b hb => ha b (List.mem_cons_of_mem _ hb)
theorem join_P {n : Nat} {a b : List Nat} {S : Sto} {Q : K3} {E : X3} (ha : PmP n a) (hb : PmP n b) (hn : n ≤ 1000) (q : Q (.d (ti (jn a b))) S) : sp_joined [.d (ti a), .d (ti b)] S Q E :=
  ⟨a, b, rfl, by rw [ha.1]; exact hn, fun x hx => by rw [hb.1]; exact ha.2.2 x hx, q⟩
theorem join_M {n : Nat} {a b : List Nat} {S : Sto} {Q : K3} {E : X3} (ha : MpP n a) (hb : MpP n b) (hn : n ≤ 1000) (q : Q (.d (ti (jn a b))) S) : sp_joined [.d (ti a), .d (ti b)] S Q E :=
  ⟨a, b, rfl, by rw [ha.1]; exact hn, fun x hx => by rw [hb.1]; exact ha.2 x hx, q⟩
theorem get_map {α β : Type} {f : α → β} {l : List α} {i : Nat} {y : β} (h : (l.map f)[i]? = some y) : ∃ x, l[i]? = some x ∧ f x = y := by
  rw [List.getElem?_map] at h
  cases e : l[i]? with
  | none => rw [e] at h; exact nomatch h
  | some x => rw [e] at h; exact ⟨x, rfl, Option.some.inj h⟩
/-- a loop that folds -/
theorem fold_take {α β : Type} (f : β → α → β) (b : β) {l : List α} {i : Nat} {x : α} (h : l[i]? = some x) : f ((l.take i).foldl f b) x = (l.take (i + 1)).foldl f b := by
  rw [List.take_add_one, h, List.foldl_append]; rfl
theorem sem_joined_all : ∀ ws S Q E, sp_joined_all ws S Q E → rd_joined_all (DQ Q) (start3 4 ws E) S := fun ws S Q E ⟨n, w, as, e, hw, hn, ha, q⟩ => by
  subst e
  refine ⟨_, rfl, still_ti hn ⟨_, rfl, as.map ti, hw, ?_⟩⟩
  refine forGo_inv (fun i τ S' => S' = S ∧ ∃ w4, τ.sl = [some (.int n), some w, some (.d (ti ((as.take i).foldl jn (List.range n)))), w4]) ⟨rfl, _, rfl⟩ ?_ ?_
  · rintro i x ⟨sl, ex⟩ S' hx ⟨rfl, w4, e⟩
    subst e
    rw [List.map_map] at hx
    obtain ⟨a, h1, rfl⟩ := get_map hx
    have hm := List.mem_of_getElem? h1
    refine ⟨_, rfl, _, rfl, join_M (jn_all_mp hm_mp fun b hb => ha b (List.mem_of_mem_take hb)) (ha a hm) hn ⟨rfl, some (.d (ti a)), ?_⟩⟩
    rw [fold_take jn _ h1]; rfl
  · rintro ⟨sl, ex⟩ S' ⟨rfl, w4, e⟩
    subst e
    rw [List.length_map, List.length_map, List.take_length]
    exact ⟨_, rfl, _, Sub.refl _, q⟩
/-- turned back -/
def sq_need_turning : Sp3 := fun ws S Q _ => ∃ n a, ws = [.d (ti a)] ∧ PmP n a ∧ n ≤ 1000 ∧ Q .non S
def sp_need_turning : Sp3 := fun ws S Q E => Bx (sq_need_turning ws S Q E)
def sq_turned_back : Sp3 := fun ws S Q _ => ∃ n a, ws = [.d (ti a)] ∧ PmP n a ∧ n ≤ 1000 ∧ Q (.d (ti (iv a))) S
def sp_turned_back : Sp3 := fun ws S Q E => Bx (sq_turned_back ws S Q E)
theorem len_need_turning : ∀ ws S Q E, sp_need_turning ws S Q E → ws.length = 1 := fun ws S Q E ⟨n, a, e, _⟩ => by rw [e]; rfl
theorem len_turned_back : ∀ ws S Q E, sp_turned_back ws S Q E → ws.length = 1 := fun ws S Q E ⟨n, a, e, _⟩ => by rw [e]; rfl
def rd_need_turning : TS3 := (tIf3 (tNot3 (tB3 (tCall3 sp_is_turning (tCons3 (tVar3 0) tNil3)))) tNever3 tNext3)
theorem ci_nodup {a : List Nat} (h : a.Nodup) : (ci a).Nodup := nodup_map_on _ (fun x _ y _ e => by omega) h
theorem ci_len {a : List Nat} : (ci a).length = a.length := by rw [ci, List.length_map]
theorem sem_need_turning : ∀ ws S Q E, sp_need_turning ws S Q E → rd_need_turning (DQ Q) (start3 1 ws E) S := fun ws S Q E ⟨n, a, e, ha, hn, q⟩ => by
  subst e
  refine ⟨_, rfl, ci a, rfl, by rw [ci_len, ha.1]; exact hn, fun L h1 h2 => ⟨_, rfl, fun c => ?_, fun _ => ⟨_, Sub.refl _, q⟩⟩⟩
  rw [nodup_len h1 (ci_nodup ha.2.1) h2] at c
  simp at c
def rd_turned_back : TS3 := (tSeq3 (tDrop3 (tCall3 sp_need_turning (tCons3 (tVar3 0) tNil3))) (tRet3 (tCB3 gTuple (tCons3 (tLcD3 (tRgI1 (tCons3 (tCB3 gLen (tCons3 (tVar3 0) tNil3)) tNil3)) (gName3 1) tYes3 (tTM3 gTIx (tVar3 0) (tCons3 (tVar3 1) tNil3)) [1]) tNil3))))
theorem ci_mem {a : List Nat} {k : Nat} : (k : Int) ∈ ci a ↔ k ∈ a := by
  unfold ci
  rw [List.mem_map]
  constructor
  · rintro ⟨j, hj, e⟩
    have : j = k := by omega
    rw [← this]; exact hj
  · exact fun h => ⟨k, h, rfl⟩
theorem ci_idx (k : Nat) : ∀ (a : List Nat), (ci a).idxOf (k : Int) = a.idxOf k
  | [] => rfl
  | x :: a => by
    show ((x : Int) :: ci a).idxOf (k : Int) = _
    rw [List.idxOf_cons, List.idxOf_cons, ci_idx k a]
    by_cases h : x = k
    · subst h; simp
    · have h1 : ((x : Int) == (k : Int)) = false := by rw [beq_eq_false_iff_ne]; omega
      have h2 : (x == k) = false := by simpa using h
      rw [h1, h2]
theorem rgW_nat {n : Nat} : rgW 0 (n : Int).toNat = (List.range n).map fun k => W.int (k : Nat) := by
  unfold rgW
  rw [show (n : Int).toNat = n by omega]
  apply List.map_congr_left; intro i _
  show W.int (0 + (i : Nat)) = W.int (i : Nat)
  rw [Int.zero_add]
theorem sem_turned_back : ∀ ws S Q E, sp_turned_back ws S Q E → rd_turned_back (DQ Q) (start3 2 ws E) S := fun ws S Q E ⟨n, a, e, ha, hn, q⟩ => by
  subst e
  refine ⟨_, rfl, ⟨n, a, rfl, ha, hn, ?_⟩⟩
  refine ⟨_, rfl, _, _, rfl, len_ti, _, rfl, ⟨by omega, by have := ha.1; omega⟩, by rw [rgW_len]; have := ha.1; omega, ?_⟩
  rw [rgW_nat]
  refine lcGo_map (fun w => match w with | .d (.int i) => W.int (a.idxOf i.toNat : Nat) | w => w) (fun w hw A h => ?_) ?_
  · obtain ⟨k, hk, rfl⟩ := List.mem_map.mp hw
    have hk : k ∈ a := ha.mem (by have := List.mem_range.mp hk; rw [ha.1] at this; exact this)
    refine ⟨_, rfl, ⟨_, rfl⟩, _, rfl, ci a, (k : Int), rfl, rfl, ci_mem.mpr hk, ?_⟩
    rw [ci_idx]; exact h
  · refine ⟨(ci (iv a)).map PyData.int, ?_, _, _, rfl, rfl, _, Sub.refl _, q⟩
    rw [mw_ti, iv, List.nil_append, List.map_map, List.map_map]; rfl
/-- commutators -/
def sq_commutator : Sp3 := fun ws S Q _ => ∃ n a b, ws = [.d (ti a), .d (ti b)] ∧ PmP n a ∧ PmP n b ∧ n ≤ 1000 ∧ Q (.d (ti (cm a b))) S
def sp_commutator : Sp3 := fun ws S Q E => Bx (sq_commutator ws S Q E)
def sq_conjugate : Sp3 := fun ws S Q _ => ∃ n a b, ws = [.d (ti a), .d (ti b)] ∧ PmP n a ∧ PmP n b ∧ n ≤ 1000 ∧ Q (.d (ti (cj a b))) S
def sp_conjugate : Sp3 := fun ws S Q E => Bx (sq_conjugate ws S Q E)
theorem len_commutator : ∀ ws S Q E, sp_commutator ws S Q E → ws.length = 2 := fun ws S Q E ⟨n, a, b, e, _⟩ => by rw [e]; rfl
theorem len_conjugate : ∀ ws S Q E, sp_conjugate ws S Q E → ws.length = 2 := fun ws S Q E ⟨n, a, b, e, _⟩ => by rw [e]; rfl
def rd_commutator : TS3 := (tRet3 (tCall3 sp_joined (tCons3 (tCall3 sp_joined (tCons3 (tVar3 0) (tCons3 (tVar3 1) tNil3))) (tCons3 (tCall3 sp_joined (tCons3 (tCall3 sp_turned_back (tCons3 (tVar3 0) tNil3)) (tCons3 (tCall3 sp_turned_back (tCons3 (tVar3 1) tNil3)) tNil3))) tNil3))))
def rd_conjugate : TS3 := (tRet3 (tCall3 sp_joined (tCons3 (tCall3 sp_joined (tCons3 (tCall3 sp_turned_back (tCons3 (tVar3 1) tNil3)) (tCons3 (tVar3 0) tNil3))) (tCons3 (tVar3 1) tNil3))))
theorem sem_commutator : ∀ ws S Q E, sp_commutator ws S Q E → rd_commutator (DQ Q) (start3 2 ws E) S := fun ws S Q E ⟨n, a, b, e, ha, hb, hn, q⟩ => by
  subst e
  exact ⟨_, rfl, _, rfl, join_P ha hb hn ⟨_, rfl, ⟨n, a, rfl, ha, hn, ⟨_, rfl, ⟨n, b, rfl, hb, hn, join_P (iv_ok ha) (iv_ok hb) hn (join_P (jn_ok ha hb) (jn_ok (iv_ok ha) (iv_ok hb)) hn ⟨_, Sub.refl _, q⟩)⟩⟩⟩⟩⟩
theorem sem_conjugate : ∀ ws S Q E, sp_conjugate ws S Q E → rd_conjugate (DQ Q) (start3 2 ws E) S := fun ws S Q E ⟨n, a, b, e, ha, hb, hn, q⟩ => by
  subst e
  exact ⟨_, rfl, ⟨n, b, rfl, hb, hn, ⟨_, rfl, join_P (iv_ok hb) ha hn ⟨_, rfl, join_P (jn_ok (iv_ok hb) ha) hb hn ⟨_, Sub.refl _, q⟩⟩⟩⟩⟩
/-- powers -/
def sq_power : Sp3 := fun ws S Q _ => ∃ (n : Nat) (a : Pm n) (m : Nat), ws = [.d (ti a.1), .int m] ∧ n ≤ 1000 ∧ Q (.d (ti (pw a m).1)) S
def sp_power : Sp3 := fun ws S Q E => Bx (sq_power ws S Q E)
theorem len_power : ∀ ws S Q E, sp_power ws S Q E → ws.length = 2 := fun ws S Q E ⟨n, a, b, e, _⟩ => by rw [e]; rfl
def rd_power : TS3 := (tSeq3 (tPar3 2 3 (tCons3 (tCall3 sp_still (tCons3 (tCB3 gLen (tCons3 (tVar3 0) tNil3)) tNil3)) (tCons3 (tVar3 0) tNil3))) (tSeq3 (tWhile3 (tB3 (tOp3 gGt (tVar3 1) (tC3 (.int 0)))) (tSeq3 (tIf3 (tB3 (tOp3 gEq (tOp3 gMod (tVar3 1) (tC3 (.int 2))) (tC3 (.int 1)))) (tSet3 2 (tCall3 sp_joined (tCons3 (tVar3 2) (tCons3 (tVar3 3) tNil3)))) tNext3) (tPar3 3 1 (tCons3 (tCall3 sp_joined (tCons3 (tVar3 3) (tCons3 (tVar3 3) tNil3))) (tCons3 (tOp3 gDiv (tVar3 1) (tC3 (.int 2))) tNil3))))) (tRet3 (tVar3 2))))
theorem join_Pm {n : Nat} {a b : Pm n} {S : Sto} {Q : K3} {E : X3} (hn : n ≤ 1000) (q : Q (.d (ti (a * b).1)) S) : sp_joined [.d (ti a.1), .d (ti b.1)] S Q E := join_P a.2 b.2 hn q
theorem sem_power : ∀ ws S Q E, sp_power ws S Q E → rd_power (DQ Q) (start3 4 ws E) S := fun ws S Q E ⟨n, a, m, e, hn, q⟩ => by
  subst e
  refine ⟨_, rfl, _, _, rfl, len_ti, ?_⟩
  rw [a.2.1]
  refine still_ti hn ⟨_, rfl, _, _, rfl, ?_⟩
  refine ⟨fun k τ S' => S' = S ∧ ∃ (f s : Pm n) (w0 : Option W), τ.sl = [w0, some (.int (k : Nat)), some (.d (ti f.1)), some (.d (ti s.1))] ∧ f * pw s k = pw a m, ⟨m, rfl, (1 : Pm n), a, _, rfl, pm_one_mul _⟩, ?_⟩
  rintro k ⟨sl, ex⟩ S' ⟨rfl, f, s, w0, e, hp⟩
  subst e
  refine ⟨_, rfl, _, _, rfl, rfl, _, rfl, fun c => ?_, fun c => ?_⟩
  · have hk : 0 < k := by
      have : (0 : Int) < (k : Nat) := by simpa using c
      omega
    refine ⟨fun τ2 S2 => S2 = S' ∧ ∃ (f s : Pm n) (w0 : Option W), τ2.sl = [w0, some (.int (k / 2 : Nat)), some (.d (ti f.1)), some (.d (ti s.1))] ∧ f * pw s (k / 2) = pw a m, fun τ2 S2 ⟨h1, h2⟩ => ⟨k / 2, by omega, h1, h2⟩, ?_⟩
    refine ⟨_, rfl, _, _, rfl, rfl, (show (0 : Int) < 2 by decide), .inr ⟨_, _, rfl, rfl, rfl, rfl, _, rfl, fun c2 => ?_, fun c2 => ?_⟩⟩
    · rw [eqv_int] at c2
      have h2 : k = 2 * (k / 2) + 1 := by have := of_decide_eq_true c2; omega
      refine ⟨_, rfl, _, rfl, join_Pm hn ⟨_, rfl, _, rfl, join_Pm hn ⟨_, rfl, _, _, rfl, rfl, ⟨by decide, by decide⟩, _, _, rfl, rfl, f * s, s * s, w0, ?_, ?_⟩⟩⟩
      · rw [show ((k / 2 : Nat) : Int) = (k : Int) / 2 by omega]; rfl
      · rw [pw_sq, pm_assoc]
        rw [h2] at hp
        exact hp
    · rw [eqv_int] at c2
      have h2 : k = 2 * (k / 2) := by have := of_decide_eq_false c2; omega
      refine ⟨_, rfl, _, rfl, join_Pm hn ⟨_, rfl, _, _, rfl, rfl, ⟨by decide, by decide⟩, _, _, rfl, rfl, f, s * s, w0, ?_, ?_⟩⟩
      · rw [show ((k / 2 : Nat) : Int) = (k : Int) / 2 by omega]; rfl
      · rw [pw_sq]
        rw [h2] at hp
        exact hp
  · have hk : k = 0 := by
      have : ¬ (0 : Int) < (k : Nat) := by simpa using c
      omega
    subst hk
    have e : f = pw a m := by rw [← hp]; exact (pm_mul_one f).symm
    subst e
    exact ⟨_, rfl, _, Sub.refl _, q⟩

end H3

/-! H3s: sorted of lists and tuples of tuples, an empty one first; sorted of sets of ints. -/
namespace H3
open PySem PySem.Spec PySem.Calls PySem.W L2
open PyProof.Rows hiding St
/-! ### over the heap -/
section
variable {prog : Program} {w : World} {A : Around} {s : Shared} {E : Value → Shared → Prop}
/-- sorted of a list or tuple is the sort of a list laid for it -/
theorem srt_seq {T : String} {l : Addr} {o : Obj} {its : Array Value} {n : Nat} {kw : List (Str × Value)} {Q : Value → Shared → Prop} (hT : T = "list" ∨ T = "tuple") (ho : s.heap.get? l = some o) (hc : o.cls = .type T) (hd : o.data = .seq its n) (hz : its.size ≤ sizeLine)
    (h1 : argsOk "sorted" ⟨[.ref l], kw⟩) (h2 : ∀ x, argsOk "list.sort" ⟨[.ref x], kw⟩)
    (run : ∀ (g : Heap) (E2 : Value → Shared → Prop), (∀ b u, s.heap.get? b = some u → g.get? b = some u) →
      wpAny (model prog w) A.in1.in1 (Builtin.«list.sort» ⟨[.ref g.objs.size], kw⟩) (fun r t => r = .done (.ret .none) ∧ Q (.ref g.objs.size) t) E2 { s with heap := g.push (seqObj "list" its 0) }) :
    wpAny (model prog w) A (call (.builtin "sorted") [Value.ref l] kw) Q E s := by
  refine call_function_entry_kw kind_sorted plain_sorted entry_sorted h1 (by
    unfold Builtin.«sorted»
    refine wpAny_bind (m := checkCount "sorted" 1 1 _) (wpAny_pure (wpAny_bind (wpAny_collect_seq l hT ho hc hd (fun g kp => ?_) hz)))
    refine wpAny_bind (wpAny_newList ?_ (by rw [Array.length_toList]; exact hz))
    have laid : (g.push (seqObj "list" its 0)).get? g.objs.size = some (seqObj "list" its 0) := Heap.get?_push_size _ rfl
    rw [Array.toArray_toList]
    refine wpAny_bind (wpAny_holding (wpAny_call_entry_kw slot_list_sort ⟨_, laid, rfl⟩ entry_list_sort (wpAny_mono (run g _ kp) (fun r t ht => ?_) fun _ _ x => x) (h2 _)))
    obtain ⟨rfl, hq⟩ := ht
    exact ⟨.none, rfl, wpAny_pure ⟨_, rfl, hq⟩⟩)
theorem mapM_by {α β : Type} {M : Model} {f : α → Sem β} (g : α → β) : ∀ (l : List α) {Q : List β → Shared → Prop}, (∀ v ∈ l, ∀ (Q2 : β → Shared → Prop), Q2 (g v) s → wpAny M A (f v) Q2 E s) → Q (l.map g) s → wpAny M A (l.mapM f) Q E s
  | [], Q, _, h => by rw [List.mapM_nil]; exact wpAny_pure h
  | v :: l, Q, hf, h => by
    rw [List.mapM_cons]
    refine wpAny_bind (hf v List.mem_cons_self _ (wpAny_bind (mapM_by g l (Q := fun bs t => wpAny M A (pure (g v :: bs)) Q E t) (fun u hu => hf u (List.mem_cons_of_mem _ hu)) (wpAny_pure h))))
/-- the first item of a tuple's object -/
def headAt (h : Heap) : Value → Option Value
  | .ref a => match (h.get? a : Option Obj) with
    | some o => match o.data with
      | .seq its _ => its[0]?
      | _ => none
    | none => none
  | _ => none
theorem read_tup {h : Heap} {v : Value} {xs : List PyData} {as : List Addr} (r : Reads h v (.tuple xs) as) : ∃ (a : Addr) (o : Obj) (its : Array Value) (n : Nat), v = .ref a ∧ h.get? a = some o ∧ o.cls = .type "tuple" ∧ o.data = .seq its n ∧ ReadsAll h its.toList xs as := by
  cases r with
  | tuple h1 h2 h3 h4 => exact ⟨_, _, _, _, rfl, h1, h2, h3, h4⟩
/-- all tuples, the first empty: the keys are told to be of one type -/
theorem kind_void {vs : List Value} {ds : List PyData} {Q : SortKind → Shared → Prop} (e : EachIs (fun v d => ∃ as, Reads s.heap v d as) vs (.tuple [] :: ds)) (ht : ∀ d ∈ ds, ∃ xs, d = .tuple xs) (h : Q oneType' s) : wpAny (model prog w) A (keyKind' vs.toArray) Q E s := by
  have tup : ∀ v ∈ vs, ∃ (a : Addr) (o : Obj) (its : Array Value) (n : Nat), v = .ref a ∧ s.heap.get? a = some o ∧ o.cls = .type "tuple" ∧ o.data = .seq its n := fun v hv => by
    obtain ⟨d, hd, seen, r⟩ := e.left v hv
    obtain ⟨xs, rfl⟩ : ∃ xs, d = .tuple xs := by
      cases (List.mem_cons.mp hd : d = .tuple [] ∨ d ∈ ds) with
      | inl q => exact ⟨_, q⟩
      | inr q => exact ht d q
    obtain ⟨a, o, its, n, r1, r2, r3, r4, _⟩ := read_tup r
    exact ⟨a, o, its, n, r1, r2, r3, r4⟩
  cases e with
  | @cons v _ vs _ r t =>
    obtain ⟨as, r⟩ := r
    obtain ⟨a, o, its, n, rfl, r2, r3, r4, r5⟩ := read_tup r
    have empty : its[0]? = none := by
      have : its.toList = [] := by cases hi : its.toList with
        | nil => rfl
        | cons x l => rw [hi] at r5; cases r5
      rw [← Array.getElem?_toList, this]; rfl
    have z : headAt s.heap (.ref a) = none := by simp only [headAt, r2, r4]; exact empty
    have ty : ∀ u ∈ Value.ref a :: vs, ∀ (Q2 : Value → Shared → Prop), Q2 (.type "tuple") s → wpAny (model prog w) A (typeOf u) Q2 E s := fun u hu Q2 q => by
      obtain ⟨b, ob, _, _, rfl, w1, w2, _⟩ := tup u hu
      exact wpAny_typeOf (T := "tuple") ⟨ob, w1, w2⟩ q
    rw [keyKind'_eq, List.mapM_toArray]
    rw [map_eq_pure_bind]
    refine wpAny_bind (wpAny_bind (mapM_by (headAt s.heap) _ (fun u hu Q2 q => ?_) (wpAny_pure ?_)))
    · obtain ⟨b, ob, its, m, rfl, w1, w2, w3⟩ := tup u hu
      rw [kas_first_eq]
      refine wpAny_bind (ty _ hu _ ?_)
      have no : (Value.type "tuple" != Value.type "tuple") = false := by decide
      rw [if_neg (by rw [no]; exact Bool.false_ne_true)]
      refine wpAny_bind (listItems_at w1 w3 (wpAny_pure ?_))
      have : headAt s.heap (.ref b) = its[0]? := by simp only [headAt, w1, w3]
      rw [← this]; exact q
    · have f0 : ((Value.ref a :: vs).map (headAt s.heap)).toArray[0]? = some none := by simp [z]
      have nall : ¬ (((Value.ref a :: vs).map (headAt s.heap)).toArray.all fun x => x.isSome) = true := by simp [z]
      rw [if_neg nall, f0]
      rw [if_neg (by simp), oneTypeOnly'_eq, List.mapM_toArray, map_eq_pure_bind]
      refine wpAny_bind (wpAny_bind (wpAny_bind (mapM_by (fun _ => Value.type "tuple") _ ty (wpAny_pure ?_))))
      have t0 : ((Value.ref a :: vs).map fun _ => Value.type "tuple").toArray[0]? = some (Value.type "tuple") := by simp
      have tall : (((Value.ref a :: vs).map fun _ => Value.type "tuple").toArray.all fun x => x == Value.type "tuple") = true := by
        rw [List.all_toArray, List.all_map, List.all_eq_true]; exact fun _ _ => (by decide : (Value.type "tuple" == Value.type "tuple") = true)
      rw [t0]
      simp only [tall, if_true]
      refine wpAny_pure ?_
      exact wpAny_pure h
/-- one tuple against another, told to be of one type -/
theorem less_tup {x y : Value} {xs ys : List PyData} {as bs : List Addr} {Q : Bool → Shared → Prop} (ra : Reads s.heap x (.tuple xs) as) (rb : Reads s.heap y (.tuple ys) bs) (hal : alikeAll xs ys = true) (hu : A.units + min (PyData.tuple xs).depth (PyData.tuple ys).depth < cLine)
    (q : Q (dataLt (.tuple xs) (.tuple ys)) s) : wpAny (model prog w) A (oneLt' true x y) Q E s := by
  cases ra with
  | @tuple l o vs n _ _ a1 a2 a3 a4 =>
    cases rb with
    | @tuple l2 o2 vs2 n2 _ _ b1 b2 b3 b4 =>
      have s1 : vs.size = xs.length := by simpa using SeqAt.ReadsAll.length _ _ _ a4
      have s2 : vs2.size = ys.length := by simpa using SeqAt.ReadsAll.length _ _ _ b4
      rw [dataLt_tuple, ← firstLt_toks xs ys hal, ← s1, ← s2] at q
      rw [oneLt'_eq]
      simp only [if_true]
      refine wpAny_bind (wpAny_cRoomFor (SeqAt.room_here hu) ?_)
      obtain ⟨cls, dd, data, sl⟩ := o
      obtain ⟨cls2, dd2, data2, sl2⟩ := o2
      simp only at a2 a3 b2 b3
      subst a2 a3 b2 b3
      refine wpAny_bind (wpAny_callSpecialIfBound?_slot (T := "tuple") ⟨_, a1, rfl⟩ F.slot_tuple_lt (call_meets F.slot_tuple_lt ⟨_, a1, rfl⟩ F.entry_tuple_lt (F.args_tuple_lt_2 _ _) (SeqAt.tuple_ltAt l l2 vs vs2 n n2 dd dd2 sl sl2 (SeqAt.pairEq xs ys) (fun j => dataLt (xs.getD j .none) (ys.getD j .none))) ⟨a1, b1, fun j j1 j2 => ?_, fun j j1 j2 hj => ?_, wpAny_truthy_bool q⟩))
      · exact (eqAt_alikeAll xs ys A.in1 s vs.toList vs2.toList _ _ a4 b4 hal (SeqAt.room_in hu) j (by rw [Array.length_toList]; exact j1) (by rw [Array.length_toList]; exact j2) : _)
      · exact (rcLt_alikeAll xs ys A.in1 s vs.toList vs2.toList _ _ a4 b4 hal (SeqAt.room_in hu) j (by rw [Array.length_toList]; exact j1) (by rw [Array.length_toList]; exact j2) hj : _)
theorem sortsAt_void {vs : List Value} {ds : List PyData} (e : EachIs (fun v d => ∃ as, Reads s.heap v d as) vs (.tuple [] :: ds)) (hal : AllAlike (.tuple [] :: ds)) (ht : ∀ d ∈ ds, ∃ xs, d = .tuple xs) (hu : ∀ d ∈ PyData.tuple [] :: ds, A.units + d.depth < cLine) :
    SortsAt prog w A s (dataKind s.heap (.tuple [] :: ds)) vs := by
  have all : ∀ d ∈ PyData.tuple [] :: ds, ∃ xs, d = .tuple xs := fun d hd => by
    cases (List.mem_cons.mp hd : d = .tuple [] ∨ d ∈ ds) with
    | inl q => exact ⟨_, q⟩
    | inr q => exact ht d q
  refine ⟨fun v hv => ?_, oneType', fun E2 x y a b Q ka kb q => ?_, fun _ E2 Q q => kind_void e ht q⟩
  · obtain ⟨d, hd, seen, rd⟩ := e.left v hv
    exact ⟨keyToks d, dataKind_some hal hd rd⟩
  · obtain ⟨d, as, hd, rx, rfl⟩ := dataKind_inv ka
    obtain ⟨d2, as2, hd2, ry, rfl⟩ := dataKind_inv kb
    obtain ⟨xs, rfl⟩ := all d hd
    obtain ⟨ys, rfl⟩ := all d2 hd2
    rw [keyLt'_oneType]
    have both := hal _ hd _ hd2
    exact less_tup rx ry (by simpa [alike] using both) (Nat.lt_of_le_of_lt (Nat.add_le_add_left (Nat.min_le_left _ _) _) (hu _ hd)) q
end
end H3

/-! H3v: all(x in y for x in t): t a tuple, y a list or tuple that the test captures, all of them data. -/
namespace H3
open PySem PySem.Spec L2
open PyProof.Rows hiding St
/-! ### the code of a generator expression -/
section
variable {M : Model} {A : Around} {s : Shared} {E : Value → Shared → Prop}
/-- it is made anew and told in the def's table, or told there already -/
theorem genx_code {env : Env} {c P : Addr} {ps : Array Value} {gpos : Pos} {nm : Str} {scope : Scope} {Q : Value → Shared → Prop} (hc : env.code = .ref c) (cd : PySem.W.CodeHd s.heap c P) (hP : s.heap.get? P = some { cls := .none, data := .fields ps }) (ht : TriplesOk ps.toList)
    (go : ∀ (u : Value) (g : Heap) (tk : Nat) (more : Array Value), Heap.ExtBut P s.heap g → s.heap.objs.size ≤ g.objs.size → g.get? P = some { cls := .none, data := .fields (ps ++ more) } → TriplesOk (ps ++ more).toList → Q u { s with heap := g, toks := tk }) :
    wpAny M A (genexprCode env gpos nm scope) Q E s := by
  cases found : codeAmong gpos ps.toList with
  | some u => exact wpAny_genexprCode_hit hc (cd.code hP ht) found (go u s.heap s.toks #[] (.refl _ _) (Nat.le_refl _) (by rw [Array.append_empty]; exact hP) (by rw [Array.append_empty]; exact ht))
  | none =>
    refine wpAny_genexprCodeX hc (cd.code hP ht) (cd.tab hP) found fun c2 g tk ext lo hi co _ tab _ => go _ g tk _ ext (Nat.le_of_lt (Nat.lt_of_le_of_lt lo hi)) tab.2 ?_
    exact let ⟨_, _, _, _, _, _, _, _, _, _, _, _, _, _, _, _, _, _, _, ok, _⟩ := co; ok
end
/-! ### all over a row of places -/
theorem all_places {α : Type} (f : α → Bool) : ∀ l : List α, ((List.range l.length).all fun j => (l[j]?.map f).getD false) = l.all f
  | [] => rfl
  | a :: l => by
    rw [List.length_cons, List.range_succ_eq_map, List.all_cons, List.all_map, List.all_cons, ← all_places f l]
    rfl
theorem readsAll_at {h : Heap} : ∀ {vs : List Value} {ds : List PyData} {as : List Addr}, ReadsAll h vs ds as → ∀ {j : Nat} {v : Value}, vs[j]? = some v → ∃ d bs, ds[j]? = some d ∧ Reads h v d bs
  | _, _, _, .nil, _, _, e => nomatch e
  | _, _, _, .cons r _, 0, _, e => by cases e; exact ⟨_, _, rfl, r⟩
  | _, _, _, .cons _ rs, j + 1, _, e => readsAll_at rs (j := j) e
theorem reads_len {h : Heap} : ∀ {vs : List Value} {ds : List PyData} {as : List Addr}, ReadsAll h vs ds as → vs.length = ds.length
  | _, _, _, .nil => rfl
  | _, _, _, .cons _ rs => congrArg Nat.succ (reads_len rs)
/-- a list's, a tuple's, a dict's object -/
def Datum (o : Obj) : Prop := o.cls = .type "list" ∨ o.cls = .type "tuple" ∨ o.cls = .type "dict"
mutual
/-- what reads as data does so wherever such objects stand -/
theorem reads_at {h g : Heap} (k : ∀ b o, Datum o → h.get? b = some o → g.get? b = some o) : ∀ {v : Value} {d : PyData} {as : List Addr}, Reads h v d as → Reads g v d as
  | _, _, _, .list a b c r => .list (k _ _ (.inl b) a) b c (readsAll_in k r)
  | _, _, _, .tuple a b c r => .tuple (k _ _ (.inr (.inl b)) a) b c (readsAll_in k r)
  | _, _, _, .dict a b c r q => .dict (k _ _ (.inr (.inr b)) a) b c (readsAll_in k r) (readsAll_in k q)
  | _, _, _, .none => .none
  | _, _, _, .bool _ => .bool _
  | _, _, _, .int _ _ => .int _ _
  | _, _, _, .str _ _ => .str _ _
theorem readsAll_in {h g : Heap} (k : ∀ b o, Datum o → h.get? b = some o → g.get? b = some o) : ∀ {vs : List Value} {ds : List PyData} {as : List Addr}, ReadsAll h vs ds as → ReadsAll g vs ds as
  | _, _, _, .cons r q => .cons (reads_at k r) (readsAll_in k q)
  | _, _, _, .nil => .nil
end
/-- the data of a sequence -/
def seqOf : PyData → Option (List PyData)
  | .tuple l => some l
  | .list l => some l
  | _ => none
/-- item in sequence, by what they read as -/
theorem in_seq {prog : Program} {w : World} {A : Around} {E : Value → Shared → Prop} {s : Shared} {x y : Value} {d c : PyData} {l : List PyData} {as bs : List Addr} {Q : Value → Shared → Prop} (hs : seqOf c = some l) (ry : Reads s.heap y c as) (rx : Reads s.heap x d bs)
    (hl : PyData.canLayAll0 l = true) (sd : SeqAt.shaped d = true) (hu : A.units + 70 < cLine) (q : Q (.bool (l.any fun z => PyData.eqv z d)) s) : wpAny (model prog w) A (compareOp .In x y) Q E s := by
  cases c with
  | tuple l2 => cases hs; exact SeqAt.in_tuple_reads ry rx hl (SeqAt.canLay_of_shaped sd) (room_in sd hu) q
  | list l2 => cases hs; exact SeqAt.in_list_reads ry rx hl (SeqAt.canLay_of_shaped sd) (room_in sd hu) q
  | _ => cases hs
section
variable {X : Cx} {σ : L2.St} {H : Hp} {pins : List (Addr × Obj)} {s : Shared}
/-- what is told of t, of y, of the table at P -/
structure AllInAt (K : PySem.W.Frag) (P : Addr) (iy : Nat) (σ : L2.St) (H : Hp) (v : V) (ds l : List PyData) (ps : Array Value) : Prop where
  kept : ∃ (G : Hp) (u : V) (c : PyData), (∀ b o, G b = some o → H b = some o ∧ b ≠ P) ∧ Dp K G v (.tuple ds) ∧ σ[iy]? = some (some u) ∧ Dp K G u c ∧ seqOf c = some l
  flat : ∀ d ∈ ds, SeqAt.shaped d = true
  lay : PyData.canLayAll0 l = true
  tab : H P = some (.tbl ps)
  tri : TriplesOk ps.toList
def inAll (ds l : List PyData) : Bool := ds.all fun d => l.any fun z => PyData.eqv z d
def tAllIn (K : PySem.W.Frag) (P : Addr) (iy : Nat) (te : TE) : TE := fun σ H Q => te σ H fun v H1 => ∃ ds l ps, AllInAt K P iy σ H1 v ds l ps ∧ ∀ more : Array Value, TriplesOk (ps ++ more).toList → Q (.bl (inAll ds l)) (upd H1 P (.tbl (ps ++ more)))
/-- the statics' place is no table -/
theorem statics_ne {I : Inv X pins σ H s} {P : Addr} {ps : Array Value} (h : s.heap.get? P = some { cls := .none, data := .fields ps }) : cStatics ≠ P ∧ cStatics < s.heap.objs.size := by
  obtain ⟨mc, ⟨o, es, ep, ho, hd, r⟩, _⟩ := I.nolimit
  refine ⟨fun e => ?_, Heap.lt_size ho⟩
  subst e
  cases ho.symm.trans h
  cases hd
/-- the element's test in its own frame -/
theorem elt_in {A2 : Around} {E2 : Value → Shared → Prop} {scope : Scope} {cenv : Env} {x y : Str} {p1 p2 p3 : Pos} {s2 : Shared} {m2 : Str → Option Value} {cy : Addr} {v u : Value} {d c : PyData} {l : List PyData} {as bs : List Addr} (hk : cenv.scope.kind = .function) (hx : cenv.kindOf x = some .local) (hy : cenv.kindOf y = some .free)
    (hn : s2.heap.Ns cenv.locals m2) (hm : m2 x = some v) (hc : cenv.cells.lookup y = some cy) (cell : s2.heap.IsCell cy (some u)) (rv : Reads s2.heap v d as) (ru : Reads s2.heap u c bs) (hs : seqOf c = some l) (hl : PyData.canLayAll0 l = true) (sd : SeqAt.shaped d = true) (hu : A2.units + 70 < cLine)
    (nx : (x == ("__debug__" : Str)) = false) (ny : (y == ("__debug__" : Str)) = false) (nc : (y == ("__classdict__" : Str)) = false) :
    wpAny (model X.prog X.w) A2 (eval (.Compare (.Name x p1) [.In] [.Name y p2] p3) cenv) (fun z s3 => z = .bool (l.any fun z => PyData.eqv z d) ∧ Keeps s2 s3) E2 s2 :=
  wpAny_Compare1 (wpAny_Name (wpAny_loadName_local hk hx hn hm (wpAny_Name (wpAny_loadName_free hk hy hc cell (in_seq hs ru rv hl sd hu ⟨rfl, s2.heap, s2.toks, rfl, fun _ _ e => e⟩) nc) ny)) nx)
theorem pe_allIn {c P : Addr} {iter : Expr} {x y : Str} {px p p1 p2 p3 pos gpos : Pos} {scope : Scope} {te : TE} {k : Nat} (iy : Nat)
    (hr : Room k X.A) (hg : Gl X "all") (hm : X.mg "all" = none) (TB : GxR.TabB X.base X.mg c P) (hcode : X.env.code = .ref c) (S : GxR.GenS X.env scope x) (hi : PE X iter te)
    (hN : X.N[iy]? = some y) (hyc : X.env.scope.names.lookup y = some .cell) (hyf : scope.names.lookup y = some .free)
    (hs : ∀ v, genFold iter X.env v = pure v := by intro _; rfl)
    (hb : bootBuiltins "all" = some (.builtin "all") := by decide +kernel) (nx : (x == ("__debug__" : Str)) = false := by decide) (ny : (y == ("__debug__" : Str)) = false := by decide) (nc : (y == ("__classdict__" : Str)) = false := by decide)
    (he : starEach [.GeneratorExp (.Compare (.Name x p1) [.In] [.Name y p2] p3) [⟨.Name x px, iter, [], 0⟩] scope gpos] X.env = (false, eval (.GeneratorExp (.Compare (.Name x p1) [.In] [.Name y p2] p3) [⟨.Name x px, iter, [], 0⟩] scope gpos) X.env) :: starEach [] X.env := by rfl) :
    PE X (.Call (.Name "all" p) [.GeneratorExp (.Compare (.Name x p1) [.In] [.Name y p2] p3) [⟨.Name x px, iter, [], 0⟩] scope gpos] [] pos) (tAllIn X.K P iy te) := by
  constructor
  intro pins s σ H Q I h
  refine wpAny_Call_Name_kw (ld_blt I hg hm hb (PyProof.Rows.callWith_builtin1 (args_cons ?_ he) he rfl))
  refine wpAny_GeneratorExp_walksQD hr.hd S.co (closure_ok S.free) S.cell S.dot S.loc S.kind (by have := hr.dp; omega) (thn (hi.run pins s σ H _ I h) ?_) hs
  rintro xv s1 ⟨v, H1, I1, r1, ds, l, ps, T, fin⟩
  obtain ⟨G, u, cc, sm, dv, hσ, du, hl⟩ := T.kept
  have tabAt : s1.heap.get? P = some { cls := .none, data := .fields ps } := I1.hok P _ T.tab
  obtain ⟨av, rd⟩ := L2.Dp.reads I1 _ v xv (dp_mono (fun b o e => (sm b o e).1) dv).q r1
  obtain ⟨a, o, its, n, rfl, o1, o2, o3, _⟩ := read_tup rd
  have lens : P < s1.heap.objs.size := Heap.lt_size tabAt
  have aNe : a ≠ P := by rintro rfl; cases o1.symm.trans tabAt; cases o3
  have isT : s1.heap.IsTuple a its := ⟨o, o1, o2, n, o3⟩
  refine wpAny_pyIter_tuple isT ?_
  have I2 : Inv X pins σ H1 { s1 with heap := s1.heap.push { cls := .type "tuple_iterator", data := .fields #[.ref a, .int 0 0] } } := I1.kept (t' := s1.toks) fun b w e => Heap.get?_push_of_some _ e
  have start : (s1.heap.push { cls := .type "tuple_iterator", data := .fields #[.ref a, .int 0 0] }).IsTupleIter s1.heap.objs.size a 0 := ⟨_, Heap.get?_push_size _ rfl, rfl, rfl⟩
  have tab2 : (s1.heap.push { cls := .type "tuple_iterator", data := .fields #[.ref a, .int 0 0] }).get? P = some { cls := .none, data := .fields ps } := Heap.get?_push_of_some _ tabAt
  have size2 : (s1.heap.push { cls := .type "tuple_iterator", data := .fields #[.ref a, .int 0 0] }).objs.size = s1.heap.objs.size + 1 := Heap.size_push ..
  have old2 : ∀ b w, s1.heap.get? b = some w → (s1.heap.push { cls := .type "tuple_iterator", data := .fields #[.ref a, .int 0 0] }).get? b = some w := fun b w e => Heap.get?_push_of_some _ e
  have isT2 : (s1.heap.push { cls := .type "tuple_iterator", data := .fields #[.ref a, .int 0 0] }).IsTuple a its := isT.push _
  generalize s1.heap.push { cls := .type "tuple_iterator", data := .fields #[.ref a, .int 0 0] } = g2 at I2 start tab2 size2 isT2 old2 ⊢
  have stat := statics_ne (I := I1) tabAt
  refine ⟨I2.nolimit, genx_code hcode (TB.code.keeps fun b w e => I2.bk b w e) tab2 T.tri fun code g3 t3 more ext le tab3 tri3 => ?_⟩
  have J : Inv X pins σ (upd H1 P (.tbl (ps ++ more))) { s1 with heap := g3, toks := t3 } := GxR.inv_tab (s := { s1 with heap := g2 }) (g' := s1.gens) (d' := s1.drawn) I2 T.tab (fun b w hb e => ext b w hb e) tab3 I1.bare
  obtain ⟨bm, ob, b1, b2, b3, b4, b5, b6, b7, b8⟩ := TB.bm
  refine wpAny_builtinsFor (m := X.mg) (by rw [I1.ok.glob]; exact (I2.mod.glob.keeps I2.bk).extBut ext TB.gP) b1 b2 (ext _ _ b4 (I2.bk _ _ b5)) b6 b7 b8 ?_
  have up : Same G (upd H1 P (.tbl (ps ++ more))) := fun b w e => by rw [upd_ne (sm b w e).2]; exact (sm b w e).1
  obtain ⟨av2, rd3⟩ := L2.Dp.reads J _ v (.ref a) (dp_mono up dv).q r1
  obtain ⟨_, o', its', n', ea, p1', p2', p3', rds⟩ := read_tup rd3
  cases ea
  have eits : its' = its := by
    obtain ⟨o4, q1, q2, n4, q3⟩ := isT2
    cases (ext a o4 aNe q1).symm.trans p1'
    cases q3.symm.trans p3'
    rfl
  subst eits
  -- what y holds
  obtain ⟨m, hns, hlk⟩ := J.loc
  obtain ⟨yv, ry, look⟩ := hlk iy y u hN hσ (.inr (.inl hyc))
  obtain ⟨bv, rdy⟩ := L2.Dp.reads J _ u yv (dp_mono up du).q ry
  obtain ⟨cy, hcy, cell⟩ : ∃ cy, X.env.cells.lookup y = some cy ∧ g3.IsCell cy (some yv) := by
    rcases look with ⟨z, _⟩ | ⟨_, z⟩
    · cases hyc.symm.trans (show X.env.scope.names.lookup y = some .local from z)
    · exact z
  have inside : s1.heap.objs.size ≠ P := fun e => Nat.lt_irrefl _ (e ▸ lens)
  have fpOut : ∀ b ∈ [s1.heap.objs.size, a], b ≠ P := fun b hb => by
    rcases (by simpa using hb : b = s1.heap.objs.size ∨ b = a) with e | e <;> subst e
    · exact inside
    · exact aNe
  have aIn : a < g3.objs.size := Heap.lt_size p1'
  have iIn : s1.heap.objs.size < g3.objs.size := Nat.lt_of_lt_of_le (by rw [size2]; exact Nat.lt_succ_self _) le
  have walk : ∀ A2 : Around, A2.handled = none → Walks X.prog X.w A2 s1.heap.objs.size [s1.heap.objs.size, a] [s1.heap.objs.size] its'.size (fun i w => its'[i]? = some w) (fun i g => g.IsTupleIter s1.heap.objs.size a i ∧ g.IsTuple a its') := fun A2 h2 => Walks.tuple h2 _ _ (Nat.ne_of_lt (Heap.lt_size o1)) _
  have nl : its'.size = ds.length := by rw [← reads_len rds, Array.length_toList]
  refine ⟨s1.heap.objs.size, [s1.heap.objs.size, a], [s1.heap.objs.size], its'.size, _, _, fun _ => true, fun i z => ∃ d, ds[i]? = some d ∧ z = .bool (l.any fun z => PyData.eqv z d), rfl, walk, ?_, ?_, J.nolimit, ?_, ?_, ?_⟩
  · exact (walk X.A hr.hd).frame _ _ _ ⟨start, isT2⟩ fun b hb w e => ext b w (fpOut b hb) e
  · intro b hb
    rcases (by simpa using hb : b = s1.heap.objs.size ∨ b = a) with e | e <;> subst e
    · exact iIn
    · exact aIn
  · intro z
    have low := stat.2
    rw [List.mem_singleton.mp z] at low
    exact Nat.lt_irrefl _ low
  · intro href more2
    obtain ⟨oi, i1, i2, i3⟩ := start
    have iAt : g3.get? s1.heap.objs.size = some oi := ext _ _ inside i1
    constructor
    · intro A2 E2 i w s2 m2 _ _ _ _ _ _ _
      rw [List.forIn_nil]
      exact wpAny_pure ⟨rfl, s2.heap, s2.toks, rfl, fun _ _ e => e⟩
    · intro A2 E2 i w s2 m2 hA _ hU hw _ hn hm hk
      have keep : ∀ b ob, b ≠ s1.heap.objs.size → g3.get? b = some ob → s2.heap.get? b = some ob := fun b ob hb e => hk b (List.mem_range.mpr (Heap.lt_size e)) (fun z => hb (List.mem_singleton.mp z)) ob (more2 b ob e)
      have data : ∀ b ob, Datum ob → g3.get? b = some ob → s2.heap.get? b = some ob := fun b ob hd e => keep b ob (fun z => by
        subst z
        cases iAt.symm.trans e
        rcases hd with q | q | q <;> rw [i2] at q <;> exact absurd q (by decide)) e
      obtain ⟨d, bs, hd, rw1⟩ := readsAll_at rds (by rw [Array.getElem?_toList]; exact hw)
      obtain ⟨oc, c1, c2⟩ := cell
      have cell2 : s2.heap.IsCell cy (some yv) := ⟨oc, keep cy oc (fun z => by subst z; cases iAt.symm.trans c1; rw [i3] at c2; cases c2) c1, c2⟩
      have env2 : (cloFrom X.env.cells scope.names []).lookup y = some cy := NdefX.clo_has S.free (PySem.mem_of_lookup hyf) hcy
      have un := hr.un
      refine wpAny_mono (elt_in (X := X) (scope := scope) S.kind S.loc hyf hn hm env2 cell2 (reads_at data rw1) (reads_at data rdy) hl T.lay (T.flat d (List.mem_of_getElem? hd)) (by omega) nx ny nc) (fun z s3 q => ⟨⟨d, hd, q.1⟩, q.2⟩) fun _ _ e => e
  · intro g h5 tk5 gs bare lo5 sz5 kp5 W5 at5
    rw [GxR.passing_true, List.length_range] at W5
    refine args_nil (call_all_walkS (W5.in4_1.self 0 _ _ _ at5 ⟨g, _, _, _, _, _, _, fun j => (ds[j]?.map fun d => l.any fun z => PyData.eqv z d).getD false, rfl, W5.in4_1, at5, ?_, fun s' mv => ?_⟩))
    · rintro j z sj Qj Ej ⟨i, hij, d, hd, rfl⟩ q
      obtain ⟨_, ei⟩ := List.getElem?_eq_some_iff.mp hij
      have ji : j = i := by rw [← ei, List.getElem_range]
      subst ji
      have q2 : Qj ((ds[j]?.map fun d => l.any fun z => PyData.eqv z d).getD false) sj := q
      rw [hd] at q2
      exact wpAny_truthy_bool q2
    · have old : ∀ b w, b ≠ P → s1.heap.get? b = some w → g3.get? b = some w := fun b w hb e => ext b w hb (old2 b w e)
      have out : ∀ b, b < s1.heap.objs.size → b ∉ [g3.objs.size, s1.heap.objs.size] := fun b hb z => by
        have far : (s1.heap.objs.size : Nat) < g3.objs.size := iIn
        rcases (by simpa using z : b = g3.objs.size ∨ b = s1.heap.objs.size) with e | e <;> rw [e] at hb
        · exact Nat.lt_asymm far hb
        · exact Nat.lt_irrefl _ hb
      have J2 := GxR.inv_tab (more := more) (h' := s'.heap) (g' := s'.gens) (d' := s'.drawn) (t' := s'.toks) I1 T.tab (fun b w hb e => mv.heap b w (out b (Heap.lt_size e)) (kp5 b w (old b w hb e))) (mv.heap P _ (out P lens) (kp5 P _ tab3)) (AllBare.movedS (I1.bare.push bare) mv)
      have same : ({ s1 with heap := s'.heap, gens := s'.gens, drawn := s'.drawn, toks := s'.toks } : Shared) = s' := GxR.sh_eta s1 s' mv.os
      rw [same] at J2
      refine ⟨.bl (inAll ds l), _, J2, ?_, fin more tri3⟩
      show Value.bool _ = Value.bool _
      rw [nl, all_places]
      rfl
end
/-! ### over values -/
theorem put_self {S : Sto} {P : Addr} {o : SO} (h : S P = some o) : put S P o = S := funext fun b => by
  by_cases e : b = P
  · subst e; rw [put_same, h]
  · rw [put_ne e]
/-- a table's words, as the heap has them -/
theorem tab_of {K : PySem.W.Frag} {F : Fz} {S : Sto} {H : Hp} {P : Addr} {q : Option Str} (R : Rel K F S H) (h : S P = some (.tb q)) : ∃ ps : Array Value, H P = some (.tbl ps) ∧ TriplesOk ps.toList ∧ ∀ b o, F.f b = some o → H b = some o ∧ b ≠ P := by
  obtain ⟨_, o, ho, ps, rfl, t, _⟩ := R.st P _ h
  refine ⟨ps, ho, t, fun b o e => ⟨(R.fz b o e).1, fun z => ?_⟩⟩
  subst z
  cases (R.fz b o e).2.1.symm.trans h
def tAllIn3 (P : Addr) (iy : Nat) (te : TE3) : TE3 := fun τ S Q => te τ S fun w S1 => ∃ ds c l, w = .tup ds ∧ τ.sl[iy]? = some (some (.d c)) ∧ seqOf c = some l ∧ (∀ d ∈ ds, SeqAt.shaped d = true) ∧ PyData.canLayAll0 l = true ∧ S1 P = some (.tb none) ∧ Q (.bl (inAll ds l)) S1
section
variable {X : Cx} {Ex : WX}
theorem pe3_allIn {c P : Addr} {iter : Expr} {x y : Str} {px p p1 p2 p3 pos gpos : Pos} {scope : Scope} {te : TE3} {k : Nat} (iy : Nat)
    (hr : Room k X.A) (hg : Gl X "all") (hm : X.mg "all" = none) (TB : GxR.TabB X.base X.mg c P) (hcode : X.env.code = .ref c) (S : GxR.GenS X.env scope x) (hi : PE X iter (LE X.K Ex te))
    (hN : X.N[iy]? = some y) (hyc : X.env.scope.names.lookup y = some .cell) (hyf : scope.names.lookup y = some .free)
    (hs : ∀ v, genFold iter X.env v = pure v := by intro _; rfl) (nx : (x == ("__debug__" : Str)) = false := by decide) (ny : (y == ("__debug__" : Str)) = false := by decide) (nc : (y == ("__classdict__" : Str)) = false := by decide)
    (he : starEach [.GeneratorExp (.Compare (.Name x p1) [.In] [.Name y p2] p3) [⟨.Name x px, iter, [], 0⟩] scope gpos] X.env = (false, eval (.GeneratorExp (.Compare (.Name x p1) [.In] [.Name y p2] p3) [⟨.Name x px, iter, [], 0⟩] scope gpos) X.env) :: starEach [] X.env := by rfl) :
    PE X (.Call (.Name "all" p) [.GeneratorExp (.Compare (.Name x p1) [.In] [.Name y p2] p3) [⟨.Name x px, iter, [], 0⟩] scope gpos] [] pos) (LE X.K Ex (tAllIn3 P iy te)) :=
  pe_imp (pe_allIn iy hr hg hm TB hcode S hi hN hyc hyf hs (by decide +kernel) nx ny nc he) fun σ H Q ⟨F, S, τ, Q3, R, Ev, h, k⟩ => ⟨F, S, τ, _, R, Ev, h, fun F1 S1 H1 w v s1 R1 r1 ⟨ds, d, l, e, hτ, hl, fl, lay, tb, q⟩ => by
    subst e
    obtain ⟨ps, hP, ht, sm⟩ := tab_of R1 tb
    obtain ⟨u, hu, ru⟩ := Ev.sl.2 iy _ hτ
    refine ⟨ds, l, ps, ⟨⟨F1.f, u, d, sm, r1, hu, RepW.mono s1 ru, hl⟩, fl, lay, hP, ht⟩, fun more tri => ?_⟩
    have R2 : Rel X.K F1 S1 (upd H1 P (.tbl (ps ++ more))) := by
      have := R1.write (q := .tb none) tb (o := .tbl (ps ++ more)) ⟨_, rfl, tri, fun x hx => nomatch hx⟩
      rwa [put_self tb] at this
    exact k F1 S1 _ _ _ s1 R2 mk_bl q⟩
end
end H3

/-! H3w: defs that tell code objects in a table: the head's facts, the law's end. -/
namespace H3
open PySem PySem.Spec L2
open PyProof.Rows hiding St
/-! ### the head's facts -/
/-- the tables of the code objects among these -/
def tabsIn (g : Addr → Option Obj) (as : List Addr) : List Addr := as.flatMap fun a => match g a with
  | some ⟨.type cn, _, .fields vs, _⟩ => if cn == "code" then (match (vs[11]? : Option Value) with
    | some (.ref P) => [P]
    | _ => []) else []
  | _ => []
/-- all but those -/
def noTabs (g : Addr → Option Obj) (as : List Addr) : List Addr := as.filter fun a => !(tabsIn g as).contains a
def isStr : Value → Bool
  | .str _ _ => true
  | _ => false
def isInt : Value → Bool
  | .int _ _ => true
  | _ => false
def isBool : Value → Bool
  | .bool _ => true
  | _ => false
def bareTab : Option Obj → Bool
  | some ⟨.none, none, .fields ws, sl⟩ => ws.isEmpty && sl.isEmpty
  | _ => false
/-- the def at f has a code object with an empty table of its own -/
def tabB (g : Addr → Option Obj) (K : PySem.W.Frag) (f : Addr) : Bool := match K.lookup f with
  | some ⟨_, _, .func fnD, _⟩ => (match fnD.code with
    | .ref c => (match g c with
      | some ⟨.type cn, _, .fields vs, _⟩ => (match (vs[11]? : Option Value) with
        | some (.ref P) => (cn == "code" && isStr (vs.getD 18 .none)) && ((isInt (vs.getD 7 .none) && isBool (vs.getD 9 .none)) && (isInt (vs.getD 10 .none) && (decide (c ≠ P) && (bareTab (g P) && (K.lookup P).isNone))))
        | _ => false)
      | _ => false)
    | _ => false)
  | _ => false
def tabOf (g : Addr → Option Obj) (K : PySem.W.Frag) (f : Addr) : Addr × Addr := match K.lookup f with
  | some ⟨_, _, .func fnD, _⟩ => (match fnD.code with
    | .ref c => (match g c with
      | some ⟨_, _, .fields ws, _⟩ => (match (ws[11]? : Option Value) with
        | some (.ref P) => (c, P)
        | _ => (0, 0))
      | _ => (0, 0))
    | _ => (0, 0))
  | _ => (0, 0)
def apart : List Addr → Bool
  | [] => true
  | a :: l => !l.contains a && apart l
theorem apart_ok : ∀ {l : List Addr}, apart l = true → l.Nodup
  | [], _ => .nil
  | a :: l, h => by
    obtain ⟨h1, h2⟩ := Bool.and_eq_true_iff.mp (show (!l.contains a && apart l) = true from h)
    refine List.nodup_cons.mpr ⟨fun m => ?_, apart_ok h2⟩
    rw [List.contains_iff_mem.mpr m] at h1
    cases h1
/-- told of a def with a table: its code object, the table -/
def TabAt (K : PySem.W.Frag) (h : Heap) (f c P : Addr) : Prop :=
  (∃ oc od fd sl, K.lookup f = some ⟨oc, od, .func fd, sl⟩ ∧ fd.code = .ref c) ∧ PySem.W.CodeHd h c P ∧ h.get? P = some { cls := .none, data := .fields #[] } ∧ K.lookup P = none
theorem isStr_ok {v : Value} (h : isStr v = true) : ∃ x t, v = .str x t := by cases v <;> first | exact ⟨_, _, rfl⟩ | cases h
theorem isInt_ok {v : Value} (h : isInt v = true) : ∃ x t, v = .int x t := by cases v <;> first | exact ⟨_, _, rfl⟩ | cases h
theorem isBool_ok {v : Value} (h : isBool v = true) : ∃ b, v = .bool b := by cases v <;> first | exact ⟨_, rfl⟩ | cases h
theorem bareTab_ok {o : Option Obj} (h : bareTab o = true) : o = some { cls := .none, data := .fields #[] } := by
  unfold bareTab at h
  split at h
  · rename_i ws sl
    obtain ⟨none1, none2⟩ := Bool.and_eq_true_iff.mp h
    rw [Array.isEmpty_iff] at none1 none2
    subst none1 none2
    rfl
  · cases h
theorem tabB_ok {h : Heap} {K : PySem.W.Frag} {f : Addr} (e : tabB h.get? K f = true) : TabAt K h f (tabOf h.get? K f).1 (tabOf h.get? K f).2 := by
  unfold tabB at e
  split at e
  · rename_i oc od fd sl hf
    split at e
    · rename_i c hc
      split at e
      · rename_i cn dd vs sl2 ho
        split at e
        · rename_i P hP
          simp only [Bool.and_eq_true, decide_eq_true_eq] at e
          obtain ⟨⟨e1, e2⟩, ⟨e3, e4⟩, e5, e6, e7, e8⟩ := e
          obtain ⟨x, tx, q1⟩ := isStr_ok e2
          obtain ⟨y, ty, q2⟩ := isInt_ok e3
          obtain ⟨b, q3⟩ := isBool_ok e4
          obtain ⟨z, tz, q4⟩ := isInt_ok e5
          have cc := beq_iff_eq.mp e1
          subst cc
          have p11 : vs.getD 11 .none = .ref P := by rw [Array.getD_eq_getD_getElem?, hP]; rfl
          have here : tabOf h.get? K f = (c, P) := by simp only [tabOf, hf, hc, ho, hP]
          rw [here]
          exact ⟨⟨_, _, _, _, hf, hc⟩, ⟨_, vs, x, tx, y, ty, b, z, tz, ho, rfl, rfl, hP, p11, q1, q2, q3, q4, e6⟩, bareTab_ok e7, Option.isNone_iff_eq_none.mp e8⟩
        · cases e
      · cases e
    · cases e
  · cases e
theorem TabAt.keeps {K : PySem.W.Frag} {h h' : Heap} {f c P : Addr} (t : TabAt K h f c P) (k : ∀ b o, h.get? b = some o → h'.get? b = some o) : TabAt K h' f c P := ⟨t.1, t.2.1.keeps k, k _ _ t.2.2.1, t.2.2.2⟩
abbrev AlT : Type := He.AlD × Bool
/-- fa, fn as He.hookD has them; tn: the defs with tables -/
def obsT (n : Nat) (fa : List He.Fa) (fn : List He.DefD) (tn : List (Str × Option Str)) (g : Addr → Option Obj) : AlT :=
  (fun K : PySem.W.Frag => (He.obsD fa fn K, (tn.all fun p => tabB g K (He.fAd K p)) && apart (tn.map fun p => (tabOf g K (He.fAd K p)).2))) (He.frG g (noTabs g (He.asD g n)))
/-- the tables cs of the defs tn -/
structure Tabs (K : PySem.W.Frag) (h : Heap) (tn : List (Str × Option Str)) (cs : List (Addr × Addr)) : Prop where
  all : Paired (fun p c => TabAt K h (He.fAd K p) c.1 c.2) tn cs
  apart : (cs.map (·.2)).Nodup
theorem paired_map {α β : Type} {R : α → β → Prop} (f : α → β) : ∀ l : List α, (∀ a ∈ l, R a (f a)) → Paired R l (l.map f)
  | [], _ => .nil
  | a :: l, h => .cons (h a List.mem_cons_self) (paired_map f l fun b hb => h b (List.mem_cons_of_mem _ hb))
def hookT (n : Nat) (fa : List He.Fa) (fn : List He.DefD) (tn : List (Str × Option Str)) : PySem.W.Hook where
  α := AlT
  obs := fun s => obsT n fa fn tn s.heap.get?
  val := fun _ => (He.valD fn, true)
  says := fun _ h => ∃ K : PySem.W.Frag, K.In h ∧ He.SaysD fa fn K ∧ ∃ cs, Tabs K h tn cs
  of := fun _ s e => by
    have e1 := congrArg (fun z : AlT => z.1) e
    obtain ⟨e2, e3⟩ := Bool.and_eq_true_iff.mp (congrArg (fun z : AlT => z.2) e)
    exact ⟨_, He.frG_in, e1, _, paired_map _ tn fun p hp => tabB_ok (List.all_eq_true.mp e2 p hp), by rw [List.map_map]; exact apart_ok e3⟩
  keeps := fun _ _ _ ⟨K, i, c, cs, t⟩ k => ⟨K, PySem.W.Frag.In.keeps i k, c, cs, Paired.mapP t.all fun _ _ q => q.keeps k, t.apart⟩
theorem obsT_eq {n : Nat} {fa : List He.Fa} {fn : List He.DefD} {tn : List (Str × Option Str)} {g : Addr → Option Obj} {s : Shared} (h : ∀ a, g a = s.heap.get? a) : obsT n fa fn tn g = (hookT n fa fn tn).obs s := by
  obtain rfl : g = s.heap.get? := funext h
  rfl
/-! ### a law's end, with tables -/
section
variable {P : Program} {w : World} {K : PySem.W.Frag} {mg mb : Str → Option Value} {k : Nat} {fa a : Addr} {cs : List (Addr × Addr)} {fd : FuncData} {x : Str} {sp : Sp} {s₁ : Shared} {vs : List Value} {ns : List Int}
/-- where nothing but the script and the tables may be tracked -/
theorem law_coreT {H : Hp} (KX : K.In s₁.heap) (hns : s₁.heap.Ns mainGlobals mg) (hb : s₁.heap.Ns builtinsNs mb) (hbb : ∀ x : Str, x ≠ "__name__" → mb x = bootBuiltins x) (hlim : s₁.heap.NoLimit) (hg : s₁.gens = #[])
    (hm : ∃ (bm : Addr) (ob : Obj), mg "__builtins__" = some (.ref bm) ∧ bm ≠ builtinsNs ∧ s₁.heap.get? bm = some ob ∧ ob.cls = .type "module" ∧ ob.dict = some builtinsNs ∧ ob.data = .plain)
    (tab : ∀ p ∈ cs, PySem.W.CodeHd s₁.heap p.1 p.2 ∧ s₁.heap.get? p.2 = some { cls := .none, data := .fields #[] } ∧ K.lookup p.2 = none)
    (ha : s₁.heap.get? a = some { cls := .type "list", data := .seq vs.toArray }) (hr : Room k callerA) (F : ∀ base : Heap, K.In base → base.Ns mainGlobals mg → (∀ p ∈ cs, GxR.TabB base mg p.1 p.2) → FnG P w K mg base (L2.CX P w) k fa fd [x] sp)
    (hbind : ∀ (s : Shared) (u : Value), BindsTo s fd ⟨[u], []⟩ [(x, u)]) (hH : ∀ p ∈ cs, H p.2 = some (.tbl #[])) (hO : ∀ b, b ∉ cs.map (·.2) → H b = none ∨ b = a ∧ ∃ o us, H b = some (.frz o (.lst us)))
    (hsp : sp [.ref a] H (fun v _ => v = .bl true) fun _ _ _ => False) (hok : HOk P w H s₁.heap) (hK : H a ≠ none → K.lookup a = none) : LawEnd P w fa a s₁ := by
  have atTab : ∀ b, b ∈ cs.map (·.2) → s₁.heap.get? b = some { cls := .none, data := .fields #[] } ∧ K.lookup b = none := fun b m => by
    obtain ⟨p, at_, rfl⟩ := List.mem_map.mp m
    exact (tab p at_).2
  have free : ∀ b o, s₁.heap.get? b = some o → o.data ≠ .fields #[] → o.data ≠ .seq vs.toArray → H b = none := fun b o e n1 n2 => by
    have nb : b ∉ cs.map (·.2) := fun h => by
      cases e.symm.trans (atTab b h).1
      exact n1 rfl
    rcases hO b nb with z | ⟨rfl, _⟩
    · exact z
    · cases e.symm.trans ha
      exact (n2 rfl).elim
  have see : ∀ b o, s₁.heap.get? b = some o → o.data ≠ .fields #[] → o.data ≠ .seq vs.toArray → (hidT s₁.heap H).get? b = some o := fun b o e n1 n2 => hidT_get e (free b o e n1 n2)
  have space : ∀ {b : Addr} {m : Str → Option Value}, s₁.heap.Ns b m → (hidT s₁.heap H).Ns b m := fun {b m} ⟨o, es, ep, e, d, r⟩ => ⟨o, es, ep, see b o e (by rw [d]; exact fun z => nomatch z) (by rw [d]; exact fun z => nomatch z), d, r⟩
  have known : K.In (hidT s₁.heap H) := fun b o e => by
    refine hidT_get (KX b o e) ?_
    by_cases nb : b ∈ cs.map (·.2)
    · cases e.symm.trans (atTab b nb).2
    · rcases hO b nb with z | ⟨rfl, fo, us, z⟩
      · exact z
      · cases e.symm.trans (hK (by rw [z]; exact fun q => nomatch q))
  have tables : ∀ p ∈ cs, GxR.TabB (hidT s₁.heap H) mg p.1 p.2 := fun p hp => by
    obtain ⟨⟨o, us, x1, t1, x2, t2, x3, x4, t4, c1, c2, c3, c4, c5⟩, e0, _⟩ := tab p hp
    refine ⟨⟨o, us, x1, t1, x2, t2, x3, x4, t4, see _ _ c1 (fun z => ?_) (by rw [c3]; exact fun z => nomatch z), c2, c3, c4, c5⟩, ?_, fun z => ?_⟩
    · rw [c3] at z
      cases z
      simp at c4
    · obtain ⟨bm, ob, b1, b2, b3, b4, b5, b6⟩ := hm
      refine ⟨bm, ob, b1, b2, fun z => ?_, fun z => ?_, see _ _ b3 (by rw [b6]; exact fun z => nomatch z) (by rw [b6]; exact fun z => nomatch z), b4, b5, b6⟩
      · obtain ⟨o2, es, ep, q, d, _⟩ := hns
        subst z
        cases q.symm.trans b3
        rw [b6] at d
        cases d
      · subst z
        cases e0.symm.trans b3
        cases b6
    · obtain ⟨o2, es, ep, q, d, _⟩ := hns
      rw [z, e0] at q
      cases q
      cases d
  obtain ⟨mc, l1, l2⟩ := hlim
  have e0 : Env0 P w K mg (hidT s₁.heap H) callerA [] s₁ H :=
    { frames := rfl, mod := ⟨known, space hns, ⟨mb, space hb, hbb⟩, ⟨mc, space l1, l2⟩⟩, bs := fun b o e => of_hidT e, bsz := Nat.le_of_eq (hidT_size _ _), funs := trivial, frf := fun b z => absurd z (by simp [frs]), hok := hok, bare := .of_eq hg }
  refine codeAny_mono ((F _ known (space hns) tables).run callerA [] s₁ H ⟨[.ref a], []⟩ [.ref a] [.ref a] _ _ rfl hr e0 (hbind s₁ (.ref a)) (.cons rfl .nil) hsp) fun r s' h => ?_
  match r, h with
  | .error e, ⟨_, _, _, _, _, _, _, _, _, _, _, _, no⟩ => exact no.elim
  | .ok .next, h => exact h.elim
  | .ok .brk, h => exact h.elim
  | .ok .cont, h => exact h.elim
  | .ok (.ret u), ⟨v, G, sky, bare, un, hok', r', q⟩ =>
    cases (show v = .bl true from q)
    cases (show u = Value.bool true from r')
    have stays : ∀ b o, s₁.heap.get? b = some o → b ∉ cs.map (·.2) → s'.heap.get? b = some o := fun b o e nb => by
      rcases hO b nb with z | ⟨_, fo, us, z⟩
      · exact un.keep b o e z (by simp [frs]) (by simp)
      · have after := (hok' b _ (un.frzs b fo _ z)).1
        cases e.symm.trans (hok b _ z).1
        exact after
    have grows : ∀ p ∈ cs, ∃ more : Array Value, s'.heap.get? p.2 = some { cls := .none, data := .fields (#[] ++ more) } := fun p hp => by
      obtain ⟨added, z⟩ := un.tbls p.2 #[] (hH p hp)
      exact ⟨added, hok' p.2 _ z⟩
    refine ⟨rfl, ⟨fun b o e => ?_, fun b o e => ?_⟩, sky, bare⟩ <;> by_cases nb : b ∈ cs.map (·.2)
    · obtain ⟨p, hp, rfl⟩ := List.mem_map.mp nb
      obtain ⟨more, z⟩ := grows p hp
      cases e.symm.trans (tab p hp).2.1
      exact .inr (.inl ⟨((tab p hp).1.tab (tab p hp).2.1).isCodeTable, rfl, #[], more, rfl, z⟩)
    · exact .inl (stays b o e nb)
    · obtain ⟨p, hp, rfl⟩ := List.mem_map.mp nb
      obtain ⟨more, z⟩ := grows p hp
      exact ⟨_, z⟩
    · exact ⟨o, stays b o e nb⟩
end
/-! ### a law over values, with tables -/
def tblAt (cs : List (Addr × Addr)) (i : Nat) : Addr := (cs.getD i (0, 0)).2
/-- the store in the beginning: the tables -/
def tabSto : List (Addr × Addr) → List (Option Str) → Sto
  | c :: cs, q :: qs => put (tabSto cs qs) c.2 (.tb q)
  | _, _ => fun _ => none
theorem tabSto_in : ∀ {cs : List (Addr × Addr)} {qs : List (Option Str)} {b : Addr} {o : SO}, tabSto cs qs b = some o → b ∈ cs.map (·.2) ∧ ∃ q, o = .tb q
  | [], _, _, _, h => nomatch h
  | _ :: _, [], _, _, h => nomatch h
  | c :: cs, q :: qs, b, o, h => by
    by_cases e : b = c.2
    · subst e
      rw [show tabSto (c :: cs) (q :: qs) = put (tabSto cs qs) c.2 (.tb q) from rfl, put_same] at h
      cases h
      exact ⟨List.mem_cons_self, q, rfl⟩
    · rw [show tabSto (c :: cs) (q :: qs) = put (tabSto cs qs) c.2 (.tb q) from rfl, put_ne e] at h
      exact (tabSto_in h).imp (List.mem_cons_of_mem _) id
theorem tabSto_at : ∀ {cs : List (Addr × Addr)} {qs : List (Option Str)}, cs.length = qs.length → (cs.map (·.2)).Nodup → ∀ {i : Nat} {q : Option Str}, qs[i]? = some q → tabSto cs qs (tblAt cs i) = some (.tb q)
  | [], [], _, _, _, _, h => nomatch h
  | c :: cs, q0 :: qs, hl, nd, 0, q, h => by
    cases h
    exact put_same
  | c :: cs, q0 :: qs, hl, nd, i + 1, q, h => by
    have ⟨n1, n2⟩ := List.nodup_cons.mp nd
    have rest := tabSto_at (cs := cs) (qs := qs) (Nat.succ.inj hl) n2 (i := i) h
    have ne : tblAt cs i ≠ c.2 := fun e => n1 (by show c.2 ∈ cs.map (·.2); rw [← e]; exact (tabSto_in rest).1)
    show put (tabSto cs qs) c.2 (.tb q0) (tblAt cs i) = _
    rw [put_ne ne]
    exact rest
theorem walk3T {l : PySem.W.OpenLaw} {k : Nat} {q : Program} {loose : List Str} {XP : (Str → Option Value) → Heap → Prop} {YP : World → Heap → Prop} {d : DefRec} {x : Str} (hn : l.most = some 63) (hdf : d.params.defaults = []) (hr : Room k callerA) (qs : List (Option Str)) (sp : (Nat → Addr) → Sp3)
    (F : ∀ (w : World) (mg : Str → Option Value) (fa : Addr) (h : Heap), YP w h → h.Ns mainGlobals mg → mg d.name = some (.ref fa) → ∃ (K : PySem.W.Frag) (fd : FuncData) (cs : List (Addr × Addr)), K.In h ∧ cs.length = qs.length ∧ (cs.map (·.2)).Nodup ∧ (∀ p ∈ cs, PySem.W.CodeHd h p.1 p.2 ∧ h.get? p.2 = some { cls := .none, data := .fields #[] } ∧ K.lookup p.2 = none) ∧ (∀ (s : Shared) (u : Value), BindsTo s fd ⟨[u], []⟩ [(x, u)]) ∧
      ∀ base : Heap, K.In base → base.Ns mainGlobals mg → (∀ p ∈ cs, GxR.TabB base mg p.1 p.2) → FnG l.prog w K mg base (L2.CX l.prog w) k fa fd [x] (LSp K (sp (tblAt cs))))
    (hsp : ∀ (tb : Nat → Addr) (S : Sto) (ns : List Int), ns.length ≤ 63 → (∀ i q, qs[i]? = some q → S (tb i) = some (.tb q)) → sp tb [.lst (ns.map PyData.int)] S (fun w _ => w = .bl true) X0) :
    PySem.W.WalkO q loose XP YP l.row.toRowW d [] (fun g us => PySem.call g us) := by
  apply Att.attach_call hn hdf
  intro w s₀ s₁ mg mb fa o pm cd doc a vs ns G Y ho hd hcd hmg hobj hints hlen hg
  obtain ⟨K, fd, cs, KX, hl, nd, tab, hb, hF⟩ := F w mg fa _ Y G.T.g hmg
  have fits : ns.length ≤ sizeLine := Nat.le_trans hlen (by decide)
  have rv := vals_ints hints
  have aOut : a ∉ cs.map (·.2) := fun m => by
    obtain ⟨p, hp, at_⟩ := List.mem_map.mp m
    have bare := (tab p hp).2.1
    rw [at_] at bare
    cases bare.symm.trans hobj
  have run : ∀ H : Hp, (∀ p ∈ cs, H p.2 = some (.tbl #[])) → (∀ b, b ∉ cs.map (·.2) → H b = none ∨ b = a ∧ ∃ o us, H b = some (.frz o (.lst us))) → SqL K H a (ns.map V.int) → HOk l.prog w H s₁.heap → (H a ≠ none → K.lookup a = none) → LawEnd l.prog w fa a s₁ := fun H h1 h2 h3 h4 h5 => by
    refine law_coreT KX G.T.g G.T.b G.T.builtins G.T.nolimit hg G.T.bmain tab hobj hr hF hb h1 h2 ?_ h4 h5
    have da : ∀ us : List Int, DpAll K (fun b => if b ∈ cs.map (·.2) then none else H b) (us.map V.int) (us.map PyData.int) := fun us => by
      induction us with
      | nil => exact .nil
      | cons n us ih => exact .cons (.int n) ih
    have h3' : SqL K (fun b => if b ∈ cs.map (·.2) then none else H b) a (ns.map V.int) := by
      rcases h3 with (z | ⟨o, z⟩) | z
      · exact .inl (.inl ((if_neg aOut).trans z))
      · exact .inl (.inr ⟨o, (if_neg aOut).trans z⟩)
      · exact .inr z
    refine ⟨⟨fun _ => none, fun b => if b ∈ cs.map (·.2) then none else H b⟩, tabSto cs qs, [.lst (ns.map PyData.int)], fun w _ => w = .bl true, X0, ⟨fun b o e => ?_, fun b p e => ?_, (fun a o e => (nomatch e))⟩, .cons (show Dp K _ (.ref a) (.list (ns.map PyData.int)) from .lst h3' (da ns)) .nil, hsp _ _ ns hlen fun i q e => tabSto_at hl nd e, ?_, H3.KX.no⟩
    · have e : (if b ∈ cs.map (·.2) then none else H b) = some o := e
      by_cases m : b ∈ cs.map (·.2)
      · rw [if_pos m] at e; cases e
      · rw [if_neg m] at e
        refine ⟨e, ?_, rfl⟩
        cases z : tabSto cs qs b with
        | none => rfl
        | some u => exact absurd (tabSto_in z).1 m
    · obtain ⟨m, q, rfl⟩ := tabSto_in e
      obtain ⟨c, hc, rfl⟩ := List.mem_map.mp m
      exact ⟨rfl, _, h1 c hc, #[], rfl, trivial, fun x hx pos cv z => nomatch z⟩
    · intro F' S' H' w v _ _ r q
      subst q
      exact rep_bl r
  have tabOk : ∀ b, b ∈ cs.map (·.2) → s₁.heap.get? b = some { cls := .none, data := .fields #[] } := fun b m => by
    obtain ⟨p, hp, rfl⟩ := List.mem_map.mp m
    exact (tab p hp).2.1
  cases hk : K.lookup a with
  | some u =>
    cases (KX a u hk).symm.trans hobj
    refine run (fun b => if b ∈ cs.map (·.2) then some (.tbl #[]) else none) (fun p hp => if_pos (List.mem_map_of_mem hp)) (fun b m => .inl (if_neg m)) (.inr ⟨_, vs.toArray, _, hk, rfl, rfl, rfl, by rw [List.size_toArray, hints.length]; exact fits, by simpa using rv⟩) (fun b o e => ?_) fun z => absurd (if_neg aOut) z
    by_cases m : b ∈ cs.map (·.2)
    · cases (if_pos m).symm.trans e
      exact tabOk b m
    · cases (if_neg m).symm.trans e
  | none =>
    refine run (fun b => if b ∈ cs.map (·.2) then some (.tbl #[]) else if b = a then some (.frz { cls := .type "list", data := .seq vs.toArray } (.lst (ns.map V.int))) else none) (fun p hp => if_pos (List.mem_map_of_mem hp)) (fun b m => ?_) (.inl (.inr ⟨{ cls := .type "list", data := .seq vs.toArray }, (if_neg aOut).trans (if_pos rfl)⟩)) (fun b o e => ?_) fun _ => hk
    · by_cases z : b = a
      · exact .inr ⟨z, _, _, (if_neg m).trans (if_pos z)⟩
      · exact .inl ((if_neg m).trans (if_neg z))
    · by_cases m : b ∈ cs.map (·.2)
      · cases (if_pos m).symm.trans e
        exact tabOk b m
      · have e2 := (if_neg m).symm.trans e
        by_cases z : b = a
        · cases (if_pos z).symm.trans e2
          subst z
          exact ⟨hobj, (List.length_map (as := ns) V.int).symm ▸ fits, vs, _, rv, hobj⟩
        · cases (if_neg z).symm.trans e2
/-! ### words for the printed texts -/
theorem Tabs.len {K : PySem.W.Frag} {h : Heap} {tn : List (Str × Option Str)} {cs : List (Addr × Addr)} (t : Tabs K h tn cs) : tn.length = cs.length := Paired.length t.all
theorem paired_at {α β : Type} {R : α → β → Prop} : ∀ {as : List α} {bs : List β}, Paired R as bs → ∀ {i : Nat} {a : α}, as[i]? = some a → ∃ b, bs[i]? = some b ∧ R a b
  | _, _, .nil, _, _, h => nomatch h
  | _, _, .cons r _, 0, _, h => by cases h; exact ⟨_, rfl, r⟩
  | _, _, .cons _ rs, i + 1, _, h => paired_at rs (i := i) h
theorem Tabs.at {K : PySem.W.Frag} {h : Heap} {tn : List (Str × Option Str)} {cs : List (Addr × Addr)} (t : Tabs K h tn cs) (i : Nat) {p : Str × Option Str} (e : tn[i]? = some p) : ∃ c, cs[i]? = some c ∧ TabAt K h (He.fAd K p) c.1 c.2 := paired_at t.all e
theorem paired_mem {α β : Type} {R : α → β → Prop} : ∀ {as : List α} {bs : List β}, Paired R as bs → ∀ b ∈ bs, ∃ a, R a b
  | _, _, .cons r rs, b, m => by
    rcases List.mem_cons.mp m with e | m
    · exact ⟨_, e ▸ r⟩
    · exact paired_mem rs b m
theorem Tabs.each {K : PySem.W.Frag} {h : Heap} {tn : List (Str × Option Str)} {cs : List (Addr × Addr)} (t : Tabs K h tn cs) : ∀ p ∈ cs, PySem.W.CodeHd h p.1 p.2 ∧ h.get? p.2 = some { cls := .none, data := .fields #[] } ∧ K.lookup p.2 = none := fun p hp => (paired_mem t.all p hp).elim fun _ q => q.2
theorem code_of {K : PySem.W.Frag} {h : Heap} {x q : Str} {st : Stmt} {f c P : Addr} {fd : FuncData} (F : MtP K x q st f fd) (t : TabAt K h f c P) : fd.code = .ref c := by
  obtain ⟨_, _, _, _, _, _, _, _, _, _, rfl, lk, _⟩ := F.ex
  obtain ⟨⟨_, _, fn, _, e, hc⟩, _⟩ := t
  cases lk.symm.trans e
  exact hc
theorem tab_at {base : Heap} {mg : Str → Option Value} {cs : List (Addr × Addr)} (T : ∀ p ∈ cs, GxR.TabB base mg p.1 p.2) {i : Nat} {c : Addr × Addr} (h : cs[i]? = some c) : GxR.TabB base mg c.1 (tblAt cs i) := by
  have e : tblAt cs i = c.2 := by
    unfold tblAt
    rw [List.getD_eq_getElem?_getD, h]
    rfl
  rw [e]
  exact T c (List.mem_of_getElem? h)
/-- the scope of a generator expression whose captured names are cells of the def -/
theorem genS_by {env : Env} {n : Nat} {sc scope : Scope} {x : Str} (he : env.cells = cellsFrom n sc.names []) (hk : scope.kind = .function) (co : scope.isCoroutine = false) (cell : ∀ y ∈ scope.names, y.2 ≠ .cell) (dot : scope.names.lookup (".0" : Str) = some NameKind.local) (loc : scope.names.lookup x = some .local)
    (fr : ∀ y ∈ scope.names, y.2 = .free → sc.names.lookup y.1 = some .cell) : GxR.GenS env scope x :=
  ⟨hk, co, cell, dot, loc, fun y m e => by
    rw [he]
    exact Option.isSome_iff_exists.mp (PySem.W.cellsFrom_some sc.names n [] (.inl (fr y m e)))⟩
end H3

/-! H3x: sorted of a new set of ints. -/
namespace H3
open PySem PySem.Spec PySem.W L2
open PyProof.Rows hiding St
section
variable {prog : Program} {w : World} {A : Around} {s : Shared} {E : Value → Shared → Prop}
theorem ints_each {h : Heap} : ∀ {vs : List Value} {ns : List Int}, IntsAre vs ns → EachIs (fun v i => (∃ t, v = .int i t) ∧ ∃ as, Reads h v (.int i) as) vs ns
  | _, _, .nil => .nil
  | _, _, .cons n t r => .cons ⟨⟨t, rfl⟩, [], .int n t⟩ (ints_each r)
theorem each_ints : ∀ {vs : List Value} {ns : List Int}, EachIs (fun v i => ∃ t, v = .int i t) vs ns → IntsAre vs ns
  | _, _, .nil => .nil
  | _, _, .cons ⟨t, e⟩ r => e ▸ .cons _ t (each_ints r)
theorem int_le : (dataLe false fun i : Int => PyData.int i) = fun a b : Int => decide (a ≤ b) := dataLe_int id
theorem rises {l : List Int} (nd : l.Nodup) : (l.mergeSort (dataLe false fun i : Int => PyData.int i)).Pairwise (· < ·) := by
  rw [int_le]
  have up : (l.mergeSort fun a b : Int => decide (a ≤ b)).Pairwise fun a b => decide (a ≤ b) = true := List.pairwise_mergeSort (le := fun a b : Int => decide (a ≤ b)) (fun a b c h1 h2 => by simp only [decide_eq_true_eq] at *; omega) (fun a b => by simp only [Bool.or_eq_true, decide_eq_true_eq]; omega) l
  refine lt_of_le_nodup _ (up.imp fun h => of_decide_eq_true h) ((List.mergeSort_perm l _).nodup_iff.mpr nd)
/-- sorted(a set of ints), as many as there may be -/
theorem sorted_ints_set {a : Addr} {S : Int → Bool} {n : Nat} {Q : Value → Shared → Prop} (R : SetR w s.heap a S n) (hh : A.handled = none) (hu : A.units + 10 < cLine)
    (hQ : ∀ (t : Shared) (p : Addr) (out : Array Value) (c : Nat) (ns : List Int), (∀ b o, s.heap.get? b = some o → t.heap.get? b = some o) → t.gens = s.gens → t.os = s.os → s.heap.objs.size ≤ p → t.heap.get? p = some (seqObj "list" out c) →
      IntsAre out.toList ns → ns.Pairwise (· < ·) → (∀ k, k ∈ ns ↔ S k = true) → ns.length = n → Q (.ref p) t) :
    wpAny (model prog w) A (call (.builtin "sorted") [.ref a]) Q E s := by
  obtain ⟨o, es, ep, tb, ho, hex, hd, good, nd, mem, room, fits, hn, ris, led⟩ := R
  refine Calls.call_function_entry kind_sorted plain_sorted entry_sorted (args_sorted1 _) (by
    unfold Builtin.«sorted»
    refine wpAny_bind (m := checkCount "sorted" 1 1 _) (wpAny_pure (wpAny_bind (collect_set (A := A.in1) hh ⟨o, ho, hex.1, hd⟩ fits room ris led fun s1 vs k1 low g1 o1 pm => ?_)))
    have areI : IntsAre vs (vs.map Builtin.Re.reRawOf) := L2.ints_of vs fun v hv => by
      obtain ⟨en, hen, q⟩ := List.mem_map.mp (pm.mem_iff.mp hv)
      obtain ⟨i, t, h1, _⟩ := good en hen
      exact ⟨i, t, q ▸ h1⟩
    have same : (vs.map Builtin.Re.reRawOf).Perm (es.toList.map keyOf) := by
      have same := pm.map Builtin.Re.reRawOf
      rwa [List.map_map] at same
    generalize vs.map Builtin.Re.reRawOf = ns at areI same
    have lens : ns.length = n := by rw [same.length_eq, List.length_map, Array.length_toList, hn]
    have lv : vs.length = n := areI.length.trans lens
    have small : vs.length ≤ sizeLine := by rw [lv, ← hn]; exact fits_of_scanBound room
    refine wpAny_bind (wpAny_newList ?_ small)
    have laid : (s1.heap.push (seqObj "list" vs.toArray 0)).get? s1.heap.objs.size = some (seqObj "list" vs.toArray 0) := Heap.get?_push_size _ rfl
    have rdAll : ∀ h : Heap, EachIs (fun v d => ∃ as, Reads h v d as) vs (ns.map PyData.int) := fun h => each_map (R := fun v d => ∃ as, Reads h v d as) PyData.int ((ints_each (h := h) areI).mono fun _ _ q => q.2)
    have alikes : AllAlike (ns.map PyData.int) := .of fun _ _ => by simp [alike]
    refine wpAny_bind (wpAny_holding (wpAny_call_entry slot_list_sort ⟨_, laid, rfl⟩ entry_list_sort (list_sort_vals (κ := dataKind (sortingHeap (s1.heap.push (seqObj "list" vs.toArray 0)) s1.heap.objs.size vs) (ns.map PyData.int)) laid
      (SortsAt.data (s := { s1 with heap := sortingHeap (s1.heap.push (seqObj "list" vs.toArray 0)) s1.heap.objs.size vs }) (rdAll _) alikes (.others fun _ => ⟨fun z => (nomatch z), fun _ z => (nomatch z)⟩) fun d hd => ?_) small ⟨_, rfl, ?_⟩) (args_list_sort _)))
    · obtain ⟨i, _, rfl⟩ := List.mem_map.mp hd
      show A.units + 1 + 1 + PyData.depth (.int i) < cLine
      simp only [PyData.depth]
      omega
    · have out := sortVals_data (h' := sortingHeap (s1.heap.push (seqObj "list" vs.toArray 0)) s1.heap.objs.size vs) (enc := fun i : Int => PyData.int i) false ((ints_each (h := s1.heap) areI).mono fun _ _ q => q.1) ((ints_each (h := _) areI).mono fun _ _ q => q.2) alikes
      obtain ⟨c, hc⟩ := sortedHeap_at (vs := vs) (out := (sortVals (dataKind (sortingHeap (s1.heap.push (seqObj "list" vs.toArray 0)) s1.heap.objs.size vs) (ns.map PyData.int)) false vs vs).toArray) laid
      have perm : (ns.mergeSort (dataLe false fun i : Int => PyData.int i)).Perm (es.toList.map keyOf) := (List.mergeSort_perm ns _).trans same
      refine wpAny_pure ⟨_, rfl, hQ _ s1.heap.objs.size _ c (ns.mergeSort (dataLe false fun i : Int => PyData.int i)) (fun b u e => ?_) g1 o1 low hc (by rw [List.toList_toArray]; exact each_ints out) (rises (same.nodup_iff.mpr nd)) (fun k => by rw [perm.mem_iff, ← mem k]) ?_⟩
      · have q := k1 b u e
        have lt := Heap.lt_size q
        exact (sortedHeap_old (Nat.ne_of_lt lt) (by rw [size_push']; exact Nat.lt_succ_of_lt lt)).trans (Heap.get?_push_of_some _ q)
      · rw [(List.mergeSort_perm ns _).length_eq, lens])
end
/-! ### the rule -/
section
variable {X : Cx} {Ex : WX} {a : Expr}
def tSortSetV (K : PySem.W.Frag) (ta : TE) : TE := fun σ H Q => ta σ H fun v H1 => ∃ (l : Addr) (ns : List Int), v = .ref l ∧ SqT K H1 l (ns.map V.int) ∧ ns.length ≤ 1000 ∧ ∀ (L : List Int) (p : Addr), L.Pairwise (· < ·) → (∀ k, k ∈ L ↔ k ∈ ns) → H1 p = none → Q (.ref p) (upd H1 p (.lst (L.map V.int)))
theorem pe_sortSetV {ta : TE} {p p2 q pos : Pos} {k : Nat} (hr : Room k X.A) (hc : X.calm = true) (hg : Gl X "sorted") (hm : X.mg "sorted" = none) (hg2 : Gl X "set") (hm2 : X.mg "set" = none) (ha : PE X a ta) (hb : bootBuiltins "sorted" = some (.builtin "sorted") := by decide +kernel)
    (na : starEach [a] X.env = (false, eval a X.env) :: starEach [] X.env := by rfl) : PE X (.Call (.Name "sorted" p) [.Call (.Name "set" p2) [a] [] q] [] pos) (tSortSetV X.K ta) := by
  constructor
  intro pins s σ H Q I h
  refine Call_ (ld_blt I hg hm hb (callWith_builtin1 (args_cons (Call_ (ld_blt I hg2 hm2 boot_set (callWith_type1 (args_cons (thn (ha.run pins s σ H _ I h) ?_) na) na rfl))) rfl) rfl rfl))
  rintro v s1 ⟨x, H1, I1, r1, l, ns, rfl, hs, hl, q1⟩
  cases (show v = .ref l from r1)
  obtain ⟨its, rv, pt, _⟩ := I1.tuple hs
  have numbers : IntsAre its.toArray.toList ns := ints_of_vals rv
  refine args_nil (call_set_tupI ns (I1.ok.hd hc) (show s1.heap.IsTuple l its.toArray from pt) numbers (by unfold scanBound; omega) fun g tk c R hcn kp => args_nil ?_)
  have un := hr.un
  refine sorted_ints_set (s := { s1 with heap := g, toks := tk }) R (I1.ok.hd hc) (by omega) fun t p out e L k2 g2 o2 low hp hL up mem len => ?_
  have small : (L.map V.int).length ≤ sizeLine := by rw [List.length_map, len, sizeLine_eq]; omega
  have all : ∀ b o, s1.heap.get? b = some o → t.heap.get? b = some o := fun b o z => k2 b o (kp b o z)
  have far : s1.heap.objs.size ≤ p := by
    refine Nat.le_of_not_lt fun z => ?_
    have in1 : ∃ o, s1.heap.objs[p]? = some o := ⟨_, Array.getElem?_eq_getElem z⟩
    have grown : s1.heap.objs.size ≤ g.objs.size := Nat.le_of_lt R.lt
    exact Nat.lt_irrefl _ (Nat.lt_of_lt_of_le z (Nat.le_trans grown low))
  have free : H1 p = none := I1.hok.fresh far
  have J : Inv X pins σ (upd H1 p (.lst (L.map V.int))) { s1 with heap := t.heap, gens := t.gens, drawn := t.drawn, toks := t.toks } :=
    I1.call (ch := []) (Un.laid all far free) (I1.hok.laid all far ⟨small, out.toList, e, vals_of_ints hL, hp⟩) (by rw [g2]; exact I1.bare) (fun _ z => nomatch z)
  rw [GxR.sh_eta s1 t o2] at J
  exact ⟨.ref p, _, J, rfl, q1 L p up (fun k => by rw [mem k]; simp) free⟩
variable {ta : TE3}
def tSortSet3 (ta : TE3) : TE3 := fun τ S Q => ta τ S fun w S1 => ∃ ns : List Int, w = .tup (ns.map PyData.int) ∧ ns.length ≤ 1000 ∧ ∀ L : List Int, L.Pairwise (· < ·) → (∀ k, k ∈ L ↔ k ∈ ns) → Q (.lst (L.map PyData.int)) S1
theorem dp_ints {K : PySem.W.Frag} {G : Hp} : ∀ ns : List Int, DpAll K G (ns.map V.int) (ns.map PyData.int)
  | [] => .nil
  | n :: ns => .cons (.int n) (dp_ints ns)
theorem pe3_sortSet {p p2 q pos : Pos} {k : Nat} (hr : Room k X.A) (hc : X.calm = true) (hg : Gl X "sorted") (hm : X.mg "sorted" = none) (hg2 : Gl X "set") (hm2 : X.mg "set" = none) (ha : PE X a (LE X.K Ex ta))
    (na : starEach [a] X.env = (false, eval a X.env) :: starEach [] X.env := by rfl) : PE X (.Call (.Name "sorted" p) [.Call (.Name "set" p2) [a] [] q] [] pos) (LE X.K Ex (tSortSet3 ta)) :=
  pe_imp (pe_sortSetV hr hc hg hm hg2 hm2 ha (by decide +kernel) na) fun σ H Q ⟨F, S, τ, Q3, R, Ev, h, k⟩ => ⟨F, S, τ, _, R, Ev, h, fun F1 S1 H1 w v s1 R1 r1 ⟨ns, e, hl, q⟩ => by
    subst e
    obtain ⟨_, a, vs, rfl, ht, ha⟩ := tup_rep R1 r1 (show viewW S1 (.tup (ns.map PyData.int)) = some (.tuple (ns.map PyData.int)) from rfl)
    have e2 := ints_of ha
    subst e2
    refine ⟨a, ns, rfl, ht, hl, fun L p up mem hp => ?_⟩
    obtain ⟨s2, R2, rw2⟩ := newLst R1 hp (dp_ints L)
    exact k _ _ _ _ _ (s1.trans s2) R2 rw2 (q L up mem)⟩
end
section
variable {K : PySem.W.Frag}
/-- xs + ys of data, to stay -/
def gCatL : R3 := fun w u S Q => ∃ a b, viewW S w = some (.list a) ∧ viewW S u = some (.list b) ∧ a.length + b.length ≤ sizeLine ∧ Q (.lst (a ++ b)) S
def rCatL (K : PySem.W.Frag) : R2 := fun x y H Q => ∃ (l m : Addr) (vs us : List V), x = .ref l ∧ y = .ref m ∧ SqL K H l vs ∧ SqL K H m us ∧ vs.length + us.length ≤ sizeLine ∧ ∀ p, H p = none → Q (.ref p) (upd H p (.lst (vs ++ us)))
theorem op_catL {X : Cx} : OpR X (binaryOp .Add) (rCatL X.K) := by
  rintro pins s σ H _ _ v u Q I rx ry ⟨l, m, vs, us, rfl, rfl, hl, hm, hz, q⟩
  cases (show v = .ref l from rx)
  cases (show u = .ref m from ry)
  obtain ⟨ia, va, ⟨⟨c1, d1, t1, s1⟩, n1, e1, q1, q2, q3⟩, _⟩ := I.list hl
  obtain ⟨ib, vb, ⟨⟨c2, d2, t2, s2⟩, n2, e2, w1, w2, w3⟩, _⟩ := I.list hm
  simp only at q1 q2 q3 w1 w2 w3
  subst q1 q2 q3 w1 w2 w3
  have fits : ia.toArray.size + ib.toArray.size ≤ sizeLine := by rw [List.size_toArray, List.size_toArray, ← va.length, ← vb.length]; exact hz
  refine concat_meets ⟨_, e1, rfl⟩ ⟨_, e2, rfl⟩ noFill_list_add seq_list_add F.slot_list_add F.entry_list_add (F.args_list_add_2 _ _) (list_addW l m ia.toArray ib.toArray n1 n2 none none s1 s2 fits) ⟨e1, e2, ?_⟩
  have ea : ia.toArray ++ ib.toArray = (ia ++ ib).toArray := by simp
  rw [ea]
  exact ⟨.ref _, _, I.lnew (t' := s.toks) (va.append vb) (by rw [List.length_append]; exact hz), rfl, q _ I.fresh⟩
theorem l_catL : OpL K gCatL (rCatL K) := fun F S H w u x y Q3 Q R rw ru ⟨a, b, h1, h2, hz, q⟩ k => by
  obtain ⟨l, vs, rfl, hl, da, _⟩ := list_rep R rw h1
  obtain ⟨m, us, rfl, hm, db, _⟩ := list_rep R ru h2
  refine ⟨l, m, vs, us, rfl, rfl, hl, hm, by rw [dpAllL_len da.q, dpAllL_len db.q]; exact hz, fun p hp => ?_⟩
  obtain ⟨s, R', rw'⟩ := newLst R hp (dpAll_app da db)
  exact k _ S _ _ _ s R' rw' q
end
/-! ### sorted of a list or a tuple -/
/-- what can be sorted -/
def SrtOk (ds : List PyData) : Prop := AllAlike ds ∧ (PySem.W.Sortable ds ∨ ∃ ts, ds = .tuple [] :: ts ∧ ∀ d ∈ ts, ∃ xs, d = .tuple xs)
theorem sortsAt_ok {prog : Program} {w : World} {A : Around} {s : Shared} {vs : List Value} {ds : List PyData} (e : EachIs (fun v d => ∃ as, Reads s.heap v d as) vs ds) (h : SrtOk ds) (hu : ∀ d ∈ ds, A.units + d.depth < cLine) : SortsAt prog w A s (dataKind s.heap ds) vs := by
  rcases h with ⟨al, so | ⟨ts, rfl, ht⟩⟩
  · exact SortsAt.data e al so hu
  · exact sortsAt_void e al ht hu
def rSortV (K : PySem.W.Frag) : List V → Hp → VK → Prop := fun vs H Q => ∃ (a : Addr) (xs : List V) (ds : List PyData), vs = [V.ref a] ∧ (SqL K H a xs ∨ SqT K H a xs) ∧ L2.DpAll K H xs ds ∧ SrtOk ds ∧ ds.length ≤ sizeLine ∧ (∀ d ∈ ds, d.depth ≤ 60) ∧
  ∀ (ys : List V) (p : Addr), Paired (fun y d => (y, d) ∈ xs.zip ds) ys (ds.mergeSort (dataLe false id)) → H p = none → Q (.ref p) (upd H p (.lst ys))
theorem cr_sortV {X : Cx} (hu : X.A.units + 70 < cLine) : CallR X (.builtin "sorted") (rSortV X.K) := by
  rintro pins s σ H _ us Q I rr ⟨a, xs, ds, rfl, hs, hd, ok, hz, dp, q⟩
  rw [Vals.ref1 rr]
  obtain ⟨its, rv, T, o, n, hT, ho, hc, hdt⟩ : ∃ (its : List Value) (_ : Vals xs its) (T : String) (o : Obj) (n : Nat), (T = "list" ∨ T = "tuple") ∧ s.heap.get? a = some o ∧ o.cls = .type T ∧ o.data = .seq its.toArray n := by
    rcases hs with h | h
    · obtain ⟨its, rv, ⟨o, n, h1, h2, _, h3⟩, _⟩ := I.list h
      exact ⟨its, rv, "list", o, n, .inl rfl, h1, h2, h3⟩
    · obtain ⟨its, rv, ⟨o, h1, h2, n, h3⟩, _⟩ := I.tuple h
      exact ⟨its, rv, "tuple", o, n, .inr rfl, h1, h2, h3⟩
  have lens : its.length = ds.length := by rw [← rv.length, dpAllL_len hd]
  have fits : its.toArray.size ≤ sizeLine := by rw [List.size_toArray, lens]; exact hz
  refine srt_seq hT ho hc hdt fits (args_sorted1 _) (fun _ => args_list_sort _) fun g E2 kp => ?_
  have I1 : Inv X pins σ H { s with heap := g } := I.kept (t' := s.toks) kp
  have laid : (g.push (seqObj "list" its.toArray 0)).get? g.objs.size = some (seqObj "list" its.toArray 0) := Heap.get?_push_size _ rfl
  have later : ∀ b u, g.get? b = some u → (sortingHeap (g.push (seqObj "list" its.toArray 0)) g.objs.size its).get? b = some u := fun b u e => sortingHeap_old (Nat.ne_of_lt (Heap.lt_size e)) (Heap.get?_push_of_some _ e)
  have rd : EachIs (fun v d => ∃ as, Reads (sortingHeap (g.push (seqObj "list" its.toArray 0)) g.objs.size its) v d as) its ds := (each_reads I1 hd rv).mono fun v d ⟨as, r⟩ => ⟨as, PyProof.Rows.Reads.keeps later r⟩
  have out := sortVals_data (h' := sortingHeap (g.push (seqObj "list" its.toArray 0)) g.objs.size its) (enc := id) false (each_pair (P := fun y d => (y, d) ∈ xs.zip ds) (fun p hp => hp) hd rv) rd (by rw [List.map_id]; exact ok.1)
  rw [List.map_id] at out
  refine list_sort_vals (s := { s with heap := g.push (seqObj "list" its.toArray 0) }) laid (sortsAt_ok (s := { s with heap := sortingHeap (g.push (seqObj "list" its.toArray 0)) g.objs.size its }) rd ok fun d hm => ?_) (by rw [lens]; exact hz) ⟨rfl, ?_⟩
  · have := dp d hm
    show X.A.units + 1 + 1 + d.depth < cLine
    omega
  · obtain ⟨ys, r2, h2⟩ := each_out out
    generalize sortVals (dataKind (sortingHeap (g.push (seqObj "list" its.toArray 0)) g.objs.size its) ds) false its its = res at r2 out
    obtain ⟨ep, at'⟩ := sortedHeap_at (vs := its) (out := res.toArray) laid
    have small : ys.length ≤ sizeLine := by rw [Paired.length h2, List.length_mergeSort]; exact hz
    exact ⟨.ref _, _, I1.laid (t' := s.toks) (o := .lst ys) (fun b u e => (sortedHeap_old (Nat.ne_of_lt (Heap.lt_size e)) (by rw [size_push']; exact Nat.lt_succ_of_lt (Heap.lt_size e))).trans (Heap.get?_push_of_some _ e)) (Nat.le_refl _) ⟨small, res, ep, r2, at'⟩, rfl, q ys _ h2 (I1.hok.fresh (Nat.le_refl _))⟩
def gSortV : RC3 := fun ws S Q => ∃ w ds, ws = [w] ∧ itemsW S w = some ds ∧ SrtOk ds ∧ ds.length ≤ sizeLine ∧ (∀ d ∈ ds, d.depth ≤ 60) ∧ Q (.lst (ds.mergeSort (dataLe false id))) S
theorem l_sortV {K : PySem.W.Frag} : CallL K gSortV (rSortV K) := fun F S H ws vs Q3 Q R r ⟨w, ds, e, hd, ok, hz, dp, q⟩ k => by
  subst e
  obtain ⟨v, rfl, rv⟩ := ws1 r
  obtain ⟨a, us, rfl, hs, ha, _⟩ := items_rep R rv hd
  refine ⟨a, us, ds, rfl, hs.imp id And.left, (dpAll_mono R.same ha).q, ok, hz, dp, fun ys p hy hp => ?_⟩
  obtain ⟨s2, R2, rw2⟩ := newLst R hp (dpAll_paired (fun v d hm => dpAll_zip ha (v, d) hm) hy)
  exact k _ S _ _ _ s2 R2 rw2 q
end H3

/-! H3r: sorted of new sets of ints: out of lists, out of comprehensions. -/
namespace H3
open PySem PySem.Spec PySem.W L2
open PyProof.Rows hiding St
section
variable {X : Cx}
/-- set.add of an int -/
theorem addI_ok {pn : List (Addr × Obj)} {σ : L2.St} {H : Hp} {s : Shared} {E : Value → Shared → Prop} {D : Addr} {S : Int → Bool} {n : Nat} {y : Int} {t : Tok} {Q : Value → Shared → Prop} (I : Inv X pn σ H s) (hD : H D = some (SetO X.w D S n)) (room : n + 1 < scanBound)
    (h : ∀ z, Inv X pn σ (upd H D (SetO X.w D (fun j => S j || decide (j = y)) (if S y = true then n else n + 1))) z → Q .none z) : wpAny (model X.prog X.w) X.A (call (.builtin "set.add") [.ref D, .int y t]) Q E s :=
  setR_add (setO_get I hD) room fun h' sb new => h _ (I.write (e := D) (t' := s.toks + 1) (by rw [hD]; trivial) (.inl rfl) (fun b u hb hu => (sb.2 b hb).trans hu) (by have ⟨o, _, _, _, ho, _⟩ := new; exact ⟨o, ho⟩) (setO_new new))
def tScI (w : World) (wt : TI) (g : TG) (tt : TT) (te : TE) (vs : List Nat) : TE := fun σ H Q => wt σ H fun J G1 => ∀ D, G1 D = none → ∃ W : Nat → Nat → Hp → Prop, (∃ m, W 0 m (upd G1 D (SetO w D (fun _ => false) 0))) ∧ ∀ i m H, W i m H →
  (J.stop i H ∧ Q (.ref D) H) ∨ (J.go i H ∧ ∃ Nx : Hp → Prop, (∀ G', Nx G' → ∃ m', m' < m ∧ W (i + 1) m' G') ∧ ∀ x G', J.yld i H x G' → g x (wipe σ vs) G' fun σ2 G2 => wipe σ2 vs = wipe σ vs ∧ tt σ2 G2 fun b G3 =>
    if b = true then te σ2 G3 fun y G4 => ∃ (c : Int) (S : Int → Bool) (n : Nat), y = .int c ∧ G4 D = some (SetO w D S n) ∧ n + 1 < scanBound ∧ Nx (upd G4 D (SetO w D (fun j => S j || decide (j = c)) (if S c = true then n else n + 1))) else Nx G3)
theorem sc_ints {pn : List (Addr × Obj)} {s : Shared} {σ : L2.St} {H : Hp} {Q : VK} {elm tg iter : Expr} {ifs : List Expr} {scp : Scope} {ow : List (Str × Nat)} {pos pos' : Pos} {wt : TI} {g : TG} {tt : TT} {te : TE} {use : Option (Value → Sem Unit)} {Qf : Value → Shared → Prop}
    (calm : X.calm = true) (hN : X.N.Nodup) (I : Inv X pn σ H s) (hi : PI X tg iter wt) (ok : BlkOk X.N X.env.scope scp ow)
    (hg : ∀ (s : Shared) (H : Hp) (C : Addr) (cl : List (Str × Addr)) (fp : List Addr), PG (X.blk s H scp (compEnvC scp cl C X.env) fp) tg g) (ht : ∀ (s : Shared) (H : Hp) (C : Addr) (cl : List (Str × Addr)) (fp : List Addr), PTs (X.blk s H scp (compEnvC scp cl C X.env) fp) ifs tt)
    (he : ∀ (s : Shared) (H : Hp) (C : Addr) (cl : List (Str × Addr)) (fp : List Addr), PE (X.blk s H scp (compEnvC scp cl C X.env) fp) elm te) (hs : ∀ x, foldedSetIterable iter X.env x = pure x)
    (h : tScI X.w wt g tt te (ow.map (·.2)) σ H Q)
    (hRR : ∀ D C z' m G', Inv X pn σ G' z' → Q (.ref D) G' → z'.heap.Ns C m → FpOk X pn G' C → compPost (model X.prog X.w) X.A X.xe use Qf (.ref D) C (.ok .next) z') :
    wpAny (model X.prog X.w) X.A (comprehension (.SetComp elm [⟨tg, iter, ifs, 0⟩] scp pos) scp X.env pos' (newSet (.type "set")) false (eval iter X.env) use) Qf X.xe s := by
  have hfree : ∀ y ∈ scp.names, y.2 = .free → ∃ c, X.env.cells.lookup y.1 = some c := fun y hy e => by
    rcases (ok.free y hy e) with k | k
    · exact I.ok.has _ (.inl k)
    · exact I.ok.has _ (.inr k)
  refine wpAny_comprehension_free rfl (use := use) hs (closure_ok hfree) ok.kind (fun y hy e => by rw [ok.uniq y hy, e])
    (thn (hi.run pn s σ H _ I h) fun xv z1 hx => thn hx fun itv z2 h2 => ?_)
  obtain ⟨it, fp, tn, J, G2, e, Y2, T, zt2, f2, q⟩ := h2
  subst e
  refine PpSet.newSet_ok (newEnv_comp ?_)
  generalize hD : z2.heap.objs.size = D
  have hDn : G2 D = none := Y2.hok.fresh (Nat.le_of_eq hD)
  obtain ⟨W, ⟨m0, w0⟩, turn⟩ := (q D hDn)
  -- the new list
  generalize hs3 : ({ z2 with heap := z2.heap.push { cls := .type "set", dict := none, data := .set #[] 0 (.fresh 0 0 (!X.w.params.followText "set-order")) } } : Shared) = z3
  have Y3 : Inv X pn σ (upd G2 D (SetO X.w D (fun _ => false) 0)) z3 := by
    rw [← hs3]
    refine Y2.laid (t' := z2.toks) (fun b o e => Heap.get?_push_of_some _ e) (Nat.le_of_eq hD) ?_
    rw [← hD]
    exact setO_new (setR_fresh X.w)
  have h3 : z3.heap = z2.heap.push { cls := .type "set", dict := none, data := .set #[] 0 (.fresh 0 0 (!X.w.params.followText "set-order")) } := by rw [← hs3]
  have sz : ∀ b ∈ fp, b < z2.heap.objs.size := fun b hb => by
    obtain ⟨o, e, _⟩ := T.obj _ _ zt2 b hb
    exact Heap.lt_size e
  have f3 : ∀ b ∈ fp, FpOk X pn (upd G2 D (SetO X.w D (fun _ => false) 0)) b ∧ b < z3.heap.objs.size := fun b hb => by
    have hlt := sz b hb
    refine ⟨⟨?_, (f2 b hb).2⟩, by rw [h3, Heap.size_push]; exact (Nat.lt_succ_of_lt hlt)⟩
    rw [upd_ne (by rw [← hD]; exact (Nat.ne_of_lt hlt))]
    exact (f2 b hb).1
  have zt3 : tn 0 z3.heap := T.keep _ _ _ zt2 fun b _ o e => by rw [h3]; exact Heap.get?_push_of_some _ e
  have Y4 := block_start Y3 ok hN f3
  have pg := hg z3 (upd G2 D (SetO X.w D (fun _ => false) 0)) z3.heap.objs.size (cellsFrom (z3.heap.objs.size + 1) scp.names (cloFrom X.env.cells scp.names [])) fp
  have pt := ht z3 (upd G2 D (SetO X.w D (fun _ => false) 0)) z3.heap.objs.size (cellsFrom (z3.heap.objs.size + 1) scp.names (cloFrom X.env.cells scp.names [])) fp
  have pe := he z3 (upd G2 D (SetO X.w D (fun _ => false) 0)) z3.heap.objs.size (cellsFrom (z3.heap.objs.size + 1) scp.names (cloFrom X.env.cells scp.names [])) fp
  show codeAny _ _ (.compStart (.SetComp elm [⟨tg, iter, ifs, 0⟩] scp pos) 0 (.ref it) (.ref D) (compEnvC scp (cellsFrom (z3.heap.objs.size + 1) scp.names (cloFrom X.env.cells scp.names [])) z3.heap.objs.size X.env)) (compPost (model X.prog X.w) X.A X.xe use Qf (.ref D) z3.heap.objs.size) { z3 with heap := pushCells (z3.heap.push { cls := .type "dict", data := .dict #[] }) scp.names }
  have nfp : ∀ b ∈ fp, (upd G2 D (SetO X.w D (fun _ => false) 0)) b = none := fun b hb => (f3 b hb).1.1
  generalize hce : compEnvC scp (cellsFrom (z3.heap.objs.size + 1) scp.names (cloFrom X.env.cells scp.names [])) z3.heap.objs.size X.env = ce at Y4 pg pt pe ⊢
  have cL : ce.locals = z3.heap.objs.size := by subst hce; rfl
  generalize hH3 : upd G2 D (SetO X.w D (fun _ => false) 0) = G3 at Y3 Y4 pg pt pe w0 nfp f3
  generalize hs4 : ({ z3 with heap := pushCells (z3.heap.push { cls := .type "dict", data := .dict #[] }) scp.names } : Shared) = z4 at Y4 ⊢
  have zt4 : tn 0 z4.heap := T.keep _ _ _ zt3 fun b _ o e => by rw [← hs4]; exact pushCells_keeps _ _ _ _ (Heap.get?_push_of_some _ e)
  have stat : ∀ {σ' : L2.St} {G' : Hp} {z' : Shared}, Inv (X.blk z3 G3 scp ce fp) [] σ' G' z' → (∀ b ∈ fp, G' b = none) → ∀ b ∈ fp, FpOk (X.blk z3 G3 scp ce fp) [] G' b := fun {σ' G' z'} Y' hn b hb =>
    ⟨hn b hb, (Y'.ok.exf b hb).1, Y'.ok.exfs b hb, .inl hb, fun x c e => (Y'.ok.exf b hb).2 x c e, fun p hp => absurd (show p ∈ ([] : List (Addr × Obj)) ++ [] from hp) (by simp)⟩
  have loop : codeAny (model X.prog X.w) X.A (.compLoop (.SetComp elm [⟨tg, iter, ifs, 0⟩] scp pos) 0 (.ref it) (.ref D) ce) (compPost (model X.prog X.w) X.A X.xe use Qf (.ref D) z3.heap.objs.size) z4 := by
    refine PpSet.compLoopS_any (fun n z' => ∃ i G', Inv (X.blk z3 G3 scp ce fp) [] (wipe σ (ow.map (·.2))) G' z' ∧ tn i z'.heap ∧ (∀ b ∈ fp, G' b = none) ∧ W i n G') ?_ m0 ⟨0, G3, Y4, zt4, nfp, w0⟩
    rintro n z5 ⟨i, G5, Y5, zt5, n5, w5⟩
    rcases turn i n G5 w5 with ⟨stop, qq⟩ | ⟨go, Nx, hNx, step⟩
    · have td := T.done (X.blk z3 G3 scp ce fp) rfl rfl rfl calm i [] z5 _ G5 (fun _ _ => False) Y5 (stat Y5 n5) zt5 stop
      refine thnF td fun r z6 ⟨hr, Y6⟩ => ?_
      subst hr
      -- back in the def's context
      have Y7 : Inv X pn σ G5 z6 := Y3.call' (ch := fp) Y6.os Y6.base Y6.hok Y6.bare fun b hb => ⟨(f3 b hb).1.2.2.2.1, (f3 b hb).1.2.1, (f3 b hb).1.2.2.2.2.1, (f3 b hb).1.2.2.2.2.2⟩
      have nC : G5 z3.heap.objs.size = none := by
        have z : G5 ce.locals = none := Y6.free
        rw [cL] at z
        exact z
      obtain ⟨m, hn, _⟩ := Y6.loc
      have hn : z6.heap.Ns ce.locals m := hn
      rw [cL] at hn
      exact hRR D z3.heap.objs.size z6 m G5 Y7 qq hn (Y3.fpOk (Nat.le_refl _) nC)
    · have ti := T.item (X.blk z3 G3 scp ce fp) rfl rfl rfl calm i [] z5 _ G5 (fun _ _ => False) Y5 (stat Y5 n5) zt5 go
      refine thnF ti fun r z6 ⟨u, hr, h6⟩ => ?_
      subst hr
      refine thnF h6 fun _ z7 ⟨x, G7, Y7, r7, y7, zt7, n7⟩ => ?_
      have Y7' := Y7.pinned (stat Y7 n7) (T.obj _ _ zt7)
      refine thnF (pg.run _ z7 _ G7 x u _ Y7' r7 (step x G7 y7)) fun _ z8 ⟨σ8, G8, Y8, hw8, q8⟩ => ?_
      refine thnF (pt.run _ z8 σ8 G8 _ Y8 q8) fun b z9 ⟨G9, Y9, q9⟩ => ?_
      -- the turn's end
      have fin : ∀ {z' : Shared} {G' : Hp}, Inv (X.blk z3 G3 scp ce fp) ([] ++ pinsAt fp z7.heap) σ8 G' z' → Nx G' → ∃ m, m < n ∧ ∃ i G', Inv (X.blk z3 G3 scp ce fp) [] (wipe σ (ow.map (·.2))) G' z' ∧ tn i z'.heap ∧ (∀ b ∈ fp, G' b = none) ∧ W i m G' := fun {z' G'} Y' nx => by
        obtain ⟨m', hm, w'⟩ := hNx G' nx
        have pin' : ∀ b ∈ fp, ∀ o, z7.heap.get? b = some o → z'.heap.get? b = some o ∧ G' b = none := fun b hb o e =>
          let z := Y'.pin (b, o) (List.mem_append_right _ (List.mem_append_right _ (mem_pinsAt hb e)))
          ⟨z.1, z.2.1⟩
        have hl9 : (wipe σ (ow.map (·.2))).length = σ8.length := by rw [← hw8, wipe_length]
        refine ⟨m', hm, i + 1, G', (Y'.unpinned (pins := [])).weak hl9 (fun j v e => ?_), T.keep _ _ _ zt7 fun b hb o e => (pin' b hb o e).1, fun b hb => ?_, w'⟩
        · rw [← hw8] at e
          exact (wipe_some e).1
        · obtain ⟨o, e, _⟩ := T.obj _ _ zt7 b hb
          exact (pin' b hb o e).2
      cases b with
      | false =>
        simp only [if_false, Bool.false_eq_true] at q9 ⊢
        exact fin Y9 q9
      | true =>
        simp only [if_true] at q9 ⊢
        refine thnF (pe.run _ z9 σ8 G9 _ Y9 q9) fun z z10 ⟨yv, G10, Y10, r10, cb, S0, n0, ey, hD10, hz10, nx⟩ => ?_
        subst ey
        obtain ⟨tkz, rfl⟩ := (r10 : ∃ tkz, z = Value.int cb tkz)
        exact addI_ok (X := X.blk z3 G3 scp ce fp) Y10 hD10 hz10 fun z11 Y11 => fin Y11 nx
  exact PpSet.codeAny_compStart_set loop (T.self X.A 0 _ _ _ zt4 loop)
end
section
variable {prog : Program} {w : World} {A : Around} {s : Shared} {E : Value → Shared → Prop}
abbrev set0 (w : World) : Obj := { cls := .type "set", dict := none, data := .set #[] 0 (.fresh 0 0 (!w.params.followText "set-order")) }
set_option maxHeartbeats 6000000 in
/-- set(a list of ints) -/
theorem call_set_lstI {l : Addr} {items : Array Value} (ns : List Int) {Q : Value → Shared → Prop} (hh : A.handled = none) (hl : s.heap.IsList l items) (are9 : IntsAre items.toList ns) (hb : ns.length + 1 < scanBound)
    (h : ∀ (h9 : Heap) (tk c : Nat), SetR w h9 s.heap.objs.size (fun j => decide (j ∈ ns)) c → c ≤ ns.length → (∀ b o, s.heap.get? b = some o → h9.get? b = some o) → Q (.ref s.heap.objs.size) { s with heap := h9, toks := tk }) :
    wpAny (model prog w) A (call (Value.type "set") [.ref l]) Q E s := by
  have sz9 : items.size = ns.length := by
    have q := IntsAre.length are9
    rw [Array.length_toList] at q
    exact q
  obtain ⟨c, tl, mro9⟩ := F.called_set.mro
  have made9 := F.called_set.made
  have sub9 := F.called_set.sub
  apply wpAny_call (codeAny_of_tree _)
  show wpAny _ _ (callAny (Value.type "set") _) _ _ _
  refine wpAny_pure (And.intro (Code.quiet_builtin _ (by decide +kernel)) (codeAny_builtin F.entry_type_call ?_))
  rw [Around.under_plain (weight_type_call_type "set" [Value.ref l] []) rfl]
  have n1 := F.called_set.notType
  have n2 := F.called_set.canCreate
  have tc9 := F.typeCall_set_1 (.ref l)
  repeat (any_goals (first | wp_step | assumption))

  refine codeAny_mono (code_set_led1 (.ref l) (E := E) (Q₁ := fun obj s₁ => obj = .ref s.heap.objs.size ∧ s₁ = { s with heap := s.heap.push (set0 w) }) ⟨rfl, rfl⟩) fun r s₁ hr => ?_
  cases r with
  | error e => exact hr
  | ok fl =>
    cases fl with
    | ret obj =>
      obtain ⟨rfl, rfl⟩ := hr
      have at9 : (s.heap.push (set0 w)).get? s.heap.objs.size = some (set0 w) := Heap.get?_push_size _ rfl
      have ty9 : Shared.TypeIs { s with heap := s.heap.push (set0 w) } (.ref s.heap.objs.size) "set" := ⟨_, at9, rfl⟩
      have li9 := F.called_set.init.lookup
      have bi9 := F.called_set.init.bind (.ref s.heap.objs.size)
      repeat (any_goals (first | wp_step | assumption))

      refine codeAny_mono (codeAny_call_builtin (R := wants (fun r z₂ => r = .none ∧ ∃ h9 tk c, z₂ = { s with heap := h9, toks := tk } ∧ SetR w h9 s.heap.objs.size (fun j => decide (j ∈ ns)) c ∧ c ≤ ns.length ∧
          (∀ b o, s.heap.get? b = some o → h9.get? b = some o)) E) F.called_set.init.plain F.entry_set_init (check_set_init_1 ty9 ?_)) fun u₂ z₂ q₂ => ?_
      · obtain ⟨oo9, ol9, cl9, nl9, dl9⟩ := hl
        obtain ⟨oc9, odict, odata, oslots⟩ := oo9
        simp only at cl9 dl9
        subst cl9; subst dl9
        have ol9' : (s.heap.push (set0 w)).get? l = some { cls := .type "list", dict := odict, data := .seq items nl9, slots := oslots } := Heap.get?_push_of_some _ ol9
        have su9 := F.sub_list_set
        have sf9 := F.sub_list_frozenset
        have nd9 : (Value.type "list" == Value.type "dict") = false := by decide
        have il9 : (s.heap.push (set0 w)).IsList l items := ⟨_, ol9', rfl, nl9, rfl⟩
        unfold Builtin.«set.__init__» Builtin.Frozenset.updateFrom noKeywords
        generalize hPi9 : pyIter = Pi9
        wp_walk
        subst hPi9

        refine wpAny_pyIter_list il9 ?_
        apply wpAny_bind (wpAny_runValue _)
        have lt9 : l < s.heap.objs.size := Heap.lt_size ol9
        have hd9 : A.in1.in1.in1.handled = none := by simp [hh]
        have hz1 : (s.heap.push (set0 w)).objs.size = s.heap.objs.size + 1 := Heap.size_push ..
        have ne9 : l ≠ (s.heap.push (set0 w)).objs.size := by
          rw [Heap.size_push]; exact Nat.ne_of_lt (Nat.lt_succ_of_lt lt9)
        have nf9 : s.heap.objs.size ∉ [(s.heap.push (set0 w)).objs.size, l] := by
          simp only [Heap.size_push, List.mem_cons, List.mem_singleton, List.not_mem_nil, or_false, not_or]
          exact ⟨Nat.ne_of_lt (Nat.lt_succ_self _), Nat.ne_of_gt lt9⟩
        have val9 : ∀ (i : Nat) (v : Value), items[i]? = some v → ∃ k t, ns[i]? = some k ∧ v = .int k t := fun i v hv => by
          have hi : i < ns.length := by rw [← sz9]; exact (Array.getElem?_eq_some_iff.mp hv).1
          obtain ⟨t, e⟩ := PyProof.Rows.IntsAre.int_at are9 i v (by rw [Array.getElem?_toList]; exact hv)
          refine ⟨ns[i], t, (List.getElem?_eq_getElem hi), ?_⟩
          rw [e, List.getD_eq_getElem?_getD, List.getElem?_eq_getElem hi]; rfl
        refine set_update_ints ((Walks.list hd9 _ l ne9 items).toS) s.heap.objs.size
          nf9 ns sz9 hb val9 (items.size - 0) 0 _ (by omega) (Nat.zero_le _)
          ⟨⟨_, Heap.get?_push_size _ rfl, rfl, rfl⟩, (il9.push _)⟩ ?hS0 ?hR
        case hS0 =>
          have get9 : ((s.heap.push (set0 w)).push { cls := .type "list_iterator", data := .fields #[.ref l, .int 0 0] }).get? s.heap.objs.size
              = some (set0 w) := Heap.get?_push_of_some _ at9
          exact ⟨0, Nat.le_refl 0, setR_new_at get9⟩
        case hR =>
          intro s' c9 mv9 hc' at9'
          obtain ⟨h9, g2, d', tk9, os'⟩ := s'
          have e1 : g2 = s.gens := mv9.gens
          have e2 : d' = s.drawn := mv9.drawn
          have e3 : os' = s.os := mv9.os
          subst e1; subst e2; subst e3
          change wpAny _ _ _ _ _ _
          apply wpAny_pure
          show wpAny _ _ (ret .none) _ _ _
          rw [sz9] at hc'
          refine wpAny_pure ⟨rfl, h9, tk9, c9, rfl, at9', hc', fun b o e => ?_⟩
          have b7 : b < s.heap.objs.size := Heap.lt_size e
          have b8 : b ≠ s.heap.objs.size := Nat.ne_of_lt b7
          have b9 : b ≠ (s.heap.push (set0 w)).objs.size := by
            rw [Heap.size_push]; exact Nat.ne_of_lt (Nat.lt_succ_of_lt b7)
          exact mv9.heap b o (by simp only [List.mem_cons, List.mem_singleton, List.not_mem_nil, or_false, not_or]; exact ⟨b8, b9⟩) (Heap.get?_push_of_some _ (Heap.get?_push_of_some _ e))

      · cases u₂ with
        | error e => exact q₂
        | ok fl₂ =>
          cases fl₂ with
          | ret r =>
            obtain ⟨rfl, h9, tk, c9, rfl, at9', hc', hk'⟩ := q₂
            repeat (any_goals (first | wp_step | assumption))
            exact h _ _ _ at9' hc' hk'
          | _ => exact q₂.elim
    | _ => exact hr.elim
end
/-! ### the rules -/
section
variable {X : Cx} {Ex : WX} {a : Expr}
/-- sorted of a set that is known -/
theorem sorted_setO {pins : List (Addr × Obj)} {σ : L2.St} {H : Hp} {s : Shared} {D : Addr} {S : Int → Bool} {n : Nat} {Q : VK} (I : Inv X pins σ H s) (hD : H D = some (SetO X.w D S n)) (hd : X.A.handled = none) (hu : X.A.units + 10 < cLine) (hn : n ≤ 1000)
    (q : ∀ (L : List Int) (p : Addr), L.Pairwise (· < ·) → (∀ k, k ∈ L ↔ S k = true) → H p = none → Q (.ref p) (upd H p (.lst (L.map V.int)))) : wpAny (model X.prog X.w) X.A (call (.builtin "sorted") [.ref D]) (EP X pins σ Q) X.xe s := by
  refine sorted_ints_set (setO_get I hD) hd hu fun t p out e L k2 g2 o2 low hp hL up mem len => ?_
  have small : (L.map V.int).length ≤ sizeLine := by rw [List.length_map, len, sizeLine_eq]; omega
  have free : H p = none := I.hok.fresh low
  have J : Inv X pins σ (upd H p (.lst (L.map V.int))) { s with heap := t.heap, gens := t.gens, drawn := t.drawn, toks := t.toks } :=
    I.call (ch := []) (Un.laid k2 low free) (I.hok.laid k2 low ⟨small, out.toList, e, vals_of_ints hL, hp⟩) (by rw [g2]; exact I.bare) (fun _ z => nomatch z)
  rw [GxR.sh_eta s t o2] at J
  exact ⟨.ref p, _, J, rfl, q L p up mem free⟩
theorem sorted_raw {pins : List (Addr × Obj)} {σ : L2.St} {H : Hp} {s : Shared} {D : Addr} {S : Int → Bool} {n tk : Nat} {g : Heap} {Q : VK} (I : Inv X pins σ H s) (R : SetR X.w g D S n) (kp : ∀ b o, s.heap.get? b = some o → g.get? b = some o) (hD : s.heap.objs.size ≤ D) (hd : X.A.handled = none) (hu : X.A.units + 10 < cLine) (hn : n ≤ 1000)
    (q : ∀ (L : List Int) (p : Addr), L.Pairwise (· < ·) → (∀ k, k ∈ L ↔ S k = true) → H p = none → Q (.ref p) (upd H p (.lst (L.map V.int)))) : wpAny (model X.prog X.w) X.A (call (.builtin "sorted") [.ref D]) (EP X pins σ Q) X.xe { s with heap := g, toks := tk } := by
  refine sorted_ints_set (s := { s with heap := g, toks := tk }) R hd hu fun t p out e L k2 g2 o2 low hp hL up mem len => ?_
  have small : (L.map V.int).length ≤ sizeLine := by rw [List.length_map, len, sizeLine_eq]; omega
  have all : ∀ b o, s.heap.get? b = some o → t.heap.get? b = some o := fun b o z => k2 b o (kp b o z)
  have far : s.heap.objs.size ≤ p := Nat.le_trans hD (Nat.le_trans (Nat.le_of_lt R.lt) low)
  have free : H p = none := I.hok.fresh far
  have J : Inv X pins σ (upd H p (.lst (L.map V.int))) { s with heap := t.heap, gens := t.gens, drawn := t.drawn, toks := t.toks } :=
    I.call (ch := []) (Un.laid all far free) (I.hok.laid all far ⟨small, out.toList, e, vals_of_ints hL, hp⟩) (by rw [g2]; exact I.bare) (fun _ z => nomatch z)
  rw [GxR.sh_eta s t o2] at J
  exact ⟨.ref p, _, J, rfl, q L p up mem free⟩
def tSortSetW (K : PySem.W.Frag) (ta : TE) : TE := fun σ H Q => ta σ H fun v H1 => ∃ (l : Addr) (ns : List Int), v = .ref l ∧ (SqL K H1 l (ns.map V.int) ∨ SqT K H1 l (ns.map V.int)) ∧ ns.length ≤ 1000 ∧ ∀ (L : List Int) (p : Addr), L.Pairwise (· < ·) → (∀ k, k ∈ L ↔ k ∈ ns) → H1 p = none → Q (.ref p) (upd H1 p (.lst (L.map V.int)))
theorem pe_sortSetW {ta : TE} {p p2 q pos : Pos} {k : Nat} (hr : Room k X.A) (hc : X.calm = true) (hg : Gl X "sorted") (hm : X.mg "sorted" = none) (hg2 : Gl X "set") (hm2 : X.mg "set" = none) (ha : PE X a ta) (hb : bootBuiltins "sorted" = some (.builtin "sorted") := by decide +kernel)
    (na : starEach [a] X.env = (false, eval a X.env) :: starEach [] X.env := by rfl) : PE X (.Call (.Name "sorted" p) [.Call (.Name "set" p2) [a] [] q] [] pos) (tSortSetW X.K ta) := by
  constructor
  intro pins s σ H _ I h
  refine Call_ (ld_blt I hg hm hb (callWith_builtin1 (args_cons (Call_ (ld_blt I hg2 hm2 boot_set (callWith_type1 (args_cons (thn (ha.run pins s σ H _ I h) ?_) na) na rfl))) rfl) rfl rfl))
  rintro v s1 ⟨x, H1, I1, r1, l, ns, rfl, hs, hl, q1⟩
  cases (show v = .ref l from r1)
  have un := hr.un
  rcases hs with hs | hs
  · obtain ⟨its, rv, pl, _⟩ := I1.list hs
    refine args_nil (call_set_lstI ns (I1.ok.hd hc) (show s1.heap.IsList l its.toArray from pl.isList) (show IntsAre its.toArray.toList ns from ints_of_vals rv) (by unfold scanBound; omega) fun g tk c R hcn kp => args_nil (sorted_raw I1 R kp (Nat.le_refl _) (I1.ok.hd hc) (by omega) (by omega) fun L p up mem => q1 L p up fun k => by rw [mem k]; simp))
  · obtain ⟨its, rv, pt, _⟩ := I1.tuple hs
    refine args_nil (call_set_tupI ns (I1.ok.hd hc) (show s1.heap.IsTuple l its.toArray from pt) (show IntsAre its.toArray.toList ns from ints_of_vals rv) (by unfold scanBound; omega) fun g tk c R hcn kp => args_nil (sorted_raw I1 R kp (Nat.le_refl _) (I1.ok.hd hc) (by omega) (by omega) fun L p up mem => q1 L p up fun k => by rw [mem k]; simp))
variable {ta : TE3}
/-- sorted(set(xs)), xs a list or a tuple of ints -/
def tSortSetW3 (ta : TE3) : TE3 := fun τ S Q => ta τ S fun w S1 => ∃ ns : List Int, itemsW S1 w = some (ns.map PyData.int) ∧ ns.length ≤ 1000 ∧ ∀ L : List Int, L.Pairwise (· < ·) → (∀ k, k ∈ L ↔ k ∈ ns) → Q (.lst (L.map PyData.int)) S1
theorem pe3_sortSetW {p p2 q pos : Pos} {k : Nat} (hr : Room k X.A) (hc : X.calm = true) (hg : Gl X "sorted") (hm : X.mg "sorted" = none) (hg2 : Gl X "set") (hm2 : X.mg "set" = none) (ha : PE X a (LE X.K Ex ta))
    (na : starEach [a] X.env = (false, eval a X.env) :: starEach [] X.env := by rfl) : PE X (.Call (.Name "sorted" p) [.Call (.Name "set" p2) [a] [] q] [] pos) (LE X.K Ex (tSortSetW3 ta)) :=
  pe_imp (pe_sortSetW hr hc hg hm hg2 hm2 ha (by decide +kernel) na) fun σ H Q ⟨F, S, τ, Q3, R, Ev, h, k⟩ => ⟨F, S, τ, _, R, Ev, h, fun F1 S1 H1 w v s1 R1 r1 ⟨ns, e, hl, q⟩ => by
    obtain ⟨a, us, rfl, hs, ha, _⟩ := items_rep R1 r1 e
    have e2 := ints_of ha
    subst e2
    refine ⟨a, ns, rfl, hs.imp id And.left, hl, fun L p up mem hp => ?_⟩
    obtain ⟨s2, R2, rw2⟩ := newLst R1 hp (dp_ints L)
    exact k _ _ _ _ _ (s1.trans s2) R2 rw2 (q L up mem)⟩
end
/-! ### sorted({elt for .. in ..}) of ints -/
section
variable {X : Cx} {Ex : WX}
theorem pe_scI {elm tg iter : Expr} {ifs : List Expr} {scp : Scope} {ow : List (Str × Nat)} {pos : Pos} {wt : TI} {g : TG} {tt : TT} {te : TE} (calm : X.calm = true) (hN : X.N.Nodup) (hi : PI X tg iter wt) (ok : BlkOk X.N X.env.scope scp ow)
    (hg : ∀ (s : Shared) (H : Hp) (C : Addr) (cl : List (Str × Addr)) (fp : List Addr), PG (X.blk s H scp (compEnvC scp cl C X.env) fp) tg g) (ht : ∀ (s : Shared) (H : Hp) (C : Addr) (cl : List (Str × Addr)) (fp : List Addr), PTs (X.blk s H scp (compEnvC scp cl C X.env) fp) ifs tt)
    (he : ∀ (s : Shared) (H : Hp) (C : Addr) (cl : List (Str × Addr)) (fp : List Addr), PE (X.blk s H scp (compEnvC scp cl C X.env) fp) elm te) (hs : ∀ x, foldedSetIterable iter X.env x = pure x := by intro _; rfl) :
    PE X (.SetComp elm [⟨tg, iter, ifs, 0⟩] scp pos) (tScI X.w wt g tt te (ow.map (·.2))) := by
  constructor
  intro pn s σ H Q I h
  rw [PpSet.eval_SetComp]
  refine sc_ints calm hN I hi ok hg ht he hs h fun D C z m G J q hn f => ⟨m, hn, fun _ sb => ?_⟩
  have ⟨f0, f1, f2, f3, f4, f5⟩ := f
  exact ⟨.ref D, G, J.turned (t' := z.toks) (fun b o hb e => (sb.2 b hb).trans e) f0 f1 f3 f4 f5, rfl, q⟩
def rSortI (w : World) : List V → Hp → VK → Prop := fun vs H Q => ∃ (D : Addr) (S : Int → Bool) (n : Nat), vs = [V.ref D] ∧ H D = some (SetO w D S n) ∧ n ≤ 1000 ∧
  ∀ (L : List Int) (p : Addr), L.Pairwise (· < ·) → (∀ k, k ∈ L ↔ S k = true) → H p = none → Q (.ref p) (upd H p (.lst (L.map V.int)))
theorem cr_sortI {k : Nat} (hr : Room k X.A) (hc : X.calm = true) : CallR X (.builtin "sorted") (rSortI X.w) := by
  intro pn s σ H xs us Q I r ⟨D, S, n, e, hD, hn, q⟩
  subst e
  rw [Vals.ref1 r]
  have un := hr.un
  exact sorted_setO I hD (I.ok.hd hc) (by omega) hn q
def tInt3 (te : TE3) : TE3 := fun τ S Q => te τ S fun y S1 => (∃ c : Int, y = .int c) ∧ Q y S1
def tSortSc3 (s : TI3) (g : TG3) (tt : TT3) (te : TE3) (vs : List Nat) : TE3 := fun τ S Q => s τ S fun ws S1 => ws.length ≤ 1000 ∧ lcGo g tt (tInt3 te) ⟨wipe3 τ.sl vs, XN⟩ ws [] S1 fun us S2 => ∀ L : List Int, L.Pairwise (· < ·) → (∀ k, k ∈ L ↔ W.int k ∈ us) → Q (.lst (L.map PyData.int)) S2

/-- what the set D holds: the ints among us -/
def SetIs (w : World) (F1 F' : Fz) (D : Addr) (i : Nat) (us : List W) : Prop := ∃ (M : Int → Bool) (n : Nat), F'.g = upd F1.g D (SetO w D M n) ∧ n ≤ i ∧ ∀ k, M k = true ↔ W.int k ∈ us
theorem le_sc {w : World} {K : PySem.W.Frag} {s : TI3} {g3 : TG3} {g : TG} {tt : TT3} {te : TE3} {vs : List Nat} (lg : LGL K EN g3 g) (wp : Wp g vs) :
    ∀ σ H Q, LE K Ex (tSortSc3 s g3 tt te vs) σ H Q → tCB (rSortI w) (tCons (tScI w (LI K Ex s) g (LT K EN tt) (LE K EN te) vs) tNil) σ H Q :=
  fun σ H Q ⟨F, S, τ, Q3, R, Ev, h, k⟩ => ⟨F, S, τ, _, R, Ev, h, fun F1 S1 H1 ws J s1 R1 yl ⟨hz, h1⟩ => by
    intro D hD
    have gD := R1.freeG hD
    let Qe : List W → Sto → Prop := fun us S2 => ∀ L : List Int, L.Pairwise (· < ·) → (∀ k, k ∈ L ↔ W.int k ∈ us) → Q3 (.lst (L.map PyData.int)) S2
    let St : Nat → Hp → Prop := fun i H' => ∃ F' S' us, Same F1.f F'.f ∧ SetIs w F1 F' D i us ∧ Rel K F' S' H' ∧ i ≤ ws.length ∧ lcGo g3 tt (tInt3 te) ⟨wipe3 τ.sl vs, XN⟩ (ws.drop i) us S' Qe
    refine ⟨fun i m H' => m = ws.length - i ∧ St i H', ⟨ws.length, rfl, ⟨upd F1.g D (SetO w D (fun _ => false) 0), F1.f⟩, S1, [], fun _ _ e => e, ⟨fun _ => false, 0, rfl, Nat.le_refl _, fun k => by simp⟩, R1.hide hD, Nat.zero_le _, h1⟩, ?_⟩
    rintro i m H' ⟨rfl, F2, S2, us, s2, ⟨M, n, g2, ni, mem⟩, R2, hi, h2⟩
    by_cases hlt : i < ws.length
    · rw [List.drop_eq_getElem_cons hlt] at h2
      refine .inr ⟨yl.go i H' F2 S2 s2 R2 hlt, St (i + 1), fun H3 z => ⟨ws.length - (i + 1), by omega, rfl, z⟩, fun x H3 hy => ?_⟩
      obtain ⟨F3, u, hw, s3, R3, r3⟩ := yl.yld i H' F2 S2 x H3 s2 R2 hlt hy
      rw [List.getElem?_eq_getElem hlt] at hw
      cases hw
      have Ev3 : EnvR K F3 EN ⟨wipe3 τ.sl vs, XN⟩ (wipe σ vs) := ⟨sle_g (s1.f.trans (s2.trans s3.f)) (sl_wipe Ev.sl vs), fun _ _ _ _ _ _ _ _ _ _ _ _ _ _ z => z.elim⟩
      have z := lg F3 S2 ⟨wipe3 τ.sl vs, XN⟩ _ x (wipe σ vs) H3 _ (fun σ2 H2 => LT K EN tt σ2 H2 fun b H3 => if b = true then LE K EN te σ2 H3 fun y H4 => ∃ (c : Int) (M : Int → Bool) (n : Nat), y = .int c ∧ H4 D = some (SetO w D M n) ∧ n + 1 < scanBound ∧ St (i + 1) (upd H4 D (SetO w D (fun j => M j || decide (j = c)) (if M c = true then n else n + 1)))
        else St (i + 1) H3) R3 Ev3 r3 h2
        fun F4 S4 H4 τ4 σ4 s4 R4 Ev4 h4 => ⟨F4, S4, τ4, _, R4, Ev4, h4, fun F5 S5 H5 b s5 R5 ⟨h5, h6⟩ => by
          have g5 : F5.g = upd F1.g D (SetO w D M n) := by rw [s5.g, s4.g, s3.g, g2]
          have sf : Same F2.f F5.f := s3.f.trans (s4.f.trans s5.f)
          cases b with
          | true =>
            refine iteT ⟨F5, S5, τ4, _, R5, Ev4.mono s5, h5 rfl, fun F6 S6 H6 y v s6 R6 r6 ⟨⟨c, ec⟩, h7⟩ => ?_⟩
            subst ec
            have ev := rep_int r6
            subst ev
            have g6 : F6.g = upd F1.g D (SetO w D M n) := by rw [s6.g, g5]
            have gd : F6.g D = some (SetO w D M n) := by rw [g6, upd_same]
            refine ⟨c, M, n, rfl, R6.hd D _ gd, by unfold scanBound; omega, ⟨upd F6.g D (SetO w D (fun j => M j || decide (j = c)) (if M c = true then n else n + 1)), F6.f⟩, S6, us ++ [.int c], s2.trans (sf.trans s6.f), ⟨fun j => M j || decide (j = c), if M c = true then n else n + 1, ?_, ?_, fun k => ?_⟩, R6.rehide gd, hlt, h7⟩
            · show upd F6.g D _ = _
              rw [g6, upd_upd]
            · split <;> omega
            · rw [Bool.or_eq_true, mem k, List.mem_append, List.mem_singleton, decide_eq_true_iff]
              exact or_congr Iff.rfl ⟨fun e => by rw [e], fun e => by injection e with e; injection e⟩
          | false => exact iteF ⟨F5, S5, us, s2.trans sf, ⟨M, n, g5, by omega, mem⟩, R5, hlt, h6 rfl⟩⟩
      have z2 := wp _ _ _ _ z
      have e0 : wipe (wipe σ vs) vs = wipe σ vs := by
        have : ∀ us : List Nat, (∀ u ∈ us, u ∈ vs) → wipe (wipe σ us) vs = wipe σ vs := fun us => by
          induction us with
          | nil => intro _; rfl
          | cons u us ih =>
            intro hu
            show wipe ((wipe σ us).set u none) vs = _
            rw [wipe_set (hu u List.mem_cons_self)]
            exact ih fun q hq => hu q (List.mem_cons_of_mem _ hq)
        exact this vs fun _ h => h
      rw [e0] at z2
      exact z2
    · have e : i = ws.length := by omega
      subst e
      rw [List.drop_length] at h2
      have h2 : Qe us S2 := h2
      have gd : F2.g D = some (SetO w D M n) := by rw [g2, upd_same]
      obtain ⟨R3, s3⟩ := R2.showF gD g2
      refine .inl ⟨yl.stop _ H' F2 S2 s2 R2 (Nat.le_refl _), D, M, n, rfl, R2.hd D _ gd, by omega, fun L p up ml hp => ?_⟩
      obtain ⟨s4, R4, r4⟩ := newLst R3 hp (dp_ints L)
      have s5 : Sm F1 ⟨F1.g, upd F2.f D (SetO w D M n)⟩ := ⟨rfl, s2.trans s3⟩
      exact k _ S2 _ _ _ (s1.trans (s5.trans s4)) R4 r4 (h2 L up fun k => by rw [ml k, mem k])⟩
theorem pe3_sortSc {elm tg iter : Expr} {ifs : List Expr} {scp : Scope} {pos p pos2 : Pos} {s : TI3} {g3 : TG3} {g : TG} {tt : TT3} {te : TE3} {k : Nat} (ow : List (Str × Nat)) (hr : Room k X.A) (calm : X.calm = true) (hG : Gl X "sorted") (hm : X.mg "sorted" = none) (hN : X.N.Nodup) (hi : PI X tg iter (LI X.K Ex s)) (ok : BlkOk X.N X.env.scope scp ow) (lg : LGL X.K EN g3 g) (wp : Wp g (ow.map (·.2)))
    (hg : ∀ (s : Shared) (H : Hp) (C : Addr) (cl : List (Str × Addr)) (fp : List Addr), PG (X.blk s H scp (compEnvC scp cl C X.env) fp) tg g) (ht : ∀ (s : Shared) (H : Hp) (C : Addr) (cl : List (Str × Addr)) (fp : List Addr), PTs (X.blk s H scp (compEnvC scp cl C X.env) fp) ifs (LT X.K EN tt))
    (he : ∀ (s : Shared) (H : Hp) (C : Addr) (cl : List (Str × Addr)) (fp : List Addr), PE (X.blk s H scp (compEnvC scp cl C X.env) fp) elm (LE X.K EN te)) (hs : ∀ x, foldedSetIterable iter X.env x = pure x := by intro _; rfl)
    (na : starEach [.SetComp elm [⟨tg, iter, ifs, 0⟩] scp pos] X.env = (false, eval (.SetComp elm [⟨tg, iter, ifs, 0⟩] scp pos) X.env) :: starEach [] X.env := by rfl) :
    PE X (.Call (.Name "sorted" p) [.SetComp elm [⟨tg, iter, ifs, 0⟩] scp pos] [] pos2) (LE X.K Ex (tSortSc3 s g3 tt te (ow.map (·.2)))) :=
  pe_imp (pe_callB (cr_sortI hr calm) hG hm (by decide +kernel) (pa_cons (pe_scI calm hN hi ok hg ht he hs) pa_nil na)) (le_sc lg wp)
end
end H3

/-! H3u: sorted(xs, key=lambda x: ..). -/
namespace H3
open PySem PySem.Spec PySem.W L2
open PyProof.Rows hiding St
/-! ### a lambda of one parameter -/
structure LamP (sco : Scope) (x : Str) : Prop where
  kind : sco.kind = .function
  co : sco.isCoroutine = false
  gen : sco.isGenerator = false
  own : ∀ y ∈ sco.names, y.2 ≠ .cell ∧ y.2 ≠ .free
  loc : sco.names.lookup x = some .local
def lamPB (scope : Scope) (x : Str) : Bool :=
  decide (scope.kind = .function) && !scope.isCoroutine && !scope.isGenerator && (scope.names.all fun y => !decide (y.2 = .cell) && !decide (y.2 = .free)) && decide (scope.names.lookup x = some .local)
theorem lamP_by {scope : Scope} {x : Str} (h : lamPB scope x = true) : LamP scope x := by
  unfold lamPB at h
  simp only [Bool.and_eq_true, Bool.not_eq_true', decide_eq_true_eq, decide_eq_false_iff_not, List.all_eq_true] at h
  obtain ⟨⟨⟨⟨h1, h2⟩, h3⟩, h4⟩, h5⟩ := h
  exact ⟨h1, h2, h3, h4, h5⟩
/-- what a key's body finds -/
structure KeyAt (mg : Str → Option Value) (x : Str) (L : Addr) (v : Value) (d : PyData) (h : Heap) : Prop where
  loc : ∃ m, h.Ns L m ∧ m x = some v
  glob : h.Ns mainGlobals mg
  blt : ∃ mb, h.Ns builtinsNs mb ∧ ∀ y : Str, y ≠ "__name__" → mb y = bootBuiltins y
  rd : Reads h v d []
/-- the body gives the key, and keeps all -/
def KeyBody (prog : Program) (w : World) (mg : Str → Option Value) (scope : Scope) (x : Str) (body : Expr) (key : PyData → PyData) (good : PyData → Prop) : Prop :=
  ∀ (A : Around) (E : Value → Shared → Prop) (s : Shared) (q : Str) (L f : Addr) (cd : Value) (cl : List (Str × Addr)) (v : Value) (d : PyData), good d → KeyAt mg x L v d s.heap → wpAny (model prog w) A (eval body (PySem.W.envX q scope L f cd cl)) (PySem.W.KeyPure (key d) s) E s
section
variable {prog : Program} {w : World} {s : Shared} {A : Around}
/-- f(v), f a lambda that stands in the heap -/
theorem lam_key {mg : Str → Option Value} {q x : Str} {params : Arguments} {body : Expr} {scope : Scope} {cl : List (Str × Addr)} {pm ctv : Value} {f c' : Addr} {v : Value} {d : PyData} {key : PyData → PyData} {good : PyData → Prop} {E : Value → Shared → Prop} (L : LamP scope x) (kb : KeyBody prog w mg scope x body key good) (gd : good d)
    (hf : s.heap.get? f = some (PySem.W.kla_obj "<lambda>" q params body scope cl pm c' ctv)) (hdep : A.depth < recursionLimit) (hcd : s.heap.CodeRec (.ref c') q) (hlim : s.heap.NoLimit)
    (hbind : bindArgs (PySem.W.kla_fn "<lambda>" q params body scope cl pm (.ref c') ctv) ⟨[v], []⟩ = pure [(x, v)])
    (hg : s.heap.Ns mainGlobals mg) (hb : ∃ mb, s.heap.Ns builtinsNs mb ∧ ∀ y : Str, y ≠ "__name__" → mb y = bootBuiltins y) (hv : Reads s.heap v d []) :
    wpAny (model prog w) A (call (.ref f) [v]) (PySem.W.KeyPure (key d) s) E s := by
  have rc : codeAny (model prog w) A (.call (.ref f) ⟨[v], []⟩) (fun r t => ∃ u, r = .ok (.ret u) ∧ PySem.W.KeyPure (key d) s u t) s := by
    refine PySem.W.kla_callFunE hdep hf rfl L.co L.gen rfl hcd ?_
    rw [hbind]
    refine wpAny_pure (wpAny_newFunctionEnv (fun y hy => (L.own y hy).1) (fun y hy => by rw [List.mem_singleton.mp hy]; exact L.loc) (fun h₁ hns hsb => ⟨hlim.fresh _ hsb, ?_⟩) L.kind)
    show codeAny _ _ (.expr body (PySem.W.envX q scope s.heap.objs.size f (.ref c') cl)) _ _
    have kp : ∀ b o, s.heap.get? b = some o → h₁.get? b = some o := fun b o e => (hsb.extBut b o (Nat.ne_of_lt (Heap.lt_size e)) (Heap.get?_push_of_some _ e))
    obtain ⟨mb, b1, b2⟩ := hb
    refine PySem.W.kla_codeExpr (wpAny_mono (kb _ _ { s with heap := h₁, toks := s.toks + [(x, v)].length } q s.heap.objs.size f (.ref c') cl v d gd ⟨⟨_, hns, ?_⟩, hg.keeps kp, ⟨mb, b1.keeps kp, b2⟩, PyProof.Rows.Reads.keeps kp hv⟩) (fun u t h => ⟨u, rfl, ?_⟩) fun e t h => h)
    · show List.lookup x [(x, v)].reverse = some v
      simp
    · obtain ⟨h', tk, rfl, k2, r2⟩ := h
      exact ⟨h', tk, rfl, fun b o e => k2 b o (kp b o e), r2⟩
  refine wpAny_call (codeAny_mono rc fun r t h => ?_)
  obtain ⟨u, rfl, h⟩ := h
  exact h
end
def goodTup (d : PyData) : Prop := ∃ ds, d = .tuple ds ∧ ds.length ≤ sizeLine
def keyLen (d : PyData) : PyData := match d with | .tuple ds => .tuple [.int ds.length, .tuple ds] | d => d
/-- (len(x), x), x a tuple -/
theorem keyBody_len {prog : Program} {w : World} {mg : Str → Option Value} {scope : Scope} {x : Str} {p1 p2 p3 p4 p5 : Pos} (L : LamP scope x) (hl : scope.names.lookup ("len" : Str) = some .globalImplicit) (hm : mg "len" = none) (nx : (x == ("__debug__" : Str)) = false := by decide) :
    KeyBody prog w mg scope x (.Tuple [.Call (.Name "len" p1) [.Name x p2] [] p3, .Name x p4] 0 p5) keyLen goodTup := by
  rintro A E s q Lo f cd cl v d ⟨ds, rfl, hz⟩ ⟨⟨m, hn, hx⟩, hg, ⟨mb, b1, b2⟩, rd⟩
  obtain ⟨a, o, its, n, rfl, o1, o2, o3, rs⟩ := read_tup rd
  have lens : its.size = ds.length := by rw [← Array.length_toList]; exact reads_len rs
  have isT : IsTup s.heap a its := ⟨o, o1, o2, n, o3⟩
  have var : ∀ (t : Nat) (p : Pos) (Q2 : Value → Shared → Prop), Q2 (.ref a) { s with toks := t } → wpAny (model prog w) A (eval (.Name x p) (PySem.W.envX q scope Lo f cd cl)) Q2 E { s with toks := t } := fun t p Q2 h =>
    wpAny_Name (wpAny_loadName_local L.kind L.loc hn hx h) nx
  refine wpAny_Tuple_spliced (args_cons (Call_ (Calls.Name_function_global L.kind hl (Calls.loadGlobal_builtin hg hm b1 ((b2 "len" (by decide)).trans (by decide +kernel : bootBuiltins "len" = some (.builtin "len"))) (callWith_builtin1 (args_cons (var s.toks p2 _ (args_nil (len_tuple isT (by rw [lens]; have e := sizeLine_eq; omega) ?_))))))) ))
  refine args_cons (var _ p4 _ (args_nil ⟨show 2 ≤ sizeLine by decide, ?_⟩))
  refine ⟨_, _, rfl, fun b u e => Heap.get?_push_of_some _ e, ?_⟩
  have kp : ∀ (o2 : Obj) b u, s.heap.get? b = some u → (s.heap.push o2).get? b = some u := fun o2 b u e => Heap.get?_push_of_some _ e
  have e2 : PyData.int ds.length = PyData.int its.size := by rw [lens]
  show Reads _ _ (.tuple [PyData.int ds.length, .tuple ds]) _
  rw [e2]
  refine .tuple (Heap.get?_push_size _ rfl) rfl rfl ?_
  exact ReadsAll.cons (as := []) (bs := [] ++ []) (.int _ _) (.cons (PyProof.Rows.Reads.keeps (kp _) rd) .nil)
/-! ### data without lists -/
mutual
def noLst : PyData → Bool
  | .list _ => false
  | .dict _ => false
  | .tuple ds => noLstAll ds
  | _ => true
def noLstAll : List PyData → Bool
  | [] => true
  | d :: ds => noLst d && noLstAll ds
end
mutual
theorem reads_nil {h : Heap} : ∀ {v : Value} {d : PyData} {as : List Addr}, Reads h v d as → noLst d = true → as = []
  | _, _, _, .list _ _ _ _, e => by simp [noLst] at e
  | _, _, _, .tuple _ _ _ r, e => readsAll_nil r (by simpa [noLst] using e)
  | _, _, _, .dict _ _ _ _ _, e => by simp [noLst] at e
  | _, _, _, .none, _ => rfl
  | _, _, _, .bool _, _ => rfl
  | _, _, _, .int _ _, _ => rfl
  | _, _, _, .str _ _, _ => rfl
theorem readsAll_nil {h : Heap} : ∀ {vs : List Value} {ds : List PyData} {as : List Addr}, ReadsAll h vs ds as → noLstAll ds = true → as = []
  | _, _, _, .nil, _ => rfl
  | _, _, _, .cons r q, e => by
    simp only [noLstAll, Bool.and_eq_true] at e
    rw [reads_nil r e.1, readsAll_nil q e.2]; rfl
end
/-! ### the lambda is made -/
/-- what is known once it is made: all as before, or its code object, new, told in the table at P -/
def NewH (P : Addr) (q : Str) (ps : Array Value) (H H2 : Hp) : Prop := H2 = H ∨ ∃ (more : Array Value) (c' : Addr), H c' = none ∧ TriplesOk (ps ++ more).toList ∧ (∀ pos cv, codeAmong pos (ps ++ more).toList = some cv → codeAmong pos ps.toList = some cv ∨ cv = .ref c') ∧ H2 = upd (upd H P (.tbl (ps ++ more))) c' (LamX.CodeO c' q)
section
variable {X : Cx} {σ : L2.St} {H : Hp} {pins : List (Addr × Obj)} {s : Shared}
theorem lam_make3 {c P : Addr} {params : Arguments} {body : Expr} {scope : Scope} {pos : Pos} {E : Value → Shared → Prop} {Q : Value → Shared → Prop} {ps : Array Value} (I : Inv X pins σ H s) (TB : GxR.TabB X.base X.mg c P) (hcode : X.env.code = .ref c) (hP : H P = some (.tbl ps)) (ht : TriplesOk ps.toList)
    (ha : ∀ pos cv, codeAmong pos ps.toList = some cv → ∃ c, cv = .ref c ∧ H c = some (LamX.CodeO c (X.env.qual ++ "<lambda>"))) (hdef : defaultsOf params X.env = ([], [])) (hfree : ∀ y ∈ scope.names, y.2 ≠ .free)
    (h : ∀ (f c' : Addr) (pm ctv : Value) (H2 : Hp) (t : Shared), NewH P (X.env.qual ++ "<lambda>") ps H H2 → Inv X pins σ H2 t → H2 c' = some (LamX.CodeO c' (X.env.qual ++ "<lambda>")) →
      t.heap.get? f = some (PySem.W.kla_obj "<lambda>" (X.env.qual ++ "<lambda>") params body scope (cloFrom X.env.cells scope.names []) pm c' ctv) → Q (.ref f) t) :
    wpAny (model X.prog X.w) X.A (eval (Expr.Lambda params body scope pos) X.env) Q E s := by
  have free : ∀ y ∈ scope.names, y.2 = .free → ∃ c, X.env.cells.lookup y.1 = some c := fun y hy e => absurd e (hfree y hy)
  have tabAt : s.heap.get? P = some { cls := .none, data := .fields ps } := I.hok P _ hP
  have bP : s.heap.BuiltinsAt X.mg P := (TB.bm.keeps I.bk)
  apply PySem.W.kla_eval hdef
  cases among : codeAmong pos ps.toList with
  | some cv =>
    obtain ⟨c', rfl, known⟩ := ha pos cv among
    refine PySem.W.kla_makeFunctionHit (c := c) (P := P) (ps := ps) (mg := X.mg) (closure_ok free) I.ok.glob (I.mod.glob.keeps I.bk) hcode (TB.code.keeps I.bk) tabAt ht among bP fun ctv g tk kp _ => ?_
    exact h g.objs.size c' ((X.mg "__name__").getD .none) ctv H _ (.inl rfl) (I.kept (t' := tk) fun b o e => Heap.get?_push_of_some _ (kp b o e)) known (Heap.get?_push_size _ rfl)
  | none =>
    refine PySem.W.kla_makeFunction (c := c) (P := P) (ps := ps) (mg := X.mg) (closure_ok free) I.ok.glob (I.mod.glob.keeps I.bk) hcode (TB.code.keeps I.bk) tabAt ht among TB.gP bP fun c' ctv g tk ext ge lt rec tab => ?_
    obtain ⟨c0, oc, vs, t, e0, oc1, oc2, oc3⟩ := rec
    cases e0
    have I1 := LamX.inv_table (t' := tk) (more := #[rawInt pos.line, rawInt pos.col, .ref c']) (h' := g.push (PySem.W.kla_obj "<lambda>" (X.env.qual ++ "<lambda>") params body scope (cloFrom X.env.cells scope.names []) ((X.mg "__name__").getD .none) c' ctv)) (q := X.env.qual ++ "<lambda>") I hP
      (fun b o hb e => Heap.get?_push_of_some _ (ext b o hb e)) (Heap.get?_push_of_some _ tab) ge ⟨oc, vs, t, Heap.get?_push_of_some _ oc1, oc2, oc3⟩
    have eL : (ps ++ #[rawInt pos.line, rawInt pos.col, .ref c']).toList = ps.toList ++ [rawInt pos.line, rawInt pos.col, .ref c'] := (by simp)
    refine h g.objs.size c' ((X.mg "__name__").getD .none) ctv _ _ (.inr ⟨_, c', I.hok.fresh ge, by rw [eL]; exact PySem.TriplesOk_snoc _ _ _ _ ht, fun p cv hc => ?_, rfl⟩) I1 upd_same (Heap.get?_push_size _ rfl)
    rw [eL] at hc
    exact LamX.among_app _ ht hc
end
/-! ### the rule -/
section
variable {X : Cx} {Ex : WX} {a : Expr}
/-- what is asked of the items, their keys -/
structure KeysOk (good : PyData → Prop) (key : PyData → PyData) (ds : List PyData) : Prop where
  good : ∀ d ∈ ds, good d
  flat : ∀ d ∈ ds, noLst d = true
  alike : PySem.W.AllAlike (ds.map key)
  sort : PySem.W.Sortable (ds.map key)
  deep : ∀ d ∈ ds, (key d).depth ≤ 60
  len : ds.length ≤ sizeLine
def tSortKeyV (K : PySem.W.Frag) (P : Addr) (q : Str) (good : PyData → Prop) (key : PyData → PyData) (ta : TE) : TE := fun σ H Q => ta σ H fun v H1 => ∃ (l : Addr) (xs : List V) (ds : List PyData) (ps : Array Value) (G : Hp), v = .ref l ∧ (SqL K H1 l xs ∨ SqT K H1 l xs) ∧ (∀ b o, G b = some o → H1 b = some o ∧ b ≠ P) ∧ DpAll K G xs ds ∧ KeysOk good key ds ∧
  H1 P = some (.tbl ps) ∧ TriplesOk ps.toList ∧ (∀ pos cv, codeAmong pos ps.toList = some cv → ∃ c, cv = .ref c ∧ H1 c = some (LamX.CodeO c q)) ∧ ∀ (H2 : Hp) (ys : List V) (p : Addr), NewH P q ps H1 H2 → Paired (fun y d => (y, d) ∈ xs.zip ds) ys (ds.mergeSort (PySem.W.dataLe false key)) → H2 p = none → Q (.ref p) (upd H2 p (.lst ys))
theorem newH_keep {P : Addr} {q : Str} {ps : Array Value} {H H2 : Hp} (n : NewH P q ps H H2) {b : Addr} {o : HO} (e : H b = some o) (hb : b ≠ P) : H2 b = some o := by
  rcases n with rfl | ⟨more, c', hc, _, _, rfl⟩
  · exact e
  · rw [upd_ne (ne_of_none e hc), upd_ne hb]; exact e
theorem newH_sqL {K : PySem.W.Frag} {P l : Addr} {q : Str} {ps : Array Value} {H H2 : Hp} {xs : List V} (n : NewH P q ps H H2) (hP : H P = some (.tbl ps)) (h : SqL K H l xs) : SqL K H2 l xs := by
  rcases h with (h | ⟨ob, h⟩) | h
  · exact .inl (.inl (newH_keep n h fun e => by rw [e, hP] at h; cases h))
  · exact .inl (.inr ⟨ob, newH_keep n h fun e => by rw [e, hP] at h; cases h⟩)
  · exact .inr h
theorem newH_sqT {K : PySem.W.Frag} {P l : Addr} {q : Str} {ps : Array Value} {H H2 : Hp} {xs : List V} (n : NewH P q ps H H2) (hP : H P = some (.tbl ps)) (h : SqT K H l xs) : SqT K H2 l xs := by
  rcases h with (h | ⟨ob, h⟩) | h
  · exact .inl (.inl (newH_keep n h fun e => by rw [e, hP] at h; cases h))
  · exact .inl (.inr ⟨ob, newH_keep n h fun e => by rw [e, hP] at h; cases h⟩)
  · exact .inr h
theorem each_both {α β : Type} {R R2 : α → β → Prop} : ∀ {xs : List α} {ys : List β}, PySem.W.EachIs R xs ys → PySem.W.EachIs R2 xs ys → PySem.W.EachIs (fun a b => R a b ∧ R2 a b) xs ys
  | _, _, .nil, .nil => .nil
  | _, _, .cons a s, .cons b t => .cons ⟨a, b⟩ (each_both s t)
theorem each_flat {h : Heap} : ∀ {vs : List Value} {ds : List PyData}, PySem.W.EachIs (fun v d => ∃ as, Reads h v d as) vs ds → (∀ d ∈ ds, noLst d = true) → PySem.W.EachIs (fun v d => Reads h v d []) vs ds
  | _, _, .nil, _ => .nil
  | _, _, .cons ⟨as, r⟩ t, f => by
    have e := reads_nil r (f _ List.mem_cons_self)
    subst e
    exact .cons r (each_flat t fun d hd => f d (List.mem_cons_of_mem _ hd))
theorem pe_sortKeyV {ta : TE} {c P : Addr} {x : Str} {params : Arguments} {body : Expr} {scope : Scope} {p lpos kpos pos : Pos} {k : Nat} {good : PyData → Prop} {key : PyData → PyData} (hr : Room k X.A) (hc : X.calm = true) (hg : Gl X "sorted") (hm : X.mg "sorted" = none) (TB : GxR.TabB X.base X.mg c P) (hcode : X.env.code = .ref c) (L : LamP scope x) (ha : PE X a ta)
    (kb : KeyBody X.prog X.w X.mg scope x body key good) (hdef : defaultsOf params X.env = ([], [])) (hbind : ∀ (q : Str) (cl : List (Str × Addr)) (pm cv ctv v : Value), bindArgs (PySem.W.kla_fn "<lambda>" q params body scope cl pm cv ctv) ⟨[v], []⟩ = pure [(x, v)])
    (hb : bootBuiltins "sorted" = some (.builtin "sorted") := by decide +kernel)
    (na : starEach [a] X.env = (false, eval a X.env) :: starEach [] X.env := by rfl) : PE X (.Call (.Name "sorted" p) [a] [⟨some "key", .Lambda params body scope lpos, kpos⟩] pos) (tSortKeyV X.K P (X.env.qual ++ "<lambda>") good key ta) := by
  constructor
  intro pins s σ H Q I h
  refine wpAny_Call_Name_kw (ld_blt I hg hm hb (callWith_kw (args_cons (thn (ha.run pins s σ H _ I h) ?_) na) ?_ ?_))
  · rintro v s1 ⟨w, H1, I1, r1, l, xs, ds, ps, G, rfl, hs, sm, dd, ok, hP, ht, hcodes, fin⟩
    cases (show v = .ref l from r1)
    refine args_nil ?_
    show wpAny _ _ (evalAll ((do let v ← eval (.Lambda params body scope lpos) X.env; standAt pos; pure v) :: [])) _ _ s1
    refine wpAny_evalAll_cons (wpAny_bind (lam_make3 I1 TB hcode hP ht hcodes hdef (fun y hy => (L.own y hy).2) fun f c' pm ctv H2 s2 nw I2 hc' hf => wpAny_bind (wpAny_standAt (wpAny_pure (wpAny_evalAll_nil ?_)))))
    have hs2 : SqL X.K H2 l xs ∨ SqT X.K H2 l xs := hs.imp (fun z => newH_sqL nw hP z) (fun z => newH_sqT nw hP z)
    have dd2 : L2.DpAll X.K H2 xs ds := (dpAll_mono (fun b o e => newH_keep nw (sm b o e).1 (sm b o e).2) dd).q
    have ops : ∀ fv : Value, ((backToKw pos (keywordEach [⟨some "key", .Lambda params body scope lpos, kpos⟩] X.env)).filterMap (·.1)).zip [fv] = [(Str.ofString "key", fv)] := fun fv => rfl
    rw [ops]
    obtain ⟨its, rv, T, o, n, hT, ho, hcl, hdt⟩ : ∃ (its : List Value) (_ : Vals xs its) (T : String) (o : Obj) (n : Nat), (T = "list" ∨ T = "tuple") ∧ s2.heap.get? l = some o ∧ o.cls = .type T ∧ o.data = .seq its.toArray n := by
      rcases hs2 with z | z
      · obtain ⟨its, rv, ⟨o, n, h1, h2, _, h3⟩, _⟩ := I2.list z
        exact ⟨its, rv, "list", o, n, .inl rfl, h1, h2, h3⟩
      · obtain ⟨its, rv, ⟨o, h1, h2, n, h3⟩, _⟩ := I2.tuple z
        exact ⟨its, rv, "tuple", o, n, .inr rfl, h1, h2, h3⟩
    have lens : its.length = ds.length := by rw [← rv.length, dpAllL_len dd2]
    have fits : its.toArray.size ≤ sizeLine := by rw [List.size_toArray, lens]; exact ok.len
    have un := hr.un
    refine srt_seq hT ho hcl hdt fits (PyProof.Rows.ksk_s1 _ _) (fun _ => PyProof.Rows.ksk_l1 _ _) fun g E2 kp => ?_
    rw [PyProof.Rows.ksk_t1]
    have I3 : Inv X pins σ H2 { s2 with heap := g } := I2.kept (t' := s2.toks) kp
    have laid : (g.push (seqObj "list" its.toArray 0)).get? g.objs.size = some (seqObj "list" its.toArray 0) := Heap.get?_push_size _ rfl
    have both : PySem.W.EachIs (fun v d => (∃ y, RelV y v ∧ (y, d) ∈ xs.zip ds) ∧ Reads s2.heap v d []) its ds := each_both (each_pair (P := fun y d => (y, d) ∈ xs.zip ds) (fun p hp => hp) dd2 rv) (each_flat (each_reads I2 dd2 rv) ok.flat)
    obtain ⟨⟨oc, vs, tq, hoc, hdc, hvc⟩, _, _⟩ := I2.hok c' _ hc'
    obtain ⟨mb, b1, b2⟩ := I2.mod.blt
    have b1 := b1.keeps I2.bk
    have gl := I2.mod.glob.keeps I2.bk
    have lim := I2.nolimit
    refine PySem.W.keyH_tree (b := false) (kz := ds.map key) (s := { s2 with heap := g.push (seqObj "list" its.toArray 0) }) laid (by rw [List.length_map, lens]) (by rw [lens]; exact ok.len) ok.alike ok.sort (fun d hd => ?_)
      (PySem.W.keyH_turns both fun u d ⟨_, rd⟩ hd h tk kpb => ?_) fun g2 tk out cc kpb at2 ko => ?_
    · obtain ⟨d0, hd0, rfl⟩ := List.mem_map.mp hd
      have := ok.deep d0 hd0
      show X.A.units + 1 + 1 + (key d0).depth < cLine
      omega
    · have kp2 : ∀ b o, s2.heap.get? b = some o → h.get? b = some o := fun b o e => kpb b o (Nat.ne_of_lt (Heap.lt_size (kp b o e))) (Heap.get?_push_of_some _ (kp b o e))
      exact lam_key (s := { s2 with heap := h, toks := tk }) L kb (ok.good d hd) (kp2 _ _ hf) (show X.A.depth < _ from hr.depth) ⟨c', oc, vs, tq, rfl, kp2 _ _ hoc, hdc, hvc⟩ (lim.keeps kp2) (hbind _ _ _ _ _ _) (gl.keeps kp2) ⟨mb, b1.keeps kp2, b2⟩ (PyProof.Rows.Reads.keeps kp2 rd)
    · have kp3 : ∀ b o, g.get? b = some o → g2.get? b = some o := fun b o e => kpb b o (Nat.ne_of_lt (Heap.lt_size e)) (Heap.get?_push_of_some _ e)
      have res := PySem.W.keyedOut_each key ko both
      obtain ⟨ys, r2, h2⟩ := each_out (P := fun y d => (y, d) ∈ xs.zip ds) (res.mono fun _ _ z => z.1)
      have small : ys.length ≤ sizeLine := by rw [Paired.length h2, List.length_mergeSort]; exact ok.len
      exact ⟨rfl, .ref _, _, I3.laid (t' := tk) kp3 (Nat.le_refl _) (o := .lst ys) ⟨small, out, cc, r2, at2⟩, rfl, fin H2 ys _ nw h2 (I3.hok.fresh (Nat.le_refl _))⟩
  · rw [na]; rfl
  · rw [na]; rfl
end
def tSortKey3 (P : Addr) (q : Str) (good : PyData → Prop) (key : PyData → PyData) (ta : TE3) : TE3 := fun τ S Q => ta τ S fun w S1 => ∃ ds, itemsW S1 w = some ds ∧ KeysOk good key ds ∧ S1 P = some (.tb (some q)) ∧ Q (.lst (ds.mergeSort (PySem.W.dataLe false key))) S1
section
variable {X : Cx} {Ex : WX} {a : Expr}
theorem pe3_sortKey {ta : TE3} {c P : Addr} {x : Str} {params : Arguments} {body : Expr} {scope : Scope} {p lpos kpos pos : Pos} {k : Nat} {good : PyData → Prop} {key : PyData → PyData} {q : Str} (hr : Room k X.A) (hc : X.calm = true) (hg : Gl X "sorted") (hm : X.mg "sorted" = none) (TB : GxR.TabB X.base X.mg c P) (hcode : X.env.code = .ref c) (hq : q = X.env.qual ++ "<lambda>") (L : LamP scope x) (ha : PE X a (LE X.K Ex ta))
    (kb : KeyBody X.prog X.w X.mg scope x body key good) (hdef : defaultsOf params X.env = ([], [])) (hbind : ∀ (q : Str) (cl : List (Str × Addr)) (pm cv ctv v : Value), bindArgs (PySem.W.kla_fn "<lambda>" q params body scope cl pm cv ctv) ⟨[v], []⟩ = pure [(x, v)])
    (na : starEach [a] X.env = (false, eval a X.env) :: starEach [] X.env := by rfl) : PE X (.Call (.Name "sorted" p) [a] [⟨some "key", .Lambda params body scope lpos, kpos⟩] pos) (LE X.K Ex (tSortKey3 P q good key ta)) :=
  pe_imp (pe_sortKeyV hr hc hg hm TB hcode L ha kb hdef hbind (by decide +kernel) na) fun σ H Q ⟨F, S, τ, Q3, R, Ev, h, k⟩ => ⟨F, S, τ, _, R, Ev, h, fun F1 S1 H1 w v s1 R1 r1 ⟨ds, e, ok, tb, qq⟩ => by
    subst hq
    obtain ⟨a, us, rfl, hs, da, _⟩ := items_rep R1 r1 e
    obtain ⟨_, o, ho, ps, rfl, tri, codes⟩ := R1.st P _ tb
    have sm : ∀ b o, F1.f b = some o → H1 b = some o ∧ b ≠ P := fun b o e => ⟨(R1.fz b o e).1, fun z => by
      subst z
      cases (R1.fz b o e).2.1.symm.trans tb⟩
    refine ⟨a, us, ds, ps, F1.f, rfl, hs.imp id And.left, sm, da, ok, ho, tri, fun pos cv hcv => ?_, fun H2 ys p nw hy hp => ?_⟩
    · obtain ⟨c0, e1, e2⟩ := codes _ rfl pos cv hcv
      exact ⟨c0, e1, (sm c0 _ e2).1⟩
    · obtain ⟨F2, s2, R2⟩ : ∃ F2, Sm F1 F2 ∧ Rel X.K F2 S1 H2 := by
        rcases nw with rfl | ⟨more, c', hc', tri2, among, rfl⟩
        · exact ⟨F1, Sm.refl _, R1⟩
        · have sn := sm_new (p := c') (o := LamX.CodeO c' (X.env.qual ++ "<lambda>")) (R1.freeF hc')
          have Rn := R1.newF (o := LamX.CodeO c' (X.env.qual ++ "<lambda>")) hc'
          refine ⟨_, sn, ?_⟩
          have at_ : (F1.new c' (LamX.CodeO c' (X.env.qual ++ "<lambda>"))).f c' = some (LamX.CodeO c' (X.env.qual ++ "<lambda>")) := upd_same
          have Rw := Rn.write (q := .tb (some (X.env.qual ++ "<lambda>"))) tb (o := .tbl (ps ++ more)) ⟨_, rfl, tri2, fun x hx pos cv hcv => by
            cases hx
            rcases among pos cv hcv with z | z
            · obtain ⟨c0, e1, e2⟩ := codes _ rfl pos cv z
              exact ⟨c0, e1, sn.f c0 _ e2⟩
            · exact ⟨c', z, at_⟩⟩
          rw [put_self tb] at Rw
          have ne : P ≠ c' := fun z => by rw [← z, ho] at hc'; cases hc'
          have eH : upd (upd H1 c' (LamX.CodeO c' (X.env.qual ++ "<lambda>"))) P (.tbl (ps ++ more)) = upd (upd H1 P (.tbl (ps ++ more))) c' (LamX.CodeO c' (X.env.qual ++ "<lambda>")) := funext fun b => by
            by_cases h1 : b = P
            · subst h1; rw [upd_same, upd_ne ne, upd_same]
            · by_cases h2 : b = c'
              · subst h2; rw [upd_ne h1, upd_same, upd_same]
              · rw [upd_ne h1, upd_ne h2, upd_ne h2, upd_ne h1]
          rw [eH] at Rw
          exact Rw
      have dy : DpAll X.K F2.f ys (ds.mergeSort (PySem.W.dataLe false key)) := dpAll_paired (fun v d hm => dpAll_zip (dpAll_mono s2.f da) (v, d) hm) hy
      obtain ⟨s3, R3, rw3⟩ := newLst R2 hp dy
      exact k _ _ _ _ _ (s1.trans (s2.trans s3)) R3 rw3 qq⟩
end
end H3

/-! H3A: lots and logs as data. -/
namespace H3
open PySem PySem.Spec PySem.W L2
open PyProof.Rows hiding St
/-! ### lots -/
def lt (l : List Int) : PyData := .tuple (l.map PyData.int)
theorem lay_ints (l : List Int) : PyData.canLayAll0 (l.map PyData.int) = true := canLayAll_map _ (fun _ => rfl) _
theorem lt_eqv {a b : List Int} : PyData.eqv (lt a) (lt b) = true ↔ a = b := by
  show PyData.eqvAll (a.map PyData.int) (b.map PyData.int) = true ↔ _
  rw [eqvAll_ints]
  exact decide_eq_true_iff
theorem in_ints (k : Int) : ∀ l : List Int, ((l.map PyData.int).any fun z => PyData.eqv z (.int k)) = decide (k ∈ l)
  | [] => rfl
  | x :: l => by
    rw [List.map_cons, List.any_cons, in_ints k l]
    show (decide (x = k) || decide (k ∈ l)) = _
    rw [← Bool.decide_or]
    exact decide_eq_decide.mpr (by rw [List.mem_cons]; exact or_congr eq_comm Iff.rfl)
theorem fine_lt {l : List Int} (h : ∀ k ∈ l, k.natAbs < 10 ^ 50) {n : Nat} (hn : l.length ≤ n) : Fine 1 n (lt l) := by
  refine Fine.tuple (k := 0) (w := 0) (fun x hx => ?_) ?_
  · obtain ⟨k, hk, rfl⟩ := List.mem_map.mp hx
    exact Fine.int0 (h k hk)
  · rw [List.length_map]; omega
theorem alike_ints : ∀ a b : List Int, alikeAll (a.map PyData.int) (b.map PyData.int) = true
  | [], _ => by simp [alikeAll]
  | _ :: _, [] => (by simp [alikeAll])
  | x :: a, y :: b => by simp [alikeAll, alike, alike_ints a b]
theorem alike_lt (a b : List Int) : alike (lt a) (lt b) = true := by
  show alike (.tuple _) (.tuple _) = true
  rw [alike]
  exact alike_ints a b
theorem noLst_ints : ∀ l : List Int, noLstAll (l.map PyData.int) = true
  | [] => rfl
  | x :: l => by simp [noLstAll, noLst, noLst_ints l]
theorem depth_ints : ∀ l : List Int, PyData.depthAll (l.map PyData.int) = 0
  | [] => rfl
  | x :: l => by
    show max 0 (PyData.depthAll (l.map PyData.int)) = 0
    rw [depth_ints l]; rfl
theorem depth_lt (l : List Int) : (lt l).depth = 1 := by
  show PyData.depthAll (l.map PyData.int) + 1 = 1
  rw [depth_ints]
/-! ### their orders -/
theorem lotLt (a b : List Int) : dataLt (lt a) (lt b) = decide (a < b) := by
  show dataLt (.tuple _) (.tuple _) = _
  rw [dataLt_tuple]
  exact dataLt_ints a b
def SzLt (a b : List Int) : Prop := a.length < b.length ∨ (a.length = b.length ∧ a < b)
theorem szLt (a b : List Int) : dataLt (keyLen (lt a)) (keyLen (lt b)) = true ↔ SzLt a b := by
  show dataLt (.tuple [.int ((a.map PyData.int).length : Nat), lt a]) (.tuple [.int ((b.map PyData.int).length : Nat), lt b]) = true ↔ _
  rw [dataLt_pair (by simp [alike]) (alike_lt a b), dataLt_int, lotLt, eqv_int, List.length_map, List.length_map]
  unfold SzLt
  by_cases h : a.length = b.length
  · have h2 : decide ((a.length : Int) = (b.length : Int)) = true := by simp [h]
    rw [if_pos h2]
    by_cases e : PyData.eqv (lt a) (lt b) = true
    · rw [if_pos e]
      have e := lt_eqv.mp e
      subst e
      simp [List.lt_irrefl]
    · rw [if_neg e]; simp [h]
  · have h2 : ¬ decide ((a.length : Int) = (b.length : Int)) = true := by simp; omega
    rw [if_neg h2]; simp [h]
theorem sz_antisymm {a b : List Int} (h1 : ¬ SzLt a b) (h2 : ¬ SzLt b a) : a = b := by
  unfold SzLt at h1 h2
  simp only [not_or, not_and] at h1 h2
  have e : a.length = b.length := by omega
  exact List.le_antisymm (h2.2 e.symm) (h1.2 e)
theorem szLe {a b : List Int} : PySem.W.dataLe false (fun l : List Int => keyLen (lt l)) a b = true ↔ ¬ SzLt b a := by
  show (!dataLt (keyLen (lt b)) (keyLen (lt a))) = true ↔ _
  rw [← szLt b a]
  simp
theorem sorted_pairwise {β : Type} (k : β → PyData) (l : List β) : (l.mergeSort (dataLe false k)).Pairwise fun a b => dataLe false k a b = true :=
  have t := PySem.W.sortLe_total (listOrd itemOrd) false fun b => keyToks (k b)
  List.pairwise_mergeSort (fun a b c h1 h2 => t.trans a b c h1 h2) (fun a b => Bool.or_eq_true_iff.mpr (t.total a b)) l
/-- by size: the one order -/
theorem bySz_unique {l m : List (List Int)} (p : l.Perm m) : l.mergeSort (dataLe false fun a : List Int => keyLen (lt a)) = m.mergeSort (dataLe false fun a : List Int => keyLen (lt a)) :=
  List.Perm.eq_of_pairwise (fun a b _ _ h1 h2 => sz_antisymm (szLe.mp h2) (szLe.mp h1)) (sorted_pairwise _ l) (sorted_pairwise _ m) ((List.mergeSort_perm l _).trans (p.trans (List.mergeSort_perm m _).symm))
theorem up_unique {l m : List (List Int)} (p : l.Perm m) : l.mergeSort (dataLe false lt) = m.mergeSort (dataLe false lt) := by
  refine List.Perm.eq_of_pairwise (fun a b _ _ h1 h2 => ?_) (sorted_pairwise _ l) (sorted_pairwise _ m) ((List.mergeSort_perm l _).trans (p.trans (List.mergeSort_perm m _).symm))
  have le : ∀ {a b : List Int}, dataLe false lt a b = true → a ≤ b := fun {a b} h => by
    have h : (!dataLt (lt b) (lt a)) = true := h
    rw [lotLt] at h
    exact of_decide_eq_false (by simpa using h : decide (b < a) = false)
  exact List.le_antisymm (le h1) (le h2)
theorem sort_map {β : Type} (f : β → PyData) (k : PyData → PyData) (l : List β) : (l.map f).mergeSort (dataLe false k) = (l.mergeSort (dataLe false fun b => k (f b))).map f :=
  (List.map_mergeSort (r := dataLe false fun b => k (f b)) (s := dataLe false k) (f := f) (fun _ _ _ _ => rfl)).symm
/-! ### all lots within a lot -/
def allLots (l : List Int) : List (List Int) := l.foldl (fun ss k => ss ++ ss.map (· ++ [k])) [[]]
def lotsUp (l : List Int) : List (List Int) := (allLots l).mergeSort (dataLe false lt)
def lotsSz (l : List Int) : List (List Int) := (allLots l).mergeSort (dataLe false fun a => keyLen (lt a))
theorem lotsSz_up (l : List Int) : (lotsUp l).mergeSort (dataLe false fun a => keyLen (lt a)) = lotsSz l := bySz_unique (List.mergeSort_perm _ _)
theorem foldl_lots : ∀ (l : List Int) (ss : List (List Int)), (l.foldl (fun ss k => ss ++ ss.map (· ++ [k])) ss).length = ss.length * 2 ^ l.length
  | [], ss => by simp
  | k :: l, ss => by
    rw [List.foldl_cons, foldl_lots l, List.length_append, List.length_map, List.length_cons, Nat.pow_succ, ← Nat.two_mul, Nat.mul_assoc, Nat.mul_comm 2 (ss.length * _), Nat.mul_assoc]
theorem allLots_len (l : List Int) : (allLots l).length = 2 ^ l.length := by rw [allLots, foldl_lots]; simp
theorem foldl_sub : ∀ (l : List Int) (ss : List (List Int)) (T : List Int), (∀ s ∈ ss, s.Sublist T) → ∀ s ∈ l.foldl (fun ss k => ss ++ ss.map (· ++ [k])) ss, s.Sublist (T ++ l)
  | [], ss, T, h => by simpa using h
  | k :: l, ss, T, h => fun s hs => by
    have := foldl_sub l (ss ++ ss.map (· ++ [k])) (T ++ [k]) (fun s hs => by
      rcases List.mem_append.mp hs with q | q
      · exact (h s q).trans (List.sublist_append_left T [k])
      · obtain ⟨u, hu, rfl⟩ := List.mem_map.mp q
        exact (h u hu).append (List.Sublist.refl [k])) s hs
    simpa using this
theorem allLots_sub {l s : List Int} (h : s ∈ allLots l) : s.Sublist l := by
  have := foldl_sub l [[]] [] (fun s hs => by rw [List.mem_singleton.mp hs]; exact List.Sublist.refl []) s h
  simpa using this
theorem foldl_head : ∀ (l : List Int) (r : List (List Int)), ∃ r2, l.foldl (fun ss k => ss ++ ss.map (· ++ [k])) ([] :: r) = [] :: r2
  | [], r => ⟨r, rfl⟩
  | k :: l, r => by
    rw [List.foldl_cons]
    exact foldl_head l _
theorem allLots_head (l : List Int) : ∃ r, allLots l = [] :: r := foldl_head l []
theorem lotsUp_sub {l s : List Int} (h : s ∈ lotsUp l) : s.Sublist l := allLots_sub ((List.mergeSort_perm _ _).mem_iff.mp h)
theorem lotsSz_sub {l s : List Int} (h : s ∈ lotsSz l) : s.Sublist l := allLots_sub ((List.mergeSort_perm _ _).mem_iff.mp h)
theorem lotsUp_len (l : List Int) : (lotsUp l).length = 2 ^ l.length := by rw [lotsUp, List.length_mergeSort, allLots_len]
theorem lotsSz_len (l : List Int) : (lotsSz l).length = 2 ^ l.length := by rw [lotsSz, List.length_mergeSort, allLots_len]
/-- they can be sorted -/
theorem lots_srt {ss : List (List Int)} : SrtOk ((([] : List Int) :: ss).map lt) := by
  refine ⟨fun d hd e he => ?_, .inr ⟨ss.map lt, rfl, fun d hd => ?_⟩⟩
  · obtain ⟨a, _, rfl⟩ := List.mem_map.mp hd
    obtain ⟨b, _, rfl⟩ := List.mem_map.mp he
    exact alike_lt a b
  · obtain ⟨a, _, rfl⟩ := List.mem_map.mp hd
    exact ⟨_, rfl⟩
theorem lots_keys {ss : List (List Int)} (hl : ss.length ≤ 1000000) (hs : ∀ s ∈ ss, s.length ≤ 1000) : KeysOk goodTup keyLen (ss.map lt) := by
  have e := sizeLine_eq
  refine ⟨fun d hd => ?_, fun d hd => ?_, fun d hd e he => ?_, .inl fun d hd => ?_, fun d hd => ?_, by rw [List.length_map]; omega⟩
  · obtain ⟨a, ha, rfl⟩ := List.mem_map.mp hd
    exact ⟨_, rfl, by rw [List.length_map]; have := hs a ha; omega⟩
  · obtain ⟨a, _, rfl⟩ := List.mem_map.mp hd
    show noLst (.tuple _) = true
    rw [noLst]; exact noLst_ints a
  · rw [List.map_map] at hd he
    obtain ⟨a, _, rfl⟩ := List.mem_map.mp hd
    obtain ⟨b, _, rfl⟩ := List.mem_map.mp he
    show alike (.tuple [.int _, lt a]) (.tuple [.int _, lt b]) = true
    simp [alike, alikeAll, alike_lt]
  · rw [List.map_map] at hd
    obtain ⟨a, _, rfl⟩ := List.mem_map.mp hd
    exact ⟨_, _, rfl⟩
  · obtain ⟨a, _, rfl⟩ := List.mem_map.mp hd
    show PyData.depth (.tuple [.int _, lt a]) ≤ 60
    simp [PyData.depth, PyData.depthAll, depth_lt]
/-! ### what a list of hands is as a lot -/
def Both (B l : List Int) : Prop := B.Pairwise (· < ·) ∧ ∀ k, k ∈ B ↔ k ∈ l
theorem both_is (l : List Int) : ∃ B, Both B l := by
  refine ⟨(PyProof.Rows.firstMet (fun i => l.getD i 0) l.length).mergeSort (PySem.W.dataLe false fun i : Int => PyData.int i), rises (met_nodup _ _), fun k => ?_⟩
  rw [(List.mergeSort_perm _ _).mem_iff, met_mem]
theorem asc_nodup {l : List Int} (h : l.Pairwise (· < ·)) : l.Nodup := h.imp fun h e => by omega
theorem both_unique {B C l m : List Int} (h1 : Both B l) (h2 : Both C m) (e : ∀ k, k ∈ l ↔ k ∈ m) : B = C := by
  refine List.Perm.eq_of_pairwise (le := fun a b : Int => a < b) (fun a b _ _ x y => by omega) h1.1 h2.1 ?_
  rw [List.perm_ext_iff_of_nodup (asc_nodup h1.1) (asc_nodup h2.1)]
  exact fun k => (h1.2 k).trans ((e k).trans (h2.2 k).symm)
theorem both_len {B l : List Int} (h : Both B l) : B.length ≤ l.length := (asc_nodup h.1).length_le_of_subset fun k hk => (h.2 k).mp hk
/-! ### steps -/
theorem lcGo_mapG {α : Type} {i : Nat} {te : TE3} {τ0 : S3} {S : Sto} {Q : List W → Sto → Prop} (g h : α → W) : ∀ {xs : List α} {acc : List W}, (∀ x ∈ xs, ∀ A : K3, A (h x) S → te (τ0.set i (some (g x))) S A) → Q (acc ++ xs.map h) S → lcGo (gName3 i) tYes3 te τ0 (xs.map g) acc S Q
  | [], acc, _, q => by
    rw [List.map_nil, List.append_nil] at q
    exact q
  | x :: xs, acc, he, q => ⟨fun _ => he x List.mem_cons_self _ (lcGo_mapG g h (fun y hy => he y (List.mem_cons_of_mem _ hy)) (by rw [List.append_assoc]; exact q)), fun e => (nomatch e)⟩
theorem forall_mem_nil {α : Type} {P : α → Prop} : ∀ x ∈ ([] : List α), P x := fun x h => by cases h
theorem forall_mem_cons' {α : Type} {P : α → Prop} {a : α} {l : List α} (h : P a) (t : ∀ x ∈ l, P x) : ∀ x ∈ a :: l, P x := fun x hx => by
  rcases List.mem_cons.mp hx with e | e
  · rw [e]; exact h
  · exact t x e
theorem itemsW_r {S : Sto} {a : Addr} {ds : List PyData} (h : S a = some (.lst (ds.map W.d))) : itemsW S (.r a) = some ds := by
  unfold itemsW; rw [view_lst h]
theorem rgW_at {lo : Int} {n i : Nat} {w : W} (h : (rgW lo n)[i]? = some w) : i < n ∧ w = .int (lo + (i : Nat)) := by
  have hi := (List.getElem?_eq_some_iff.mp h).1
  rw [rgW_len] at hi
  rw [rgW_get hi] at h
  exact ⟨hi, (Option.some.inj h).symm⟩
theorem ix_head {S : Sto} {w : W} {x : PyData} {ds : List PyData} (h : Tis w (x :: ds)) : ixW S 0 w = some (.d x) := by
  have e : atI ((x :: ds).map W.d) ((0 : Nat) : Int) = some (.d x) := H3.atI_nat rfl
  rcases h with rfl | rfl <;> exact e
theorem lcGo_pair {α : Type} {i j : Nat} {tt : TT3} {te : TE3} {τ0 : S3} {S : Sto} {Q : List W → Sto → Prop} (f : α → W) (x y : α → PyData) (p : α → Bool) (h : α → W) : ∀ {as : List α} {acc : List W}, (∀ a ∈ as, f a = .tup [x a, y a]) → (∀ a ∈ as, ∀ A : Bool → Sto → Prop, A (p a) S → tt ((τ0.set i (some (.d (x a)))).set j (some (.d (y a)))) S A) →
    (∀ a ∈ as, p a = true → ∀ A : K3, A (h a) S → te ((τ0.set i (some (.d (x a)))).set j (some (.d (y a)))) S A) → Q (acc ++ (as.filter p).map h) S → lcGo (gTup3 2 (gCons3 (gName3 i) (gCons3 (gName3 j) gNil3))) tt te τ0 (as.map f) acc S Q
  | [], acc, _, _, _, q => by
    have q : Q (acc ++ []) S := q
    rw [List.append_nil] at q
    exact q
  | a :: as, acc, hf, ht, he, q => by
    refine ⟨[x a, y a], hf a List.mem_cons_self, rfl, _, _, rfl, _, _, rfl, rfl, ht a List.mem_cons_self _ ⟨fun e => he a List.mem_cons_self e _ ?_, fun e => ?_⟩⟩
    · refine lcGo_pair f x y p h (fun b m => hf b (List.mem_cons_of_mem _ m)) (fun b m => ht b (List.mem_cons_of_mem _ m)) (fun b m => he b (List.mem_cons_of_mem _ m)) ?_
      rw [List.filter_cons, if_pos e, List.map_cons] at q
      rw [List.append_assoc]
      exact q
    · refine lcGo_pair f x y p h (fun b m => hf b (List.mem_cons_of_mem _ m)) (fun b m => ht b (List.mem_cons_of_mem _ m)) (fun b m => he b (List.mem_cons_of_mem _ m)) ?_
      rw [List.filter_cons, if_neg (by rw [e]; exact Bool.false_ne_true)] at q
      exact q
theorem ix_fst {S : Sto} {x y : PyData} : ixW S 0 (.tup [x, y]) = some (.d x) := ix_head (.inr rfl)
theorem ix_snd {S : Sto} {x y : PyData} : ixW S 1 (.tup [x, y]) = some (.d y) := by
  show atI [W.d x, W.d y] ((1 : Nat) : Int) = _
  exact H3.atI_nat rfl
theorem ix_0 {S : Sto} {x : PyData} {r : List PyData} : ixW S 0 (.tup (x :: r)) = some (.d x) := ix_head (.inr rfl)
theorem ix_1 {S : Sto} {x y : PyData} {r : List PyData} : ixW S 1 (.tup (x :: y :: r)) = some (.d y) := by
  show atI (W.d x :: W.d y :: r.map W.d) ((1 : Nat) : Int) = _
  exact H3.atI_nat rfl
theorem ix_2 {S : Sto} {x y z : PyData} {r : List PyData} : ixW S 2 (.tup (x :: y :: z :: r)) = some (.d z) := by
  show atI (W.d x :: W.d y :: W.d z :: r.map W.d) ((2 : Nat) : Int) = _
  exact H3.atI_nat rfl
theorem len_tp {S : Sto} {ds : List PyData} : lenW S (.tup ds) = some ds.length := by
  show some (List.length (ds.map W.d)) = _
  rw [List.length_map]
theorem if_no {c : TT3} {t u : TS3} {D : Ends3} {τ : S3} {S : Sto} (h : ∀ Q : Bool → Sto → Prop, Q false S → c τ S Q) (k : u D τ S) : tIf3 c t u D τ S := h _ ⟨fun z => (nomatch z), fun _ => k⟩
theorem if_seq {c : TT3} {t u : TS3} {D : Ends3} {τ : S3} {S : Sto} (h : ∀ Q : Bool → Sto → Prop, Q false S → c τ S Q) (k : u D τ S) : tSeq3 (tIf3 c t tNext3) u D τ S := h _ ⟨fun z => (nomatch z), fun _ => k⟩
theorem sort_ints (L : List Int) : (L.map PyData.int).mergeSort (PySem.W.dataLe false id) = (L.mergeSort (PySem.W.dataLe false fun i : Int => PyData.int i)).map PyData.int :=
  (List.map_mergeSort (r := PySem.W.dataLe false fun i : Int => PyData.int i) (s := PySem.W.dataLe false id) (f := PyData.int) (fun _ _ _ _ => rfl)).symm
theorem ok_ints (L : List Int) : SrtOk (L.map PyData.int) := ⟨.of fun _ _ => by simp [PySem.W.alike], .inl (.others fun _ => ⟨fun z => (nomatch z), fun _ z => (nomatch z)⟩)⟩
theorem dep_ints (L : List Int) : ∀ d ∈ L.map PyData.int, d.depth ≤ 60 := fun d hd => by
  obtain ⟨i, _, rfl⟩ := List.mem_map.mp hd
  simp [PyData.depth]
/-- a comprehension by an invariant -/
theorem lcGo_run {g : TG3} {tt : TT3} {te : TE3} {τ0 : S3} {ws : List W} {S : Sto} {Q : List W → Sto → Prop} (P : Nat → List W → Sto → Prop) (h0 : P 0 [] S)
    (hs : ∀ i w acc S (K : List W → Sto → Prop), ws[i]? = some w → P i acc S → (∀ acc2 S2, P (i + 1) acc2 S2 → K acc2 S2) → g w τ0 S fun τ2 S2 => tt τ2 S2 fun b S3 => (b = true → te τ2 S3 fun y S4 => K (acc ++ [y]) S4) ∧ (b = false → K acc S3))
    (hd : ∀ acc S, P ws.length acc S → Q acc S) : lcGo g tt te τ0 ws [] S Q := by
  have aux : ∀ (us : List W) (k : Nat) (acc : List W) (S : Sto), (∀ j, us[j]? = ws[k + j]?) → k + us.length = ws.length → P k acc S → lcGo g tt te τ0 us acc S Q := fun us => by
    induction us with
    | nil =>
      intro k acc S _ hl p
      have e : k = ws.length := by simpa using hl
      rw [e] at p
      exact hd acc S p
    | cons w us ih =>
      intro k acc S hj hl p
      refine hs k w acc S _ ?_ p fun acc2 S2 p2 => ih (k + 1) acc2 S2 (fun j => ?_) (by rw [List.length_cons] at hl; omega) p2
      · have z := hj 0
        rw [List.getElem?_cons_zero] at z
        exact z.symm
      · have z := hj (j + 1)
        rw [List.getElem?_cons_succ] at z
        rw [z]; congr 1; omega
  exact aux ws 0 [] S (fun j => by rw [Nat.zero_add]) (by simp) h0
/-! ### logs -/
abbrev Ent := Int × Str
def en (e : Ent) : PyData := .tuple [.int e.1, .str e.2]
def lg (L : List Ent) : PyData := .tuple (L.map en)
structure LgOk (L : List Ent) : Prop where
  few : L.length ≤ 1000
  ok : ∀ e ∈ L, e.1.natAbs < 10 ^ 50 ∧ Fine 0 8 (.str e.2)
theorem LgOk.filter {L : List Ent} (h : LgOk L) (p : Ent → Bool) : LgOk (L.filter p) := ⟨Nat.le_trans (List.length_filter_le _ _) h.few, fun e he => h.ok e (List.mem_filter.mp he).1⟩
theorem LgOk.fine {L : List Ent} (h : LgOk L) : Fine 2 19000 (lg L) := by
  refine Fine.tuple (k := 1) (w := 18) (fun x hx => ?_) (by rw [List.length_map]; have := h.few; omega)
  obtain ⟨e, he, rfl⟩ := List.mem_map.mp hx
  obtain ⟨h1, h2⟩ := h.ok e he
  refine Fine.tuple (k := 0) (w := 8) (fun y hy => ?_) (show (8 + 1) * 2 ≤ 18 by decide)
  rcases (by simpa using hy : y = .int e.1 ∨ y = .str e.2) with z | z <;> rw [z]
  · exact (Fine.int0 h1).mono
  · exact h2
theorem Fine.rep {k w : Nat} {x : PyData} (h : Fine k w x) (hk : k ≤ 64 := by decide) (hw : w ≤ 200000 := by decide) : x.showable = true ∧ x.hasDict = false ∧ x.depth ≤ 64 ∧ x.shown.length ≤ sizeLine :=
  ⟨h.sho, PyData.hasDict_of_canLay x h.lay, Nat.le_trans h.dep hk, h.len hw⟩
structure LotOk (T : List Int) : Prop where
  up : T.Pairwise (· < ·)
  few : T.length ≤ 1000
  ok : ∀ k ∈ T, k.natAbs < 10 ^ 50
theorem LotOk.fine {T : List Int} (h : LotOk T) : Fine 1 1000 (lt T) := fine_lt h.ok h.few
theorem or_no {b : Bool} {P R : Prop} (h : b = false) (r : R) : (b = true → P) ∧ (b = false → R) := ⟨fun c => absurd (h.symm.trans c) Bool.false_ne_true, fun _ => r⟩
theorem no_str (x : Str) : (!decide (x = x)) = false := by simp
theorem self_eqv {d : PyData} {k w : Nat} (h : Fine k w d) : (!PyData.eqv d d) = false := by rw [PySem.SeqAt.eqv_refl d h.lay]; rfl
end H3

/-! H3B: instances of own classes: made, their fields read and set. -/
namespace H3
open PySem PySem.Spec L2
open PyProof.Rows hiding St
section
variable {K : PySem.W.Frag} {F : Fz} {S : Sto} {H : Hp}
theorem RepFs.look {fs : List (Str × W)} {gs : List (Str × V)} (r : RepFs K F fs gs) {f : Str} {w : W} (h : fs.lookup f = some w) : ∃ v, gs.lookup f = some v ∧ RepW K F w v := by
  induction r with
  | nil => cases h
  | @cons p q _ _ a t ih =>
    obtain ⟨x, w0⟩ := p
    obtain ⟨y, v0⟩ := q
    obtain ⟨e, r0⟩ := a
    have e : x = y := e
    subst e
    rw [List.lookup_cons] at h ⊢
    cases q : f == x with
    | true => rw [q] at h; cases h; exact ⟨v0, rfl, r0⟩
    | false => rw [q] at h; exact ih h
theorem RepFs.len {fs : List (Str × W)} {gs : List (Str × V)} (r : RepFs K F fs gs) : fs.length = gs.length := Paired.length r
/-- a field is set -/
def putW (f : Str) (w : W) : List (Str × W) → List (Str × W)
  | [] => [(f, w)]
  | p :: fs => if p.1 = f then (f, w) :: fs else p :: putW f w fs
theorem RepFs.put {fs : List (Str × W)} {gs : List (Str × V)} (r : RepFs K F fs gs) {f : Str} {w : W} {v : V} (h : RepW K F w v) : RepFs K F (putW f w fs) (putF f v gs) := by
  induction r with
  | nil => exact .cons ⟨rfl, h⟩ .nil
  | @cons p q _ _ a t ih =>
    obtain ⟨x, w0⟩ := p
    obtain ⟨y, v0⟩ := q
    obtain ⟨e, r0⟩ := a
    have e : x = y := e
    subst e
    unfold putW putF
    by_cases hx : x = f
    · rw [if_pos hx, if_pos hx]; exact .cons ⟨hx.symm, h⟩ t
    · rw [if_neg hx, if_neg hx]; exact .cons ⟨rfl, r0⟩ ih
/-- an object that nothing here speaks of -/
theorem Rel.apart (R : Rel K F S H) {p : Addr} {o : HO} (h : H p = none) : Rel K F S (upd H p o) := by
  refine ⟨fun a u e => ?_, fun a u e => ?_, fun a u e => ?_⟩
  · obtain ⟨h1, h2, h3⟩ := R.fz a u e
    exact ⟨by rw [upd_ne (ne_of_none h1 h)]; exact h1, h2, h3⟩
  · obtain ⟨g, v, hv, r⟩ := R.st a u e
    exact ⟨g, v, by rw [upd_ne (ne_of_none hv h)]; exact hv, r⟩
  · have h1 := R.hd a u e
    rw [upd_ne (ne_of_none h1 h)]; exact h1
end
/-! ### e.f -/
def tFld3 (C : Addr) (f : Str) (te : TE3) : TE3 := fun τ S Q => te τ S fun w S1 => ∃ a fs v, w = .r a ∧ S1 a = some (.ins C fs) ∧ fs.lookup f = some v ∧ Q v S1
def sFld3 (C : Addr) (f : Str) (to tv : TE3) : TS3 := fun D τ S => tv τ S fun y S1 => to τ S1 fun x S2 => ∃ a fs, x = .r a ∧ S2 a = some (.ins C fs) ∧ fs.length < 1000 ∧ D.nx τ (put S2 a (.ins C (putW f y fs)))
section
variable {X : Cx} {Ex : WX} {e o value : Expr} {te to tv : TE3} {C : Addr} {f : Str} {pos pos' : Pos}
theorem pe3_fld (c : Cls X.K C) (n : NoAttr X.K C f) (he : PE X e (LE X.K Ex te)) (hb : attributeBase e f X.env (eval e X.env) = eval e X.env := by rfl) : PE X (.Attribute e f pos) (LE X.K Ex (tFld3 C f te)) :=
  pe_imp (pe_fld he hb) fun σ H Q ⟨F, S, τ, Q3, R, Ev, h, k⟩ => ⟨F, S, τ, _, R, Ev, h, fun F1 S1 H1 w v s1 R1 r1 ⟨a, fs, y, ew, hs, hl, q⟩ => by
    subst ew
    obtain ⟨g, _, ho, dx, gs, rfl, r⟩ := R1.st a _ hs
    obtain ⟨u, hu, ru⟩ := r.look hl
    exact ⟨a, C, dx, gs, u, r1, ho, c, n, hu, k F1 S1 H1 y u s1 R1 ru q⟩⟩
theorem ps3_fld (c : Cls X.K C) (n : NoAttr X.K C f) (ho : PE X o (LE X.K Ex to)) (hv : PE X value (LE X.K Ex tv)) (hs : swapsWith value (some (.Attribute o f pos')) pos.line X.env = pure false := by rfl) : PS X (.Assign [.Attribute o f pos'] value pos) (LS X.K Ex (sFld3 C f to tv)) :=
  ps_imp (ps_fld ho hv hs) fun D σ H ⟨F, S, τ, D3, R, Ev, h, k⟩ => ⟨F, S, τ, _, R, Ev, h, fun F1 S1 H1 y v s1 R1 r1 h1 => ⟨F1, S1, τ, _, R1, Ev.mono s1, h1, fun F2 S2 H2 x u s2 R2 r2 ⟨a, fs, ex, hs, hl, q⟩ => by
    subst ex
    obtain ⟨g, _, ho, dx, gs, rfl, r⟩ := R2.st a _ hs
    refine ⟨a, C, dx, gs, r2, ho, c, n, by rw [← r.len]; exact hl, ?_⟩
    have R3 := R2.write (q := .ins C (putW f y fs)) hs (o := .ins C dx (putF f v gs)) ⟨dx, _, rfl, r.put (RepW.mono s2 r1)⟩
    exact k.nx F2 _ _ τ σ (s1.trans s2) R3 ((Ev.mono s1).mono s2) q⟩⟩
end
/-! ### C(..) -/
theorem guards_make {A : Around} {C : Addr} {us : List Value} {kw : List (Str × Value)} (h : A.guards = some []) : (A.under (.builtin "type.__call__" ⟨.ref C :: us, kw⟩)).guards = some [] := by
  first | exact h | simpa [Around.under, Code.weight, Code.isCreation, Code.isGuard, Code.isCaller, Code.frames, Code.isFrame, guardIds] using h
section
variable {X : Cx} {Ex : WX} {k : Nat} {f C : Addr} {fd : FuncData} {ps : List Str} {x : Str} {p pos : Pos} {e : Expr} {es : List Expr}
theorem pe_makeGs {sp : Sp} {t : TA} {E : St → XK} (M : Mk X.K C f) (F : FnG X.prog X.w X.K X.mg X.base (L2.CX X.prog X.w) k f fd ps sp) (gd : X.A.guards = some []) (hr : Room (k + 1) X.A) (hg : Gl X x) (hm : X.mg x = some (.ref C)) (hb : Binds X.K fd ps [])
    (hx : ∀ σ, PassesAt (L2.CX X.prog X.w) X σ (E σ)) (ha : PA X (e :: es) t) (hdb : (x == ("__debug__" : Str)) = false := by decide) (he : starEach (e :: es) X.env = (false, eval e X.env) :: starEach es X.env := by rfl) (hpl : (backTo pos (starEach es X.env)).any (·.1) = false := by rfl) :
    PE X (.Call (.Name x p) (e :: es) [] pos) (fun σ H Q => t σ H fun vs H1 => ∀ y dx, H1 y = none → H1 dx = none → dx ≠ y → sp (.ref y :: vs) (upd (upd H1 dx (.own y)) y (.ins C dx [])) (fun v H2 => v = .non ∧ Q (.ref y) H2) (E σ)) := by
  constructor
  intro pins s σ H Q I h
  apply wpAny_Call_Name_kw
  apply ld_glob I hg hm _ hdb
  apply PySem.W.callWith_K (h₀ := X.base) I.ok.mod.kin M.kp _ he hpl
  refine thn (ha.run pos pins s σ H _ I h) (fun us s1 ⟨vs, H1, I1, r, q⟩ => ⟨I1.kIn, ?_⟩)
  have hq := q (s1.heap.objs.size + 1) s1.heap.objs.size (I1.hok.fresh (Nat.le_succ _)) (I1.hok.fresh (Nat.le_refl _)) (Nat.ne_of_lt (Nat.lt_succ_self _))
  have I2 := Inv.made (C := C) I1
  have r2 : Vals (V.ref (s1.heap.objs.size + 1) :: vs) (Value.ref (s1.heap.objs.size + 1) :: us) := .cons rfl r
  have hl : (Value.ref (s1.heap.objs.size + 1) :: us).length = ps.length := r2.length ▸ F.len _ _ _ _ hq
  have hb' := hb { s1 with heap := (s1.heap.push PySem.W.emptyDict).push (PySem.W.instObj C s1.heap.objs.size) } (Value.ref (s1.heap.objs.size + 1) :: us) I2.kIn (by simpa using hl)
  rw [List.append_nil] at hb'
  refine wpAny_call (make_map (f := f) I1.kIn M.makes M.init (beq_iff_eq.mp M.fn) (codeAny_mono (F.run _ X.stack _ _ ⟨Value.ref (s1.heap.objs.size + 1) :: us, []⟩ _ _ _ _ (guards_make gd) (hr.make C us []) (I2.env0.make C us []) hb' r2 hq) fun o s' ho => ?_))
  cases o with
  | error e => exact hx σ pins _ _ e s' I2 ho
  | ok fl =>
    cases fl with
    | ret u =>
      obtain ⟨v, G, I3, rv, ev, q3⟩ := I2.after ho
      subst ev
      exact ⟨rv, ⟨V.ref (s1.heap.objs.size + 1), G, I3, rfl, q3⟩⟩
    | next => exact ho.elim
    | brk => exact ho.elim
    | cont => exact ho.elim
variable {sp : Sp3} {t : TA3}
def tMk3 (C : Addr) (sp : Sp3) (t : TA3) : TE3 := fun τ S Q => t τ S fun ws S1 => ∀ y, S1 y = none → sp (.r y :: ws) (put S1 y (.ins C [])) (fun w S2 => w = .non ∧ Q (.r y) S2) fun C fs S2 => τ.ex C fs τ.sl S2
theorem pe3_make (M : Mk X.K C f) (F : FnG X.prog X.w X.K X.mg X.base (L2.CX X.prog X.w) k f fd ps (LSp X.K sp)) (gd : X.A.guards = some []) (hr : Room (k + 1) X.A) (tk : Takes X Ex) (hg : Gl X x) (hm : X.mg x = some (.ref C)) (hb : Binds X.K fd ps [])
    (ha : PA X (e :: es) (LA X.K Ex t)) (hdb : (x == ("__debug__" : Str)) = false := by decide) (he : starEach (e :: es) X.env = (false, eval e X.env) :: starEach es X.env := by rfl) (hpl : (backTo pos (starEach es X.env)).any (·.1) = false := by rfl) :
    PE X (.Call (.Name x p) (e :: es) [] pos) (LE X.K Ex (tMk3 C sp t)) :=
  pe_imp (pe_makeGs M F gd hr hg hm hb (fun σ => passAt tk σ) ha hdb he hpl) fun σ H Q ⟨F, S, τ, Q3, R, Ev, h, k⟩ =>
    ⟨F, S, τ, _, R, Ev, h, fun F1 S1 H1 ws vs s1 R1 r1 h1 y dx hy hd ne => by
      have hy2 : upd H1 dx (.own y) y = none := by rw [upd_ne ne.symm]; exact hy
      refine ⟨F1, put S1 y (.ins C []), .r y :: ws, _, _, (R1.apart hd).newS hy2 ⟨dx, [], rfl, .nil⟩, .cons rfl r1, h1 y (R1.freeS hy), fun F2 S2 H2 w v s2 R2 r2 ⟨ew, q⟩ => ?_, kx_of Ev s1⟩
      subst ew
      exact ⟨by cases r2; rfl, k F2 S2 H2 (.r y) (.ref y) (s1.trans s2) R2 rfl q⟩⟩
end
/-! ### words for the printed texts -/
/-- a statement of a class -/
def inCls (s : Stmt) (j : Nat) : Stmt := match s with
  | .ClassDef _ _ _ b _ _ _ _ _ _ _ => b.getD j (.Pass ⟨0, 0, 0, 0⟩)
  | _ => .Pass ⟨0, 0, 0, 0⟩
/-- tables first, then classes -/
def mix (n : Nat) (t c : Nat → Addr) (i : Nat) : Addr := if i < n then t i else c (i - n)
theorem mix_lt {n i : Nat} {t c : Nat → Addr} (h : i < n) : mix n t c i = t i := if_pos h
theorem FnG.any {P : Program} {w : World} {K : PySem.W.Frag} {mg : Str → Option Value} {base : Heap} {CX : CXT} {k : Nat} {f : Addr} {fd : FuncData} {ps : List Str} {sp sp2 : Sp3} (F : FnG P w K mg base CX k f fd ps (LSp K sp)) (h : ∀ ws S Q E, sp2 ws S Q E → sp ws S Q E) : FnG P w K mg base CX k f fd ps (LSp K sp2) :=
  have up : ∀ vs H Q E, LSp K sp2 vs H Q E → LSp K sp vs H Q E := fun vs H Q E ⟨F, S, ws, Q3, E3, R, r, q, k1, k2⟩ => ⟨F, S, ws, Q3, E3, R, r, h _ _ _ _ q, k1, k2⟩
  ⟨fun vs H Q E q => F.len vs H Q E (up _ _ _ _ q), fun A outer s H args us vs Q E hg hr e0 hb hv q => F.run A outer s H args us vs Q E hg hr e0 hb hv (up _ _ _ _ q)⟩
end H3

/-! H3C: dicts made of pairs, read. -/
namespace H3
open PySem PySem.Spec L2
open PyProof.Rows hiding St
/-! ### dict(pairs) -/
section
variable {X : Cx} {pins : List (Addr × Obj)} {H : Hp} {σ : L2.St} {s : Shared}
theorem pairs_heap (I : Inv X pins σ H s) : ∀ {ps : List Addr} {kvs : List (Key × V)}, Paired (fun p kv => SqT X.K H p [kV kv.1, kv.2]) ps kvs →
    ∃ (prs : List (Key × Value)) (us : List (Value × Value)), KV kvs prs ∧ prs.length = ps.length ∧ us.length = ps.length ∧ ∀ (j : Nat) (u : Value × Value), us[j]? = some u → ∃ (b : Addr) (q : Key × Value), ps[j]? = some b ∧ prs[j]? = some q ∧ q.2 = u.2 ∧ s.heap.IsTuple b #[u.1, u.2] ∧ (mixKind X.prog X.w).is q.1 u.1 = true
  | _, _, .nil => ⟨[], [], .nil, rfl, rfl, fun j q e => by simp at e⟩
  | _, _, .cons (b := kv) (a := p) h t => by
    obtain ⟨prs, us, r, l1, l2, hp⟩ := pairs_heap I t
    obtain ⟨its, rv, it, _⟩ := I.tuple h
    obtain ⟨u, y, ei, ru, ry⟩ := (vals2 rv)
    subst ei
    refine ⟨(kv.1, y) :: prs, (u, y) :: us, .cons ⟨rfl, ry⟩ r, congrArg Nat.succ l1, congrArg Nat.succ l2, fun j q e => ?_⟩
    cases j with
    | zero => cases e; exact ⟨p, (kv.1, y), rfl, rfl, rfl, it, kV_is (P := X.prog) (w := X.w) ru⟩
    | succ j => exact hp j q e
theorem call_dictT (calm : X.calm = true) : CallR X (.type "dict") (fun xs H Q => ∃ (a : Addr) (ps : List Addr) (kvs : List (Key × V)), xs = [.ref a] ∧ TupN X.K H a (ps.map V.ref) ∧ Paired (fun p kv => SqT X.K H p [kV kv.1, kv.2]) ps kvs ∧ ps.length ≤ sizeLine ∧
    ∀ p, H p = none → Q (V.ref p) (upd H p (.dK (mergeK [] kvs)))) := by
  rintro pins s σ H xs us Q I r ⟨a, ps, kvs, ex, ht, hp, hz, q⟩
  subst ex
  rw [Vals.ref1 r]
  obtain ⟨its, rv, ⟨o, ho, hc, n, hd⟩, _⟩ := I.tuple ht.sqt
  have ei := refs_at rv
  subst ei
  obtain ⟨_, ob, hob, hdict⟩ := ht.ty I
  cases ho.symm.trans hob
  obtain ⟨prs, us, rel, l1, l2, hpr⟩ := pairs_heap I hp
  have P := PySem.PairArg.tuple (prog := X.prog) (w := X.w) a (ps.map Value.ref).toArray (fun j => ps.getD j 0) us
  refine PySem.call_dict_pairs (knd := mixKind X.prog X.w) (kvs := prs) P (I.ok.hd calm) ⟨⟨o, n, ho, hc, hdict, hd⟩, by simp [l2], fun j k v e => ?_⟩ ⟨by rw [l1, l2], fun i key v e => ?_⟩ (by rw [l2]; exact hz) fun h' tk hd' k => ?_
  · obtain ⟨b, q, e1, e2, e3, e4, e5⟩ := hpr j (k, v) e
    have eb : ps.getD j 0 = b := by rw [List.getD_eq_getElem?_getD, e1]; rfl
    refine ⟨?_, ?_⟩
    · simp only [eb]
      simp [e1]
    · simp only [eb]
      exact .inl e4
  · obtain ⟨b, q, e1, e2, e3, e4, e5⟩ := hpr i (key, v) e
    exact ⟨q.1, e2.trans (congrArg some (Prod.ext rfl e3)), e5⟩
  · have nosys : (s.heap.objs.size == sysModules) = false := beq_eq_false_iff_ne.mpr (Nat.ne_of_gt I.big)
    have few : (mergeK [] kvs).length ≤ sizeLine := by
      apply Nat.le_trans (length_mergeK kvs [])
      rw [List.length_nil, Nat.zero_add, rel.length, l1]
      exact hz
    have kp : ∀ b o, s.heap.get? b = some o → h'.get? b = some o := fun b o e => k b o (by simp) e
    exact ⟨.ref s.heap.objs.size, upd H s.heap.objs.size (.dK (mergeK [] kvs)), I.laid (t' := tk) kp (Nat.le_refl _) (show ObjOk X.prog X.w _ _ _ (.dK (mergeK [] kvs)) from ⟨few, nosys, merged [] prs, KV.merge rel .nil, hd'⟩), rfl, q _ (I.hok.fresh (Nat.le_refl _))⟩
end
theorem mergeK_nodup : ∀ (more acc : List (Key × V)), ((acc ++ more).map (·.1)).Nodup → mergeK acc more = acc ++ more
  | [], acc, _ => by rw [List.append_nil]; rfl
  | kv :: more, acc, nd => by
    have no : ∀ p ∈ acc, p.1 ≠ kv.1 := fun p hp e => by
      rw [List.map_append, List.map_cons] at nd
      have := (List.nodup_append.mp nd).2.2 p.1 (List.mem_map_of_mem hp) kv.1 List.mem_cons_self
      exact this e
    have e1 : putK acc kv.1 kv.2 = acc ++ [kv] := by
      unfold putK
      rw [if_neg]
      intro z
      obtain ⟨p, hp, hk⟩ := List.any_eq_true.mp z
      exact no p hp (of_decide_eq_true hk)
    show mergeK (putK acc kv.1 kv.2) more = _
    rw [e1, mergeK_nodup more (acc ++ [kv]) (by rw [List.append_assoc]; exact nd), List.append_assoc]
    rfl
def keyD : Key → PyData
  | .inl i => .int i
  | .inr x => .str x
def pairD (q : Key × PyData) : PyData := .tuple [keyD q.1, q.2]
theorem key_rep {K : PySem.W.Frag} {F : Hp} {v : V} : ∀ {k : Key}, Dp K F v (keyD k) → v = kV k
  | .inl i, .int _ => rfl
  | .inr x, .str _ => rfl
theorem pairs_rep {K : PySem.W.Frag} {F : Fz} {S : Sto} {H : Hp} (R : Rel K F S H) : ∀ {us : List V} {kvs : List (Key × PyData)}, DpAll K F.f us (kvs.map pairD) →
    ∃ (ps : List Addr) (gs : List (Key × V)), us = ps.map V.ref ∧ Paired (fun p kv => SqT K H p [kV kv.1, kv.2]) ps gs ∧ RepKs K F (kvs.map fun q => (q.1, W.d q.2)) gs ∧ gs.map (·.1) = kvs.map (·.1)
  | [], [], _ => ⟨[], [], rfl, .nil, .nil, rfl⟩
  | _ :: _, [], h => by cases h
  | [], _ :: _, h => by cases h
  | u :: us, kv :: kvs, h => by
    cases h with
    | cons h t =>
      obtain ⟨ps, gs, rfl, pp, rr, ek⟩ := pairs_rep R t
      cases (show Dp K F.f u (.tuple [keyD kv.1, kv.2]) from h) with
      | tup hs ha =>
        cases ha with
        | cons hk ha =>
          cases ha with
          | cons hv ha =>
            cases ha
            have ek2 := key_rep hk
            subst ek2
            exact ⟨_ :: ps, (kv.1, _) :: gs, rfl, .cons (sqt_mono R.same hs.sqt) pp, .cons ⟨rfl, hv⟩ rr, by rw [List.map_cons, List.map_cons, ek]⟩
def gDictP : RC3 := fun ws S Q => ∃ kvs : List (Key × PyData), ws = [.tup (kvs.map pairD)] ∧ (kvs.map (·.1)).Nodup ∧ kvs.length ≤ 1000000 ∧ ∀ p, S p = none → Q (.r p) (put S p (.dk (kvs.map fun q => (q.1, W.d q.2))))
theorem l_dictP {K : PySem.W.Frag} : CallL K gDictP (fun xs H Q => ∃ (a : Addr) (ps : List Addr) (kvs : List (Key × V)), xs = [.ref a] ∧ TupN K H a (ps.map V.ref) ∧ Paired (fun p kv => SqT K H p [kV kv.1, kv.2]) ps kvs ∧ ps.length ≤ sizeLine ∧
    ∀ p, H p = none → Q (.ref p) (upd H p (.dK (mergeK [] kvs)))) := fun F S H ws vs Q3 Q R r ⟨kvs, e, nd, hz, q⟩ k => by
  subst e
  obtain ⟨v, rfl, rv⟩ := ws1 r
  cases (show Dp K F.f v (.tuple (kvs.map pairD)) from rv) with
  | tup hs ha =>
    obtain ⟨ps, gs, rfl, pp, rr, ek⟩ := pairs_rep R ha
    have lp : ps.length = kvs.length := by rw [Paired.length pp, ← List.length_map (f := (·.1)) (as := gs), ek, List.length_map]
    refine ⟨_, ps, gs, rfl, hs.mono R.same, pp, by rw [lp, sizeLine_eq]; omega, fun p hp => ?_⟩
    rw [mergeK_nodup gs [] (by rw [List.nil_append, ek]; exact nd), List.nil_append]
    exact k F _ _ (.r p) (.ref p) (Sm.refl F) (R.newS (q := .dk (kvs.map fun q => (q.1, W.d q.2))) hp ⟨gs, rfl, rr⟩) rfl (q p (R.freeS hp))
/-! ### d[k] -/
def keyW : W → Option Key
  | .d (.int i) => some (.inl i)
  | .d (.str x) => some (.inr x)
  | _ => none
def valW (kvs : List (Key × W)) (k : Key) : Option W := (kvs.find? fun kv => decide (kv.1 = k)).map (·.2)
theorem RepKs.val {K : PySem.W.Frag} {F : Fz} {fs : List (Key × W)} {gs : List (Key × V)} (r : RepKs K F fs gs) {k : Key} {w : W} (h : valW fs k = some w) : ∃ v, valV gs k = some v ∧ RepW K F w v := by
  induction r with
  | nil => cases h
  | @cons p q l1 l2 a t ih =>
    obtain ⟨x, w0⟩ := p
    obtain ⟨y, v0⟩ := q
    obtain ⟨e, r0⟩ := a
    have e : x = y := e
    subst e
    by_cases hx : x = k
    · have h1 : valW ((x, w0) :: l1) k = some w0 := by simp [valW, List.find?_cons, hx]
      rw [h1] at h
      cases h
      exact ⟨v0, valV_pos hx, r0⟩
    · unfold valW at h
      rw [List.find?_cons_of_neg (by simpa using hx)] at h
      obtain ⟨v, e1, e2⟩ := ih h
      exact ⟨v, (valV_neg hx).trans e1, e2⟩
theorem key_repW {K : PySem.W.Frag} {F : Fz} {w : W} {v : V} {k : Key} (r : RepW K F w v) (h : keyW w = some k) : v = kV k := by
  cases w with
  | d x => cases x <;> first | (cases h; cases (show Dp K F.f v _ from r) <;> rfl) | cases h
  | _ => cases h
/-- d[k], the key an int or a text -/
def gDk : R3 := fun w u S Q => ∃ a kvs k x, w = .r a ∧ S a = some (.dk kvs) ∧ keyW u = some k ∧ valW kvs k = some x ∧ Q x S
theorem pe3_dk {X : Cx} {Ex : WX} {a b : Expr} {ta tb : TE3} {pos : Pos} (hu : X.A.units + 1 < cLine) (ha : PE X a (LE X.K Ex ta)) (hb : PE X b (LE X.K Ex tb)) (hs : NoSl b := by intro _ _; rfl) : PE X (.Subscript a b pos) (LE X.K Ex (tOp3 gDk ta tb)) :=
  pe_imp (pe_dget hu ha hb hs) fun σ H Q ⟨F, S, τ, Q3, R, Ev, h, k⟩ => ⟨F, S, τ, _, R, Ev, h, fun F1 S1 H1 w v s1 R1 r1 h1 => ⟨F1, S1, τ, _, R1, Ev.mono s1, h1, fun F2 S2 H2 u y s2 R2 r2 ⟨p, kvs, kk, x, ew, hs, hk, hv, q⟩ => by
    subst ew
    obtain ⟨_, o, ho, gs, rfl, rr⟩ := R2.st p _ hs
    obtain ⟨z, hz, rz⟩ := rr.val hv
    have ey := key_repW r2 hk
    subst ey
    exact ⟨p, z, r1, by rw [← hz]; exact DGet.k ho, k F2 S2 H2 x z (s1.trans s2) R2 rz q⟩⟩⟩
/-! ### for c in a text -/
def signs (x : Str) : List W := x.cps.toList.map fun c => W.str ⟨#[c]⟩
theorem yl_str {K : PySem.W.Frag} {F : Fz} {x : Str} : YL K F (Its x) (signs x) := by
  have hl : (signs x).length = x.cps.size := by unfold signs; rw [List.length_map, Array.length_toList]
  refine ⟨fun i H F' S' s R hi => ?_, fun i H F' S' s R hi => ?_, fun i H F' S' y H' s R hi ⟨e, c, hc, ey⟩ => ?_⟩
  · rw [hl] at hi; exact hi
  · rw [hl] at hi; exact hi
  · subst e ey
    refine ⟨F', .str ⟨#[c]⟩, ?_, Sm.refl _, R, mk_str⟩
    unfold signs
    rw [List.getElem?_map, Array.getElem?_toList, hc]; rfl
def tStrI3 (te : TE3) : TI3 := fun τ S Q => te τ S fun w S1 => ∃ x, w = .str x ∧ Q (signs x) S1
theorem pi3_str {X : Cx} {Ex : WX} {tg e : Expr} {te : TE3} (he : PE X e (LE X.K Ex te)) : PI X tg e (LI X.K Ex (tStrI3 te)) :=
  pi_imp (pi_str he) fun σ H R ⟨F, S, τ, Q3, Rl, Ev, h, k⟩ => ⟨F, S, τ, _, Rl, Ev, h, fun F1 S1 H1 w v s1 R1 r1 ⟨x, e, q⟩ => by
    subst e
    exact ⟨x, rep_str r1, k F1 S1 H1 _ _ s1 R1 yl_str q⟩⟩
theorem eraseIdx_map' {α β : Type} (f : α → β) : ∀ (l : List α) (i : Nat), (l.map f).eraseIdx i = (l.eraseIdx i).map f
  | [], _ => by simp
  | _ :: _, 0 => rfl
  | x :: l, i + 1 => by
    show f x :: (l.map f).eraseIdx i = f x :: (l.eraseIdx i).map f
    rw [eraseIdx_map' f l i]
theorem perm_erase {α : Type} : ∀ {l : List α} {i : Nat} (h : i < l.length), (l[i] :: l.eraseIdx i).Perm l
  | x :: l, 0, _ => .refl _
  | x :: l, i + 1, h => ((List.Perm.swap _ _ _).trans (List.Perm.cons x (perm_erase (l := l) (i := i) (by simpa using h))))
theorem un1 {k : Nat} {A : Around} (hr : Room k A) : A.units + 1 < cLine := by have := un70 hr; omega
/-- a text's slice -/
theorem l_slS {K : PySem.W.Frag} : SlL K gSlS rSlS := fun F S H w x lo hi Q3 Q R rw ⟨z, hd, hl, q⟩ k => by
  subst hd
  exact ⟨z, rep_str rw, hl, k F S H _ _ (Sm.refl F) R mk_str q⟩
end H3

/-! H3D: own error classes, two deep over Exception, whose __init__ says super().__init__(x) and keeps x. -/
namespace H3
open PySem PySem.Spec L2
open PyProof.Rows hiding St
def exBm : List Value := [.type "Exception", .type "BaseException", .type "object"]
def keBm : List Value := [.type "KeyError", .type "LookupError", .type "Exception", .type "BaseException", .type "object"]
/-- what is asked of the class that is built in, over which the text's own one stands: L is the class whose __new__ makes it -/
structure EBF (B nw ni : String) (bm : List Value) : Prop where
  maker : ∃ (L nl : String) (bl : List Value), ExcBaseFacts L nw nl bl ∧ bm.contains (.type L) = true
  noA : bm.contains (.type "AttributeError") = false
  noN : bm.contains (.type "NameError") = false
  iKind : builtinKind ni = some .slot
  iRow : Manifest.signature? ni = some ⟨.positional, "*", B, .self, [⟨"args", .varPos, false⟩]⟩
  star : (B != "*") = true
  plain : plainId ni = true
  iEnt : entryFor table ni = some Builtin.«BaseException.__init__»
  so : StoreFacts B bm "object.__setattr__" "object"
  kx : PySem.W.KxsFacts B ni
theorem ebf_Exception : EBF "Exception" "Exception.__new__" "Exception.__init__" exBm where
  maker := ⟨_, _, _, PySem.F.excBase_Exception, by decide +kernel⟩
  noA := PySem.F.excBase_Exception.noAttr
  noN := PySem.F.excBase_Exception.noName
  iKind := PySem.F.excBase_Exception.initKind
  iRow := PySem.F.excBase_Exception.initRow
  star := PySem.F.excBase_Exception.noStar
  plain := PySem.F.excBase_Exception.init.plain
  iEnt := PySem.F.excBase_Exception.initEntry
  so := PySem.F.store_Exception
  kx := PySem.W.kxs_Exception
section
open PySem.F
theorem ebf_KeyError : EBF "KeyError" "LookupError.__new__" "KeyError.__init__" keBm where
  maker := ⟨_, _, _, PySem.F.excBase_LookupError, by decide +kernel⟩
  noA := by decide +kernel
  noN := by decide +kernel
  iKind := by kernel_rfl
  iRow := by kernel_rfl
  star := by decide +kernel
  plain := by decide +kernel
  iEnt := entryFor_alias (id' := "BaseException.__init__") (by rw [fastTable_eq_tree]; kernel_rfl) (by first | rfl | decide +kernel) (by decide +kernel) (by rw [fastTable_eq_tree]; kernel_rfl)
  so :=
  { mro := by kernel_rfl
    slot := .of (owner := "object") (n := "__setattr__") (by rw [typeLookup_type, builtinLookup_eq_fast]; kernel_rfl) (by decide +kernel)
      (by decide +kernel) (by decide +kernel) (by first | exact .inl (by decide +kernel) | exact .inr (by decide +kernel))
      (by rw [isSubtype_type]; kernel_rfl)
    entry := PySem.F.store_Exception.entry
    kind := by decide +kernel
    split := by decide +kernel
    hasOwner := by decide +kernel
    args := fun a b c => PySem.F.store_Exception.args a b c
    passes := fun self => by kernel_rfl }
  kx := ⟨by show builtinType _ = _; rw [builtinType_eq_fast]; kernel_rfl, by kernel_rfl⟩
end
/-- a class of errors at C in a heap, made by nw, a __new__ of L's: what it answers where it is called -/
structure EbC (M : Model) (h : Heap) (C : Addr) (nw L : String) : Prop where
  isL : PySem.W.Looks M h (isSubtype (.ref C) (.type L)) true
  noA : PySem.W.Looks M h (isSubtype (.ref C) (.type "AttributeError")) false
  noN : PySem.W.Looks M h (isSubtype (.ref C) (.type "NameError")) false
  same : PySem.W.Looks M h (isSubtype (.ref C) (.ref C)) true
  by_ : PySem.W.Looks M h (Bind.madeBy (.ref C)) (some nw)
  over : PySem.W.Looks M h (Bind.staticBase (.ref C)) (.ref C)
  here : PySem.W.Looks M h (Bind.madeHere "BaseException.__new__" (.ref C)) ()
theorem EbC.keeps {M : Model} {h h' : Heap} {C : Addr} {nw L : String} (c : EbC M h C nw L) (k : ∀ b o, h.get? b = some o → h'.get? b = some o) : EbC M h' C nw L :=
  ⟨c.isL.keeps k, c.noA.keeps k, c.noN.keeps k, c.same.keeps k, c.by_.keeps k, c.over.keeps k, c.here.keeps k⟩
section
variable {prog : Program} {w : World} {A : Around} {E : Value → Shared → Prop} {R : Result → Shared → Prop} {h : Heap}
variable {g : Array GenState} {d : Drawn} {t : Nat} {os : OsState}
variable {nm q : Str} {C N : Addr} {bs bm bmB : List Value} {hdct : Bool} {sn : List Str} {sub : List Value} {ab : Bool} {col : Option Bool} {dd : Option Addr} {k0 k1 k2 k3 k5 : Option Value} {B nw ni : String}
theorem ebc_of (eb : EBF B nw ni bmB) (hT : ∀ X : String, bm.contains (.type X) = bmB.contains (.type X)) (hC : h.get? C = some (excClassObj nm q C N bs bm hdct sn sub ab col dd k0 k1 k2 k3 k5 nw)) :
    ∃ (L nl : String) (bl : List Value), ExcBaseFacts L nw nl bl ∧ EbC (model prog w) h C nw L := by
  obtain ⟨L, nl, bl, F, hL⟩ := eb.maker
  have sub_ : ∀ {base : Value} {b : Bool}, (Value.ref C :: bm).contains base = b → PySem.W.Looks (model prog w) h (isSubtype (.ref C) base) b := fun e A Q E s k q => by
    obtain ⟨hp, g, d, t, os⟩ := s
    exact wpAny_isSubtype_exc (k _ _ hC) (e ▸ q)
  refine ⟨L, nl, bl, F, sub_ ?_, sub_ ?_, sub_ ?_, sub_ (by simp), fun A Q E ⟨_, _, _, _, _⟩ k q => wpAny_madeBy_exc (k _ _ hC) q, fun A Q E ⟨_, _, _, _, _⟩ k q => wpAny_staticBase_exc (k _ _ hC) q, fun A Q E ⟨_, _, _, _, _⟩ k q => wpAny_madeHere_exc F.canon (k _ _ hC) q⟩
  · rw [List.contains_cons, hT, hL, Bool.or_true]
  · rw [List.contains_cons, hT, eb.noA]; rfl
  · rw [List.contains_cons, hT, eb.noN]; rfl
/-- such a class, called: made by the __new__ of a class further up, then its own __init__ -/
theorem eb_newChk {Q : Unit → Shared → Prop} {L nl : String} {bl : List Value} (F : ExcBaseFacts L nw nl bl) (c : EbC (model prog w) h C nw L) {rest : List Value} (hC : h.get? C = some (excClassObj nm q C N bs bm hdct sn sub ab col dd k0 k1 k2 k3 k5 nw)) (hq : Q () ⟨h, g, d, t, os⟩) : wpAny (model prog w) A (checkBuiltinCall nw ⟨.ref C :: rest, []⟩) Q E ⟨h, g, d, t, os⟩ := by
  have star := F.noStar
  simp only [checkBuiltinCall, F.newSplit, F.newKind, F.newRow]
  repeat (first | refine c.isL.here ?_ | refine c.over.here ?_ | refine c.by_.here ?_ | refine wpAny_loadPart_at hC ?_ | simp only [bne_self_eq_false, Bool.false_eq_true, if_false] | wp_step)
  exact hq
theorem eb_new {L nl : String} {bl : List Value} (F : ExcBaseFacts L nw nl bl) (c : EbC (model prog w) h C nw L) {rest : List Value} (hC : h.get? C = some (excClassObj nm q C N bs bm hdct sn sub ab col dd k0 k1 k2 k3 k5 nw)) (few : rest.length ≤ sizeLine)
    (hq : R (.ok (.ret (.ref (h.objs.size + 1)))) ⟨(h.push (PySem.W.kdv_tup rest)).push (PySem.HandSPX.excO C h.objs.size), g, d, t, os⟩) : codeAny (model prog w) A (.builtin nw ⟨.ref C :: rest, []⟩) R ⟨h, g, d, t, os⟩ := by
  have ends := F.ends
  have who := F.owner
  refine codeAny_builtinAt F.entry (PySem.wpAt_bind (?_ : PySem.wpAt _ _ _ (stack >>= _) _ _ _))
  refine PySem.wpAt_bind (PySem.wpAt_stack fun p below => PySem.wpAt_of_wpAny ?_)
  wp_walk
  refine PySem.wpAt_of_wpAny (?_ : wpAny _ _ _ _ _ _)
  rw [who]
  repeat (first | with_reducible refine c.isL.here ?_ | with_reducible refine c.noA.here ?_ | with_reducible refine c.noN.here ?_ | with_reducible refine c.here.here ?_ | with_reducible refine wpAny_loadPart_at hC ?_ | wp_step)
  exact (show R _ _ by rw [Heap.size_push]; exact hq)
theorem eb_type (eb : EBF B nw ni bmB) (hT : ∀ X : String, bm.contains (.type X) = bmB.contains (.type X)) {rest : List Value} {f : Addr} {Q : Fin → Shared → Prop} (hC : h.get? C = some (excClassObj nm q C N bs bm hdct sn sub ab col dd k0 k1 k2 k3 k5 nw))
    (hi : PySem.W.Looks (model prog w) h (typeLookup (.ref C) "__init__") (some (.ref f))) (hb : ∀ self, PySem.W.Looks (model prog w) h (bindSpecial (.ref f) self) (.ref f, [self])) (few : rest.length ≤ sizeLine)
    (hq : codeAny (model prog w) A (.call (.ref f) ⟨.ref (h.objs.size + 1) :: rest, []⟩)
      (fun r s' => match r with | .ok (.ret v) => v = .none ∧ Q (.done (.ret (.ref (h.objs.size + 1)))) s' | .ok _ => False | .error e => E e s') ⟨(h.push (PySem.W.kdv_tup rest)).push (PySem.HandSPX.excO C h.objs.size), g, d, t, os⟩) : wpAny (model prog w) A (Builtin.«type.__call__» ⟨.ref C :: rest, []⟩) Q E ⟨h, g, d, t, os⟩ := by
  obtain ⟨L, nl, bl, F, c⟩ := ebc_of (prog := prog) (w := w) eb hT hC
  repeat (first | with_reducible refine c.by_.here ?_ | with_reducible refine wpAny_loadPart_at hC ?_ | wp_step)
  refine codeAny_call_builtin_code (Code.quiet_builtin _ F.quiet) (eb_newChk F c hC (eb_new F c hC few (?_ : wpAny _ _ _ _ _ _)))
  have k : ∀ b o, h.get? b = some o → ((h.push (PySem.W.kdv_tup rest)).push (PySem.HandSPX.excO C h.objs.size)).get? b = some o := fun b o e => Heap.get?_push_of_some _ (Heap.get?_push_of_some _ e)
  have at_ : ((h.push (PySem.W.kdv_tup rest)).push (PySem.HandSPX.excO C h.objs.size)).get? (h.objs.size + 1) = some (PySem.HandSPX.excO C h.objs.size) := by heap_get
  have c2 := (c.keeps k).same
  unfold isInstance
  repeat (first | with_reducible refine wpAny_loadPart_at at_ ?_ | with_reducible refine c2.here ?_ | wp_step)
  have bound := (hb (.ref (h.objs.size + 1))).keeps k
  refine (hi.keeps k).here ?_
  refine wpAny_holding (wpAny_bind (bound.here ?_))
  refine wpAny_bind (wpAny_call (codeAny_mono hq fun r s1 back => ?_))
  rcases r with e | (v | _ | _ | _)
  · exact back
  all_goals first | exact back.elim | skip
  obtain ⟨rfl, back⟩ := back
  first | exact wpAny_pure (wpAny_pure back) | (wp_walk; exact back)
theorem eb_call (eb : EBF B nw ni bmB) (hT : ∀ X : String, bm.contains (.type X) = bmB.contains (.type X)) {rest : List Value} {f : Addr} (hC : h.get? C = some (excClassObj nm q C N bs bm hdct sn sub ab col dd k0 k1 k2 k3 k5 nw))
    (hi : PySem.W.Looks (model prog w) h (typeLookup (.ref C) "__init__") (some (.ref f))) (hb : ∀ self, PySem.W.Looks (model prog w) h (bindSpecial (.ref f) self) (.ref f, [self])) (few : rest.length ≤ sizeLine)
    (hq : codeAny (model prog w) (A.under (.builtin "type.__call__" ⟨.ref C :: rest, []⟩)) (.call (.ref f) ⟨.ref (h.objs.size + 1) :: rest, []⟩) (PySem.W.InitBack (h.objs.size + 1) R) ⟨(h.push (PySem.W.kdv_tup rest)).push (PySem.HandSPX.excO C h.objs.size), g, d, t, os⟩) : codeAny (model prog w) A (.call (.ref C) ⟨rest, []⟩) R ⟨h, g, d, t, os⟩ := by
  have f1 := tc_lookup
  have f2 := tc_bind (.ref C)
  have f3 : (⟨h, g, d, t, os⟩ : Shared).TypeIs (.ref C) "type" := ⟨_, hC, rfl⟩
  refine codeAny_of_tree (?_ : wpAny _ _ (callAny (.ref C) _) _ _ _)
  repeat (any_goals (first | with_reducible refine wpAny_loadPart_at hC ?_ | assumption | wp_step))
  refine ⟨rfl, codeAny_call_builtin_at (Code.quiet_builtin _ (by decide +kernel)) entry_typeCall (wpAny_check_type_call_sub hC (eb_type eb hT hC hi hb few (codeAny_mono hq fun r s' z => ?_)))⟩
  rcases r with e | (v | _ | _ | _)
  all_goals exact z
/-- the wrapper's own look at what it is handed -/
theorem eb_wrapChk {Q : Unit → Shared → Prop} {e : Addr} {oe : Obj} {rest : List Value} (eb : EBF B nw ni bmB) (hC : h.get? C = some (excClassObj nm q C N bs bm hdct sn sub ab col dd k0 k1 k2 k3 k5 nw)) (he : h.get? e = some oe) (hcls : oe.cls = .ref C) (hq : Q () ⟨h, g, d, t, os⟩) :
    wpAny (model prog w) A (checkBoundCall ni ⟨.ref e :: rest, []⟩) Q E ⟨h, g, d, t, os⟩ := by
  have star := eb.star
  have chk : ∀ (a b : String) (n : Nat), Bind.check ⟨.positional, "*", B, .self, [⟨"args", .varPos, false⟩]⟩ a b n [] = pure () := fun a b n => check_star_args _ _ _ _ _ _
  simp only [checkBoundCall, eb.iKind, eb.iRow]
  repeat (first | with_reducible refine wpAny_loadPart_at hC ?_ | (with_reducible refine wpAny_loadPart_at he ?_; rw [hcls]) | wp_step)
  refine wpAny_onRaise (?_ : wpAny _ _ (Bind.check _ _ _ _ []) _ _ _)
  rw [chk]
  exact wpAny_pure hq
end
/-- a def that knows its class -/
abbrev FnN : Type := Option (Str × Str × Arguments × FuncBody × Scope × Addr × List Str × Addr)
def fnN (K : PySem.W.Frag) (f : Addr) : FnN := match K.lookup f with
  | some ⟨_, _, .func g, _⟩ => some (g.name, g.qualname, g.params, g.body, g.scope, g.globals, g.closure.map (·.1), g.builtins)
  | _ => none
def isNone : Value → Bool
  | .none => true
  | _ => false
def errFn (K : PySem.W.Frag) (C f : Addr) (q file : Str) : Bool := match K.lookup f with
  | some ⟨_, _, .func g, _⟩ => (match g.closure, g.code with
    | [(_, cc)], .ref cda => isNone g.defaults && ((match K.lookup cc with
      | some ⟨_, _, .cell (some (.ref D)), _⟩ => decide (D = C)
      | _ => false) && (PySem.W.codeIn K (.ref cda) q && (match K.lookup cda with
      | some ⟨_, _, .fields ws, _⟩ => (match (ws[2]? : Option Value) with
        | some (.str fl _) => decide (fl = file)
        | _ => false)
      | _ => false)))
    | _, _ => false)
  | _ => false
/-- what a class of errors must say -/
structure ErrC (K : PySem.W.Frag) (C f : Addr) (fld q file : Str) (st : Stmt) : Prop where
  base : ∃ (B nw ni : String) (bm : List Value), EBF B nw ni bm ∧ PySem.W.excInitIn K C bm nw = true ∧ PySem.W.excOver K C bm = true ∧ PySem.W.subIn K (.ref C) (.type B) = some true ∧ PySem.W.ks_superIn K C C "__init__" = some (some (.builtin ni))
  keep : PySem.W.keepIn K (.ref C) = true
  finds : PySem.W.findIn K (.ref C) "__init__" = some (some (.ref f))
  fnT : PySem.W.typeIn K (.ref f) = some (.type "function")
  exB : PySem.W.subIn K (.ref C) (.type "BaseException") = some true
  ty : PySem.W.typeIn K (.ref C) = some (.type "type")
  sa : PySem.W.findIn K (.ref C) "__setattr__" = some (some (.builtin "object.__setattr__")) /- the plain one -/
  tak : PySem.W.takerIn K C fld = some none
  own : PySem.W.findIn K (.ref C) fld = some none
  self : PySem.W.mroIn K C (.ref C) = some true
  opq : PySem.W.nsIn K cStatics "thirdparty.any" = some none
  xf : XfC K C
  isx : ExcC K C
  fn : ∃ oc od osl kV doc pm an cda ct cc ccl cdd ws ccs tf cl cld csl, K.lookup f = some ⟨oc, od, .func (PySem.W.ksFn "__init__" q (defArgs st) (defBody st) (defScope st) .none kV doc pm an (.ref cda) ct cc), osl⟩ ∧ PySem.W.codeIn K (.ref cda) q = true ∧
    K.lookup cda = some ⟨ccl, cdd, .fields ws, ccs⟩ ∧ ws[2]? = some (.str file tf) ∧ K.lookup cc = some ⟨cl, cld, .cell (some (.ref C)), csl⟩
/-- the text of such an __init__ -/
structure SupSt (st : Stmt) (me x fld : Str) : Prop where
  body : ∃ p0 p1 p2 p3 p4 p5 p6 p7 p8 p9, defBody st = [.Expr (.Call (.Attribute (.Call (.Name "super" p0) [] [] p1) "__init__" p2) [.Name x p3] [] p4) p5, .Assign [.Attribute (.Name me p6) fld p7] (.Name x p8) p9] ∧
    ∀ (q : Str) (L f cda cc : Addr), interactive (PySem.W.ksEnv q (defScope st) L f (.ref cda) cc) = false ∧ swapsWith (.Call (.Attribute (.Call (.Name "super" p0) [] [] p1) "__init__" p2) [.Name x p3] [] p4) none p5.line (PySem.W.ksEnv q (defScope st) L f (.ref cda) cc) = pure false ∧
      swapsWith (.Name x p8) (some (.Attribute (.Name me p6) fld p7)) p9.line (PySem.W.ksEnv q (defScope st) L f (.ref cda) cc) = pure false ∧ ∃ pl : Sem Bool, eval (.Call (.Attribute (.Call (.Name "super" p0) [] [] p1) "__init__" p2) [.Name x p3] [] p4) (PySem.W.ksEnv q (defScope st) L f (.ref cda) cc) = (do
        let ov ← attributeBase (.Call (.Name "super" p0) [] [] p1) "__init__" (PySem.W.ksEnv q (defScope st) L f (.ref cda) cc) (eval (.Call (.Name "super" p0) [] [] p1) (PySem.W.ksEnv q (defScope st) L f (.ref cda) cc))
        standAt p2.atName
        let (g, first) ← holding [ov] (getMethod ov "__init__" pl)
        callWith p4 g first (backTo p4 (starEach [.Name x p3] (PySem.W.ksEnv q (defScope st) L f (.ref cda) cc))) [])
  kind : (defScope st).kind = .function
  co : (defScope st).isCoroutine = false
  gen : (defScope st).isGenerator = false
  sup : (defScope st).names.lookup ("super" : Str) = some .globalImplicit
  cls : (defScope st).names.lookup ("__class__" : Str) = some .free
  lme : (defScope st).names.lookup me = some .local
  lx : (defScope st).names.lookup x = some .local
  nocell : ∀ y ∈ (defScope st).names, y.2 ≠ .cell
  head : ((defArgs st).posonlyargs ++ (defArgs st).args).head?.map (·.arg) = some me
  ne : me ≠ x
  nd : (x == ("__debug__" : Str)) = false ∧ (me == ("__debug__" : Str)) = false
  binds : ∀ (s : Shared) (q : Str) (kV doc pm : Value) (an : Option Addr) (cdv ct : Value) (cc : Addr) (u v : Value), BindsTo s (PySem.W.ksFn "__init__" q (defArgs st) (defBody st) (defScope st) .none kV doc pm an cdv ct cc) ⟨[u, v], []⟩ [(me, u), (x, v)]
/-- an error with its dict -/
abbrev errO (C t dx : Addr) : Obj := { cls := .ref C, dict := some dx, data := .fields #[.ref t, .none, .none, .none, .bool false, .none] }
section
variable {prog : Program} {w : World} {K : PySem.W.Frag} {C f a t0 : Addr} {fld q file me x : Str} {st : Stmt} {A : Around} {h : Heap} {g : Array GenState} {d : Drawn} {t : Nat} {os : OsState} {R : Result → Shared → Prop} {u : Value}
theorem err_inst {h : Heap} {t0 : Addr} (e : h.get? a = some (PySem.HandSPX.excO C t0)) : PySem.W.InstAt h a (PySem.HandSPX.excO C t0) C none := ⟨e, rfl, rfl, trivial⟩
/-- self.fld = v -/
theorem err_store {E : Value → Shared → Prop} {Q : Unit → Shared → Prop} (c : ErrC K C f fld q file st) (X : K.In h) (ha : h.get? a = some (PySem.HandSPX.excO C t0))
    (hq : ∀ h' dx t', (∀ b o, b ≠ a → h.get? b = some o → h'.get? b = some o) → h.objs.size ≤ dx → dx ≠ a → h'.get? a = some (errO C t0 dx) → h'.Ns1 dx (fun y => if y = fld then some u else none) → Q () ⟨h', g, d, t', os⟩) :
    wpAny (model prog w) A (setAttr (.ref a) fld u) Q E ⟨h, g, d, t, os⟩ := by
  obtain ⟨_, _, _, bm2, eb, hini, hover, _⟩ := c.base
  obtain ⟨nm, N, qn, bs, bm, hdct, sn, sub, ab, col, dd, k0, k1, k2, k3, k5, hC, _⟩ := PySem.W.excInit_of X hini
  have far : a ≠ h.objs.size := Nat.ne_of_lt (Heap.lt_size ha)
  have hd := c.xf.hdC
  obtain ⟨cd, hcd, hdd⟩ : ∃ cd, PySem.W.clsIn K C = some cd ∧ cd.hasDict = true := by
    unfold PySem.W.hasDictIn at hd
    cases z : PySem.W.clsIn K C with
    | none => rw [z] at hd; cases hd
    | some cd => rw [z] at hd; exact ⟨cd, rfl, hd⟩
  refine PySem.W.set_plain X (err_inst ha) c.sa (PySem.W.osa_openX eb.so X (err_inst ha) hover c.tak fun b => ?_)
  have cls : PySem.W.Looks (model prog w) h (classData C) cd := PySem.W.looks_clsIn X hcd
  obtain ⟨m1, m2, m3, m4, m5, m6, m7, m8, m9, m10, m11⟩ := cd
  have hdd : m6 = true := hdd
  subst hdd
  show wpAny _ _ (Builtin.ObjectAttr.storeInOwnDict (.ref a) (.ref C) (.str fld t) fld u b) _ _ _
  unfold Builtin.ObjectAttr.storeInOwnDict Builtin.ObjectAttr.ownDictForStores
  repeat (first | with_reducible refine PySem.HandSPX.store_in_new ?_ ?_ | with_reducible refine cls.at ?_ | with_reducible refine wpAny_loadPart_at ha ?_ | wp_step)
  · exact ⟨_, #[], _, by rw [Heap.get?_update_ne _ _ _ _ far.symm]; exact Heap.get?_push_at rfl rfl, rfl, fun e he => absurd he (by simp), fun _ => rfl⟩
  · intro h2 tk2 n2 same
    have up : (h.push { cls := .type "dict", data := .dict #[] }).get? a = some (PySem.HandSPX.excO C t0) := Heap.get?_push_of_some _ ha
    refine hq h2 h.objs.size tk2 (fun e o ne z => ?_) (Nat.le_refl _) far.symm ?_ n2
    · rw [same.2 e (Nat.ne_of_lt (Heap.lt_size z)), Heap.get?_update_ne _ _ _ _ ne]
      exact Heap.get?_push_of_some _ z
    · rw [same.2 a far]
      exact Heap.get?_update_self _ up rfl
/-- the wrapper of Exception.__init__, called -/
theorem err_wrap {E : Value → Shared → Prop} {Q : Value → Shared → Prop} {m : Addr} {B nw ni : String} {bm2 : List Value} (eb : EBF B nw ni bm2) (hini : PySem.W.excInitIn K C bm2 nw = true) (X : K.In h) (ha : h.get? a = some (PySem.HandSPX.excO C t0)) (hm : h.get? m = some (PySem.W.kxs_mw ni a))
    (hq : ∀ h' t1, (∀ b o, b ≠ a → h.get? b = some o → h'.get? b = some o) → h'.get? a = some (PySem.HandSPX.excO C t1) → Q .none ⟨h', g, d, t, os⟩) : wpAny (model prog w) A (call (.ref m) [u]) Q E ⟨h, g, d, t, os⟩ := by
  obtain ⟨nm, N, qn, bs, bm, hdct, sn, sub, ab, col, dd, k0, k1, k2, k3, k5, hC, _⟩ := PySem.W.excInit_of X hini
  have one : [u].length ≤ sizeLine := by rw [sizeLine_eq]; exact (by decide : 1 ≤ 16777216)
  refine wpAny_call (codeAny_of_tree (?_ : wpAny _ A.in1 (callAny (.ref m) ⟨[u], []⟩) _ _ _))
  unfold callAny
  refine wpAny_bind (wpAny_load (o := PySem.W.kxs_mw ni a) hm ?_)
  refine PySem.W.KFB.if_so (by simp [PySem.W.kxs_mw]) (wpAny_bind (eb_wrapChk eb hC ha rfl (wpAny_bind (wpAny_pure (wpAny_pure ⟨plainId_quiet eb.plain _, codeAny_builtin eb.iEnt ?_⟩)))))
  exact PySem.W.exc_init_tree (cls := .ref C) (t0 := t0) (dv := none) (c2 := .none) (c3 := .none) (b4 := .bool false) ha one fun h2 k e _ => hq h2 _ k e
/-- the own __init__ runs -/
theorem err_init (c : ErrC K C f fld q file st) (sh : SupSt st me x fld) (hfile : ((prog.main.file : Str) == file) = true) (htop : (prog.main.scope.names.lookup ("super" : Str)).isSome = false) {mg mb : Str → Option Value} (X : K.In h) (G : h.Ns mainGlobals mg) (gs : mg "super" = none) (B : h.Ns builtinsNs mb) (bs : mb "super" = some (.type "super"))
    (lim : h.NoLimit) (dp : A.depth < recursionLimit) (ha : h.get? a = some (PySem.HandSPX.excO C t0)) (na : K.lookup a = none)
    (hq : ∀ h' dx t1 t', (∀ b o, b ≠ a → h.get? b = some o → h'.get? b = some o) → h.objs.size ≤ dx → dx ≠ a → h'.get? a = some (errO C t1 dx) → h'.Ns1 dx (fun y => if y = fld then some u else none) → R (.ok (.ret .none)) ⟨h', g, d, t', os⟩) :
    codeAny (model prog w) A (.call (.ref f) ⟨[.ref a, u], []⟩) R ⟨h, g, d, t, os⟩ := by
  obtain ⟨oc, od, osl, kV, doc, pm, an, cda, ct, cc, ccl, cdd, ws, ccs, tf, cl, cld, csl, lk, hcd, hda, hws, hcell⟩ := c.fn
  obtain ⟨_, _, ni, _, eb, hini, _, hsubB, hsup⟩ := c.base
  obtain ⟨nm, N, qn, bs', bm, hdct, sn, sub, ab, col, dd, k0, k1, k2, k3, k5, hC, _⟩ := PySem.W.excInit_of X hini
  obtain ⟨p0, p1, p2, p3, p4, p5, p6, p7, p8, p9, body, texts⟩ := sh.body
  obtain ⟨inter, sw1, sw2, pl, he⟩ := texts q h.objs.size f cda cc
  obtain ⟨ar, har, ear⟩ := Option.map_eq_some_iff.mp sh.head
  have aC : a ≠ C := fun e => by
    rw [e, hC] at ha
    cases ha
  have lme : ([(me, Value.ref a), (x, u)].reverse.lookup me) = some (.ref a) := by
    have : (me == x) = false := by simpa using sh.ne
    simp [List.lookup, this]
  have lx : ([(me, Value.ref a), (x, u)].reverse.lookup x) = some u := by simp [List.lookup]
  refine PySem.ks_codeAny_call_defAt dp (X _ _ lk) rfl lim (PySem.W.codeRec_of X hcd) rfl (sh.binds _ _ _ _ _ _ _ _ _ _ _) sh.nocell (fun y hy => ?_) (fun h0 ns0 k0' => ?_) sh.co sh.gen sh.kind
  · rcases List.mem_cons.mp hy with e | hy
    · rw [e]; exact sh.lme
    · rw [List.mem_singleton.mp hy]; exact sh.lx
  have X0 : K.In h0 := X.keeps k0'
  have a0 := k0' _ _ ha
  have C0 := k0' _ _ hC
  show PySem.wpAt (model prog w) (A.deeper (PySem.W.ksEnv q (defScope st) h.objs.size f (.ref cda) cc)) (.func (defBody st) (PySem.W.ksEnv q (defScope st) h.objs.size f (.ref cda) cc)) (execs (defBody st) (PySem.W.ksEnv q (defScope st) h.objs.size f (.ref cda) cc)) _ _ _
  have here : ∀ {h2 : Heap}, (∀ b o, b ≠ a → h0.get? b = some o → h2.get? b = some o) → h2.Ns h.objs.size (fun y => [(me, Value.ref a), (x, u)].reverse.lookup y) := fun k => by
    obtain ⟨oL, es, ep, hL, r⟩ := ns0
    exact ⟨oL, es, ep, k _ _ (Nat.ne_of_gt (Heap.lt_size ha)) hL, r⟩
  rw [body]
  refine ks_wpAt_execs_cons (ks_wpAt_Expr_any (ks_wpAt_MethodCall (pl := pl) ?_ he) inter sw1)
  refine ks_wpAt_super_base (env := PySem.W.ksEnv q (defScope st) h.objs.size f (.ref cda) cc) sh.sup sh.cls (by decide) rfl (X0 _ _ lk) rfl har rfl (X0 _ _ hda) rfl hws hfile htop ?_
  refine PySem.W.ks_loadName_global sh.kind sh.sup (PySem.Calls.loadGlobal_builtin (G.keeps k0') gs (B.keeps k0') bs ⟨rfl, ?_⟩)
  refine wpAny_loadName_free sh.kind sh.cls rfl ⟨_, X0 _ _ hcell, rfl⟩ (wpAny_loadName_local sh.kind (by rw [ear]; exact sh.lme) ns0 (by rw [ear]; exact lme) ?_)
  refine ks_wpAny_isType_cls C0 rfl ⟨rfl, ks_wpAny_call_super C0 rfl a0 rfl (fun z e => nomatch e) (PySem.W.looks_mroIn X0 c.self) fun h1 so1 k1 => ?_⟩
  have X1 : K.In h1 := X0.keeps k1
  have a1 := k1 _ _ a0
  obtain ⟨cd, hcd2⟩ : ∃ cd, PySem.W.clsIn K C = some cd := by
    cases z : PySem.W.clsIn K C with
    | none =>
      have := hsup
      unfold PySem.W.ks_superIn at this
      rw [z] at this
      cases this
    | some cd => exact ⟨cd, rfl⟩
  have sup := hsup
  unfold PySem.W.ks_superIn at sup
  rw [hcd2] at sup
  refine PySem.W.kxs_getMethod eb.kx so1 (PySem.W.looks_opaque X1 c.opq) ((PySem.W.looks_clsIn X1 hcd2).andThen .now) rfl X1 sup ((err_inst a1).type.andThen (PySem.W.looks_subIn X1 hsubB)) aC (by decide) ?_
  have hm : (h1.push (PySem.W.kxs_mw ni a)).get? h1.objs.size = some (PySem.W.kxs_mw ni a) := Heap.get?_push_at rfl rfl
  have k2 : ∀ b o, h1.get? b = some o → (h1.push (PySem.W.kxs_mw ni a)).get? b = some o := fun b o e => Heap.get?_push_of_some _ e
  have ns2 := here fun b o _ e => k2 _ _ (k1 _ _ e)
  generalize h1.push (PySem.W.kxs_mw ni a) = h2 at hm k2 ns2
  refine PySem.W.kxs_callWith (i := ni) (x := a) rfl (PySem.Calls.evalArgs_plain (PySem.Calls.spliced_cons ?_))
  refine wpAny_Name ?_ sh.nd.1
  refine wpAny_loadName_local (env := PySem.W.ksEnv q (defScope st) h.objs.size f (.ref cda) cc) sh.kind sh.lx ns2 lx ?_
  refine PySem.Calls.spliced_nil ⟨hm, ?_⟩
  refine err_wrap eb hini ((X1.keeps k2)) (k2 _ _ a1) hm fun h3 t3 k3 a3 => ?_
  have kk : ∀ b o, b ≠ a → h0.get? b = some o → h3.get? b = some o := fun b o ne e => k3 _ _ ne (k2 _ _ (k1 _ _ e))
  have ns3 := here kk
  have X3 : K.In h3 := fun b o e => kk b o (fun z => ?_) (X0 b o e)
  · refine ks_wpAt_execs_cons (wpAt_of_wpAny (plainObj_wpAny_Assign_Attribute (wpAny_Name (wpAny_loadName_local sh.kind sh.lx ns3 lx (wpAny_Name (wpAny_loadName_local sh.kind sh.lme ns3 lme (err_store c X3 a3 fun h4 dx t4 k4 le ne a4 n4 => ?_)) sh.nd.2)) sh.nd.1) sw2))
    exact wpAt_of_wpAny (wpAny_execs_nil (hq h4 dx t3 t4 (fun b o nb e => k4 _ _ nb (kk _ _ nb (k0' _ _ e))) (Nat.le_trans (Nat.le_of_lt ns3.lt) le) ne a4 n4))
  · rw [z, na] at e
    cases e
end
/-! ### made in a def's body -/
/-- C(e) -/
def tErr (C : Addr) (fld : Str) (ta : TA) : St → Hp → XK → Prop := fun σ H Q => ta σ H fun vs H1 => ∃ v, vs = [v] ∧ ∀ d, H1 d = none → Q (.ref C) (some d) (upd H1 d (.xd [(fld, v)]))
section
variable {X : Cx} {n fld q file me x : Str} {C f : Addr} {st : Stmt} {ta : TA} {e : Expr} {p pos : Pos} {k : Nat}
theorem pmk_err (c : ErrC X.K C f fld q file st) (sh : SupSt st me x fld) (hfile : ((X.prog.main.file : Str) == file) = true) (htop : (X.prog.main.scope.names.lookup ("super" : Str)).isSome = false) (gs : X.mg "super" = none) (hr : Room (k + 1) X.A) (hg : Gl X n) (hm : X.mg n = some (.ref C)) (ha : PA X [e] ta)
    (hdb : (n == ("__debug__" : Str)) = false := by decide) (he : starEach [e] X.env = (false, eval e X.env) :: starEach [] X.env := by rfl) (hpl : (backTo pos (starEach [] X.env)).any (·.1) = false := by rfl) : PMk X (.Call (.Name n p) [e] [] pos) (tErr C fld ta) := by
  intro pins s σ H Q I h
  refine wpAny_Call_Name_kw (ld_glob (u := .ref C) I hg hm ?_ hdb)
  refine PySem.W.callWith_K (h₀ := X.base) I.ok.mod.kin c.keep (thn (ha.run pos pins s σ H _ I h) fun us s1 ⟨vs, H1, I1, r1, v, ev, q1⟩ => ⟨I1.kIn, ?_⟩) he hpl
  subst ev
  show wpAny (model X.prog X.w) _ (call (.ref C) us) _ _ _
  obtain ⟨u, rfl, ru⟩ : ∃ u, us = [u] ∧ RelV v u := by
    cases r1 with
    | cons a b => cases b; exact ⟨_, rfl, a⟩
  obtain ⟨hp, gl, dr, tk, os⟩ := s1
  obtain ⟨_, _, _, _, eb, hini, _⟩ := c.base
  obtain ⟨nm, N, qn, bs, bm, hdct, sn, sub, ab, col, dd, k0, k1, k2, k3, k5, hC, hT⟩ := PySem.W.excInit_of I1.kIn hini
  obtain ⟨mb, blt1, blt2⟩ := I1.mod.blt
  have one : [u].length ≤ sizeLine := by rw [sizeLine_eq]; exact (by decide : 1 ≤ 16777216)
  have up : ∀ b o, hp.get? b = some o → ((hp.push (PySem.W.kdv_tup [u])).push (PySem.HandSPX.excO C hp.objs.size)).get? b = some o := fun b o e => Heap.get?_push_of_some _ (Heap.get?_push_of_some _ e)
  have at_ : ((hp.push (PySem.W.kdv_tup [u])).push (PySem.HandSPX.excO C hp.objs.size)).get? (hp.objs.size + 1) = some (PySem.HandSPX.excO C hp.objs.size) := by heap_get
  have sz : ((hp.push (PySem.W.kdv_tup [u])).push (PySem.HandSPX.excO C hp.objs.size)).objs.size = hp.objs.size + 2 := by rw [Heap.size_push, Heap.size_push]
  have off : ∀ {b : Addr} {o : Obj}, hp.get? b = some o → b ≠ hp.objs.size + 1 := fun z => Nat.ne_of_lt (Nat.lt_succ_of_lt (Heap.lt_size z))
  have na : X.K.lookup (hp.objs.size + 1) = none := by
    cases z : X.K.lookup (hp.objs.size + 1) with
    | none => rfl
    | some o => exact absurd rfl (off (I1.kIn _ _ z))
  refine wpAny_call (eb_call eb hT hC (PySem.W.looks_findIn I1.kIn c.finds) (fun y => PySem.W.bind_fn I1.kIn y c.fnT) one ?_)
  refine err_init c sh hfile htop (PySem.W.Frag.In.keeps I1.kIn up) ((I1.mod.glob.keeps I1.bk).keeps up) gs ((blt1.keeps I1.bk).keeps up) ((blt2 _ (by decide)).trans PyProof.Rows.Boot.«super») (Heap.NoLimit.keeps (Heap.NoLimit.keeps I1.mod.nolimit I1.bk) up) (hr.make C [u] []).depth at_ na fun h2 dx t1 t2 k le ne ea en => ⟨rfl, ?_⟩
  rw [sz] at le
  have dn : H1 dx = none := I1.hok.fresh (show hp.objs.size ≤ dx by omega)
  have an : H1 (hp.objs.size + 1) = none := I1.hok.fresh (show hp.objs.size ≤ hp.objs.size + 1 by omega)
  obtain ⟨G, g1, g2⟩ := restrict h2 fun b => decide (b ≠ hp.objs.size + 1)
  have into : ∀ b o, hp.get? b = some o → G.get? b = some o := fun b o e => by
    rw [g1 b (decide_eq_true (off e))]
    exact k _ _ (off e) (up _ _ e)
  have ed : G.get? dx = h2.get? dx := g1 dx (decide_eq_true ne)
  have J : Inv X pins σ (upd H1 dx (.xd [(fld, v)])) ⟨G, gl, dr, t2, os⟩ := I1.laid (t' := t2) (a := dx) (o := .xd [(fld, v)]) (h' := G) into (show hp.objs.size ≤ dx by omega) (by
    obtain ⟨o, es, ep, e1, e2⟩ := en
    refine ⟨_, ⟨o, es, ep, ed.trans e1, e2⟩, fun y => ?_⟩
    rw [show ([(fld, v)] : List (Str × V)).lookup y = if y = fld then some v else none by
      by_cases z : y = fld
      · subst z; simp [List.lookup]
      · have : (y == fld) = false := by simpa using z
        rw [if_neg z]; simp [List.lookup, this]]
    by_cases z : y = fld
    · rw [if_pos z, if_pos z]; exact ru
    · rw [if_neg z, if_neg z]; exact trivial)
  refine ⟨hp.objs.size + 1, _, _, ⟨G, gl, dr, t2, os⟩, _, .ref C, some dx, rfl, J, fun b o e => ?_, g2 _ (by simp), ea, ⟨rfl, rfl⟩, rfl, rfl, ?_, rfl, I1.bare, raises_own c.exB c.ty, q1 dx dn⟩
  · by_cases z : b = hp.objs.size + 1
    · rw [z, g2 _ (by simp)] at e; cases e
    · rw [← g1 b (decide_eq_true z)]; exact e
  · rw [upd_ne (Ne.symm ne)]; exact an
end
end H3

/-! H3E: raise C(e), try: .. except C: .., over values. -/
namespace H3
open PySem PySem.Spec L2
open PyProof.Rows hiding St
/-! ### raise C(e) -/
def tRaise3 (C : Addr) (fld : Str) (ta : TA3) : TS3 := fun _ τ S => ta τ S fun ws S1 => ∃ w, ws = [w] ∧ τ.ex C [(fld, w)] τ.sl S1
section
variable {X : Cx} {Ex : WX} {n fld q file me x : Str} {C f : Addr} {st : Stmt} {ta : TA3} {e : Expr} {p pos pos2 : Pos} {k : Nat}
theorem ps3_raise (hc : X.calm = true) (tk : Takes X Ex) (c : ErrC X.K C f fld q file st) (sh : SupSt st me x fld) (hfile : ((X.prog.main.file : Str) == file) = true) (htop : (X.prog.main.scope.names.lookup ("super" : Str)).isSome = false) (gs : X.mg "super" = none) (hr : Room (k + 1) X.A) (hg : Gl X n) (hm : X.mg n = some (.ref C)) (ha : PA X [e] (LA X.K Ex ta))
    (hdb : (n == ("__debug__" : Str)) = false := by decide) (he : starEach [e] X.env = (false, eval e X.env) :: starEach [] X.env := by rfl) (hpl : (backTo pos (starEach [] X.env)).any (·.1) = false := by rfl) : PS X (.Raise (some (.Call (.Name n p) [e] [] pos)) none pos2) (LS X.K Ex (tRaise3 C fld ta)) :=
  ps_imp (L2.ps_raise hc tk (pmk_err c sh hfile htop gs hr hg hm ha hdb he hpl)) fun D σ H ⟨F, S, τ, D3, R, Ev, h, _⟩ => ⟨F, S, τ, _, R, Ev, h, fun F1 S1 H1 ws vs s1 R1 r1 ⟨w, ew, q⟩ => by
    subst ew
    obtain ⟨v, rfl, rv⟩ := ws1 r1
    refine ⟨v, rfl, fun d hd => ?_⟩
    have s2 := sm_new (p := d) (o := HO.xd [(fld, v)]) (R1.freeF hd)
    exact Ev.ex (F1.new d (.xd [(fld, v)])) S1 _ C d [(fld, w)] [(fld, v)] τ.sl σ (s1.trans s2) (R1.newF hd) (show upd F1.f d (HO.xd [(fld, v)]) d = _ from upd_same) (.cons ⟨rfl, rv.mono s2⟩ .nil) (Ev.sl.mono (s1.trans s2)) q⟩
end
/-! ### try -/
/-- what is asked of an exception: is it the clause's -/
abbrev Cat := List (Addr × Bool)
def Ends3.out (D : Ends3) (ex : XS) : Ends3 := ⟨fun τ S => D.nx ⟨τ.sl, ex⟩ S, D.rt, fun τ S => D.bk ⟨τ.sl, ex⟩ S, fun τ S => D.ct ⟨τ.sl, ex⟩ S⟩
/-- try: tb; except the classes of l: ts -/
def tTry3 (l : Cat) (tb : TS3) (ts : Addr → List (Str × W) → TS3) : TS3 := fun D τ S => tb (D.out τ.ex) ⟨τ.sl, fun C fs sl S1 => ∃ b, l.lookup C = some b ∧ (b = true → ts C fs D ⟨sl, τ.ex⟩ S1) ∧ (b = false → τ.ex C fs sl S1)⟩ S
theorem out_kd {K : PySem.W.Frag} {F : Fz} {E W : WX} {τ : S3} {σ : St} {D3 : Ends3} {D : Ends} (Ev : EnvR K F E τ σ) (k : KD K F E D3 D) : KD K F W (D3.out τ.ex) D :=
  ⟨fun F' S' H' t z s R e q => k.nx F' S' H' ⟨t.sl, τ.ex⟩ z s R ⟨e.sl, Ev.ex.mono s⟩ q, k.rt, fun F' S' H' t z s R e q => k.bk F' S' H' ⟨t.sl, τ.ex⟩ z s R ⟨e.sl, Ev.ex.mono s⟩ q, fun F' S' H' t z s R e q => k.ct F' S' H' ⟨t.sl, τ.ex⟩ z s R ⟨e.sl, Ev.ex.mono s⟩ q⟩
/-- a suite over values: the exception is of the class at C, one of M, with the attributes fs; it lies at a, in slot i if that is told -/
def LX (K : PySem.W.Frag) (E : WX) (M : Addr → Prop) (i : Option Nat) (a : Addr) (cls : Value) (d : Option Addr) (t : Addr → List (Str × W) → TS3) : TS := fun D σ H => ∃ F S τ D3 C dd fs gs, cls = .ref C ∧ d = some dd ∧ M C ∧ (∀ j, i = some j → σ[j]? = some (some (.ref a))) ∧ Rel K F S H ∧ EnvR K F E τ σ ∧
  F.f dd = some (.xd gs) ∧ RepFs K F fs gs ∧ t C fs D3 τ S ∧ KD K F E D3 D
section
variable {X : Cx} {Ex : WX} {x : Str} {c : Value} {body suite : List Stmt} {b₀ : Stmt} {np pos pos' : Pos} {t3 : TS3} {ts : Addr → List (Str × W) → TS3} {l : Cat}
theorem try_in {M : Addr → Prop} {ts2 : Addr → Value → Option Addr → TS} (hl : ∀ C b, List.lookup C l = some b → PySem.W.exmOne X.K (.ref C) c = some b) (hM : ∀ C, l.lookup C = some true → M C) (e2 : ts2 = fun a cls d => LX X.K Ex M none a cls d ts) : ∀ D σ H, LS X.K Ex (tTry3 l t3 ts) D σ H → LS X.K (wOnly X.K c ts2 Ex D) t3 D σ H :=
  fun D σ H ⟨F, S, τ, D3, R, Ev, h, k⟩ => by
    subst e2
    refine ⟨F, S, ⟨τ.sl, fun C fs sl S1 => ∃ b, l.lookup C = some b ∧ (b = true → ts C fs D3 ⟨sl, τ.ex⟩ S1) ∧ (b = false → τ.ex C fs sl S1)⟩, D3.out τ.ex, R, ⟨Ev.sl, ?_⟩, h, out_kd Ev k⟩
    intro F' S' H' C dd fs gs sl σ' s R' e r sE ⟨b, hb, h1, h2⟩
    refine ⟨b, hl C b hb, fun z a _ => ?_, fun z => Ev.ex F' S' H' C dd fs gs sl σ' s R' e r sE (h2 z)⟩
    subst z
    exact ⟨F', S', ⟨sl, τ.ex⟩, D3, C, dd, fs, gs, rfl, rfl, hM C hb, fun j z => (nomatch z), R', ⟨sE, Ev.ex.mono s⟩, e, r, h1 rfl, k.mono s⟩
/-- try: body, except x: suite -/
theorem ps3_try {M : Addr → Prop} (hl : ∀ C b, List.lookup C l = some b → PySem.W.exmOne X.K (.ref C) c = some b) (hM : ∀ C, l.lookup C = some true → M C) (hs : X.stack = X.env :: X.outer) (hf : X.env.frame = some X.env.locals) (hc : Names X x c) (tk : Takes X Ex)
    (gd : X.A.guards = some []) {k : Nat} (hr : Room k X.A) (hb : ∀ (W : WX) (pn : List (Addr × Obj)) (xe : Value → Shared → Prop), Takes (X.tr pn xe) W → PassesOwn (model X.prog X.w) X.A X.env xe → (X.tr pn xe).A.guards = some [] → Room k (X.tr pn xe).A → PSs (X.tr pn xe) body (LS X.K W t3))
    (hsu : ∀ (a : Addr) (oe : Obj) (cls : Value) (d : Option Addr) (pn : List (Addr × Obj)), Zc cls d oe → (∃ vs, oe.data = .fields vs) → PSs (X.suite a ((a, oe) :: pn)) (b₀ :: suite) (LX X.K Ex M none a cls d ts)) :
    PS X (.Try body [.ExceptHandler (some (.Name x np)) none (b₀ :: suite) pos'] [] [] pos) (LS X.K Ex (tTry3 l t3 ts)) :=
  ps_imp (ps_try_only (tb := fun W => LS X.K W t3) (ts := fun a cls d => LX X.K Ex M none a cls d ts) hs hf hc tk (fun W pn xe a b => hb W pn xe a b gd hr) hsu) (try_in hl hM rfl)
/-- try: body, except x as n: suite; n is slot i -/
def Ends3.away (D : Ends3) (i : Nat) : Ends3 := ⟨fun τ S => D.nx (τ.set i none) S, D.rt, fun τ S => D.bk (τ.set i none) S, fun τ S => D.ct (τ.set i none) S⟩
def tTryAs3 (l : Cat) (i : Nat) (tb : TS3) (ts : Addr → List (Str × W) → TS3) : TS3 := fun D τ S => tb (D.out τ.ex) ⟨τ.sl, fun C fs sl S1 => ∃ b, l.lookup C = some b ∧ (b = true → i < sl.length ∧ ts C fs (D.away i) ⟨sl.set i none, τ.ex⟩ S1) ∧ (b = false → τ.ex C fs sl S1)⟩ S
theorem slE_over {K : PySem.W.Frag} {F : Fz} {τ : Sl} {σ : St} {i : Nat} {v : Option V} (h : SlE K F τ σ) : SlE K F (τ.set i none) (σ.set i v) := by
  refine ⟨by rw [List.length_set, List.length_set]; exact h.1, fun j u q => ?_⟩
  by_cases hj : i = j
  · subst hj
    have hi := (List.getElem?_eq_some_iff.mp q).1
    rw [List.length_set] at hi
    rw [List.getElem?_set_self hi] at q
    cases q
  · rw [List.getElem?_set_ne hj] at q ⊢
    exact h.2 j u q
theorem away_kd {K : PySem.W.Frag} {F : Fz} {E : WX} {D3 : Ends3} {D : Ends} {i : Nat} (k : KD K F E D3 D) : KD K F E (D3.away i) { nx := fun σ' H' => D.nx (σ'.set i none) H', rt := D.rt, bk := fun σ' H' => D.bk (σ'.set i none) H', ct := fun σ' H' => D.ct (σ'.set i none) H' } :=
  ⟨fun F' S' H' t z s R e q => k.nx F' S' H' _ _ s R e.unset q, k.rt, fun F' S' H' t z s R e q => k.bk F' S' H' _ _ s R e.unset q, fun F' S' H' t z s R e q => k.ct F' S' H' _ _ s R e.unset q⟩
theorem try_as_in {M : Addr → Prop} {i : Nat} {ts2 : Addr → Value → Option Addr → TS} (hl : ∀ C b, List.lookup C l = some b → PySem.W.exmOne X.K (.ref C) c = some b) (hM : ∀ C, l.lookup C = some true → M C) (e2 : ts2 = fun a cls d => LX X.K Ex M (some i) a cls d ts) : ∀ D σ H, LS X.K Ex (tTryAs3 l i t3 ts) D σ H → LS X.K (wAs X.K c i ts2 Ex D) t3 D σ H :=
  fun D σ H ⟨F, S, τ, D3, R, Ev, h, k⟩ => by
    subst e2
    refine ⟨F, S, ⟨τ.sl, fun C fs sl S1 => ∃ b, l.lookup C = some b ∧ (b = true → i < sl.length ∧ ts C fs (D3.away i) ⟨sl.set i none, τ.ex⟩ S1) ∧ (b = false → τ.ex C fs sl S1)⟩, D3.out τ.ex, R, ⟨Ev.sl, ?_⟩, h, out_kd Ev k⟩
    intro F' S' H' C dd fs gs sl σ' s R' e r sE ⟨b, hb, h1, h2⟩
    refine ⟨b, hl C b hb, fun z a _ => ?_, fun z => Ev.ex F' S' H' C dd fs gs sl σ' s R' e r sE (h2 z)⟩
    subst z
    obtain ⟨hi, h1⟩ := h1 rfl
    refine ⟨F', S', ⟨sl.set i none, τ.ex⟩, D3.away i, C, dd, fs, gs, rfl, rfl, hM C hb, fun j z => ?_, R', ⟨slE_over sE, Ev.ex.mono s⟩, e, r, h1, away_kd (k.mono s)⟩
    cases z
    rw [List.getElem?_set_self (by rw [← sE.1]; exact hi)]
theorem ps3_tryAs {M : Addr → Prop} {n : Str} (i : Nat) (hl : ∀ C b, List.lookup C l = some b → PySem.W.exmOne X.K (.ref C) c = some b) (hM : ∀ C, l.lookup C = some true → M C) (hs : X.stack = X.env :: X.outer) (hf : X.env.frame = some X.env.locals) (hN : X.N.Nodup) (hc : Names X x c) (tk : Takes X Ex)
    (gd : X.A.guards = some []) {k : Nat} (hr : Room k X.A) (hb : ∀ (W : WX) (pn : List (Addr × Obj)) (xe : Value → Shared → Prop), Takes (X.tr pn xe) W → PassesOwn (model X.prog X.w) X.A X.env xe → (X.tr pn xe).A.guards = some [] → Room k (X.tr pn xe).A → PSs (X.tr pn xe) body (LS X.K W t3))
    (hsu : ∀ (a : Addr) (oe : Obj) (cls : Value) (d : Option Addr) (pn : List (Addr × Obj)), Zc cls d oe → (∃ vs, oe.data = .fields vs) → PSs (X.suite a ((a, oe) :: pn)) (b₀ :: suite) (LX X.K Ex M (some i) a cls d ts))
    (hi : X.N[i]? = some n := by rfl) (hln : X.env.kindOf n = some .local := by rfl) :
    PS X (.Try body [.ExceptHandler (some (.Name x np)) (some n) (b₀ :: suite) pos'] [] [] pos) (LS X.K Ex (tTryAs3 l i t3 ts)) :=
  ps_imp (L2.ps_try_as (tb := fun W => LS X.K W t3) (ts := fun a cls d => LX X.K Ex M (some i) a cls d ts) hs hf hN hi hln hc tk (fun W pn xe a b => hb W pn xe a b gd hr) hsu) (try_as_in hl hM rfl)
end
/-! ### a suite -/
/-- what a suite's expression may ask: t of the exception's class and attributes -/
def LXE (K : PySem.W.Frag) (E : WX) (M : Addr → Prop) (i : Option Nat) (a : Addr) (cls : Value) (d : Option Addr) (t : Addr → List (Str × W) → TE3) : TE := fun σ H Q => ∃ F S τ Q3 C dd fs gs, cls = .ref C ∧ d = some dd ∧ M C ∧ (∀ j, i = some j → σ[j]? = some (some (.ref a))) ∧ Rel K F S H ∧ EnvR K F E τ σ ∧
  F.f dd = some (.xd gs) ∧ RepFs K F fs gs ∧ t C fs τ S Q3 ∧ KE K F Q3 Q
def LXT (K : PySem.W.Frag) (E : WX) (M : Addr → Prop) (i : Option Nat) (a : Addr) (cls : Value) (d : Option Addr) (t : Addr → List (Str × W) → TT3) : TT := fun σ H Q => ∃ F S τ Q3 C dd fs gs, cls = .ref C ∧ d = some dd ∧ M C ∧ (∀ j, i = some j → σ[j]? = some (some (.ref a))) ∧ Rel K F S H ∧ EnvR K F E τ σ ∧
  F.f dd = some (.xd gs) ∧ RepFs K F fs gs ∧ t C fs τ S Q3 ∧ KT K F Q3 Q
section
variable {X : Cx} {K : PySem.W.Frag} {E : WX} {M : Addr → Prop} {i : Option Nat} {a : Addr} {cls : Value} {d : Option Addr} {e b c : Expr} {st : Stmt} {rest : List Stmt} {pos p1 : Pos}
theorem px_lift {t : TS3} (h : PSs X rest (LS K E t)) : PSs X rest (LX K E M i a cls d fun _ _ => t) := pss_imp h fun D σ H ⟨F, S, τ, D3, C, dd, fs, gs, _, _, _, _, R, Ev, _, _, h, k⟩ => ⟨F, S, τ, D3, R, Ev, h, k⟩
theorem px_one {t : Addr → List (Str × W) → TS3} (h : PS X st (LX K E M i a cls d t)) : PSs X [st] (LX K E M i a cls d t) := pss_one h
theorem pxe_lift {t : TE3} (h : PE X e (LE K E t)) : PE X e (LXE K E M i a cls d fun _ _ => t) := pe_imp h fun σ H Q ⟨F, S, τ, Q3, C, dd, fs, gs, _, _, _, _, R, Ev, _, _, h, k⟩ => ⟨F, S, τ, Q3, R, Ev, h, k⟩
theorem px_ret {t : Addr → List (Str × W) → TE3} (h : PE X e (LXE K E M i a cls d t)) : PS X (.Return (some e) pos) (LX K E M i a cls d fun C fs => tRet3 (t C fs)) :=
  ps_imp (ps_ret h) fun D σ H ⟨F, S, τ, D3, C, dd, fs, gs, h1, h2, h3, h4, R, Ev, h5, h6, h, k⟩ => ⟨F, S, τ, _, C, dd, fs, gs, h1, h2, h3, h4, R, Ev, h5, h6, h, k.rt⟩
/-- a if t else b -/
theorem pxe_if {t : Addr → List (Str × W) → TT3} {ta tb : Addr → List (Str × W) → TE3} (hc : PT X c (LXT K E M i a cls d t)) (ha : PE X e (LXE K E M i a cls d ta)) (hb : PE X b (LXE K E M i a cls d tb)) : PE X (.IfExp c e b pos) (LXE K E M i a cls d fun C fs => tIfE3 (t C fs) (ta C fs) (tb C fs)) :=
  pe_imp (pe_ifExp hc ha hb) fun σ H Q ⟨F, S, τ, Q3, C, dd, fs, gs, h1, h2, h3, h4, R, Ev, h5, h6, h, k⟩ => ⟨F, S, τ, _, C, dd, fs, gs, h1, h2, h3, h4, R, Ev, h5, h6, h, fun F1 S1 H1 z s1 R1 ⟨q1, q2⟩ => by
    cases z with
    | true => exact iteT ⟨F1, S1, τ, Q3, C, dd, fs, gs, h1, h2, h3, h4, R1, Ev.mono s1, s1.f _ _ h5, h6.mono s1, q1 rfl, k.mono s1⟩
    | false => exact iteF ⟨F1, S1, τ, Q3, C, dd, fs, gs, h1, h2, h3, h4, R1, Ev.mono s1, s1.f _ _ h5, h6.mono s1, q2 rfl, k.mono s1⟩⟩
theorem px_if {t : Addr → List (Str × W) → TT3} {body orelse : List Stmt} {ta tb : Addr → List (Str × W) → TS3} (hc : PT X c (LXT K E M i a cls d t)) (ha : PSs X body (LX K E M i a cls d ta)) (hb : PSs X orelse (LX K E M i a cls d tb)) : PS X (.If c body orelse pos) (LX K E M i a cls d fun C fs => tIf3 (t C fs) (ta C fs) (tb C fs)) :=
  ps_imp (ps_if hc ha hb) fun D σ H ⟨F, S, τ, D3, C, dd, fs, gs, h1, h2, h3, h4, R, Ev, h5, h6, h, k⟩ => ⟨F, S, τ, _, C, dd, fs, gs, h1, h2, h3, h4, R, Ev, h5, h6, h, fun F1 S1 H1 z s1 R1 ⟨q1, q2⟩ => by
    cases z with
    | true => exact iteT ⟨F1, S1, τ, D3, C, dd, fs, gs, h1, h2, h3, h4, R1, Ev.mono s1, s1.f _ _ h5, h6.mono s1, q1 rfl, k.mono s1⟩
    | false => exact iteF ⟨F1, S1, τ, D3, C, dd, fs, gs, h1, h2, h3, h4, R1, Ev.mono s1, s1.f _ _ h5, h6.mono s1, q2 rfl, k.mono s1⟩⟩
theorem pxt_not {t : Addr → List (Str × W) → TT3} (h : PT X c (LXT K E M i a cls d t)) : PT X (.UnaryOp .Not c pos) (LXT K E M i a cls d fun C fs => tNot3 (t C fs)) :=
  pt_imp (pt_not h) fun σ H Q ⟨F, S, τ, Q3, C, dd, fs, gs, h1, h2, h3, h4, R, Ev, h5, h6, h, k⟩ => ⟨F, S, τ, _, C, dd, fs, gs, h1, h2, h3, h4, R, Ev, h5, h6, h, fun F1 S1 H1 z s1 R1 q => k F1 S1 H1 _ s1 R1 q⟩
theorem pxw_and1 {t : Addr → List (Str × W) → TT3} (h : PT X c (LXT K E M i a cls d t)) : PW X (.BoolOp .And [c] pos) (LXT K E M i a cls d t) := pw_and1 h
theorem pxw_or1 {t : Addr → List (Str × W) → TT3} (h : PT X c (LXT K E M i a cls d t)) : PW X (.BoolOp .Or [c] pos) (LXT K E M i a cls d t) := pw_or1 h
theorem pxw_and {t u : Addr → List (Str × W) → TT3} {es : List Expr} (h : PT X c (LXT K E M i a cls d t)) (h2 : PW X (.BoolOp .And (e :: es) pos) (LXT K E M i a cls d u)) : PW X (.BoolOp .And (c :: e :: es) pos) (LXT K E M i a cls d fun C fs => tAnd3 (t C fs) (u C fs)) :=
  pw_imp (pw_and h h2) fun σ H Q ⟨F, S, τ, Q3, C, dd, fs, gs, h1, h2, h3, h4, R, Ev, h5, h6, h, k⟩ => ⟨F, S, τ, _, C, dd, fs, gs, h1, h2, h3, h4, R, Ev, h5, h6, h, fun F1 S1 H1 z s1 R1 ⟨q1, q2⟩ => by
    cases z with
    | true => exact iteT ⟨F1, S1, τ, Q3, C, dd, fs, gs, h1, h2, h3, h4, R1, Ev.mono s1, s1.f _ _ h5, h6.mono s1, q1 rfl, k.mono s1⟩
    | false => exact iteF (k F1 S1 H1 _ s1 R1 (q2 rfl))⟩
theorem pxw_or {t u : Addr → List (Str × W) → TT3} {es : List Expr} (h : PT X c (LXT K E M i a cls d t)) (h2 : PW X (.BoolOp .Or (e :: es) pos) (LXT K E M i a cls d u)) : PW X (.BoolOp .Or (c :: e :: es) pos) (LXT K E M i a cls d fun C fs => tOr3 (t C fs) (u C fs)) :=
  pw_imp (pw_or h h2) fun σ H Q ⟨F, S, τ, Q3, C, dd, fs, gs, h1, h2, h3, h4, R, Ev, h5, h6, h, k⟩ => ⟨F, S, τ, _, C, dd, fs, gs, h1, h2, h3, h4, R, Ev, h5, h6, h, fun F1 S1 H1 z s1 R1 ⟨q1, q2⟩ => by
    cases z with
    | true => exact iteT (k F1 S1 H1 _ s1 R1 (q1 rfl))
    | false => exact iteF ⟨F1, S1, τ, Q3, C, dd, fs, gs, h1, h2, h3, h4, R1, Ev.mono s1, s1.f _ _ h5, h6.mono s1, q2 rfl, k.mono s1⟩⟩
end
/-! ### lists of classes -/
theorem cat_nil {P : Addr → Bool → Prop} : ∀ (C : Addr) (b : Bool), List.lookup C ([] : Cat) = some b → P C b := fun _ _ h => nomatch h
theorem cat_cons {P : Addr → Bool → Prop} {A : Addr} {b : Bool} {l : Cat} (h : P A b) (t : ∀ (C : Addr) (b : Bool), List.lookup C l = some b → P C b) : ∀ (C : Addr) (b' : Bool), List.lookup C ((A, b) :: l) = some b' → P C b' := fun C b' e => by
  rw [List.lookup_cons] at e
  cases z : C == A with
  | true =>
    rw [z] at e
    cases e
    rw [eq_of_beq z]; exact h
  | false =>
    rw [z] at e
    exact t C b' e
theorem cat_true {P : Addr → Prop} {l : Cat} (h : ∀ (C : Addr) (b : Bool), List.lookup C l = some b → (b = true → P C)) : ∀ C, List.lookup C l = some true → P C := fun C e => h C true e rfl
/-- what the exception keeps; whether it is of a class -/
def tXf3 (f : Str) (fs : List (Str × W)) : TE3 := fun _ S Q => ∃ w, fs.lookup f = some w ∧ Q w S
def tIsX3 (l : Cat) (C : Addr) : TT3 := fun _ S Q => ∃ b, l.lookup C = some b ∧ Q b S
/-! ### what the exception keeps, of which class it is -/
section
variable {X : Cx} {E : WX} {M : Addr → Prop} {i : Nat} {a : Addr} {oe : Obj} {cls : Value} {d : Option Addr} {pn : List (Addr × Obj)} {e c : Expr} {n f D x : Str} {pos p1 p2 p3 : Pos}
theorem pxe_fld (hM : ∀ C, M C → XfC X.K C ∧ PySem.W.findIn X.K (.ref C) f = some none) (hz : Zc cls d oe) (hf : ∃ vs, oe.data = .fields vs) (hN : X.N[i]? = some n := by rfl) (hv : Vis X.env.scope n := by first | exact Or.inl rfl | exact Or.inr (Or.inl rfl) | exact Or.inr (Or.inr rfl)) (hd : (n == ("__debug__" : Str)) = false := by decide)
    (hcd : (n == ("__classdict__" : Str)) = false := by decide) (hb : attributeBase (.Name n p1) f X.env (eval (.Name n p1) X.env) = eval (.Name n p1) X.env := by rfl) :
    PE (X.suite a ((a, oe) :: pn)) (.Attribute (.Name n p1) f pos) (LXE X.K E M (some i) a cls d fun _ fs => tXf3 f fs) :=
  ⟨fun pins s σ H Q I ⟨F, S, τ, Q3, C, dd, fs, gs, h1, h2, h3, h4, R, Ev, h5, h6, ⟨w, hw, q⟩, k⟩ => by
    obtain ⟨v, hv2, rv⟩ := RepFs.look h6 hw
    exact (pe_xf (C := C) (hM C h3).1 (hM C h3).2 hz hf (pe_var (X := X.suite a ((a, oe) :: pn)) (i := i) hN hv hd hcd) hb).run pins s σ H Q I ⟨.ref a, h4 i rfl, rfl, h1, dd, gs, v, h2, (R.fz dd _ h5).1, hv2, k F S H w v (Sm.refl F) R rv q⟩⟩
/-- isinstance(e, D) -/
def rIsX (K : PySem.W.Frag) (cls : Value) (d : Option Addr) (a : Addr) : List V → Hp → VK → Prop := fun xs H Q => ∃ (C dd D : Addr) (gs : List (Str × V)) (b : Bool), xs = [.ref a, .ref D] ∧ cls = .ref C ∧ d = some dd ∧ H dd = some (.xd gs) ∧ ExcC K C ∧ PySem.W.kitOne K (.ref C) (.ref D) = some b ∧ Q (.bl b) H
theorem call_isX (hz : Zc cls d oe) (hf : ∃ vs, oe.data = .fields vs) : CallR (X.suite a ((a, oe) :: pn)) (.builtin "isinstance") (rIsX X.K cls d a) := by
  rintro pins s σ H _ us Q I r ⟨C, dd, D, gs, b, rfl, rfl, rfl, hdd, ec, hb, q⟩
  obtain ⟨u, w, rfl, ru, rw'⟩ : ∃ u w, us = [u, w] ∧ RelV (.ref a) u ∧ RelV (.ref D) w := by
    cases r with
    | cons h1 t => cases t with
      | cons h2 t => cases t; exact ⟨_, _, rfl, h1, h2⟩
  obtain rfl : u = .ref a := ru
  obtain rfl : w = .ref D := rw'
  obtain ⟨at_, _⟩ := I.pin (a, oe) (List.mem_append_left _ List.mem_cons_self)
  obtain ⟨ws, hws⟩ := hf
  obtain ⟨mA, hns, _⟩ := show ObjOk X.prog X.w H s.heap dd (.xd gs) from I.hok dd _ hdd
  obtain ⟨od, ho, _⟩ := lookIn_ns hns
  have J : PySem.W.InstAt s.heap a oe C (some od) := ⟨at_, hz.1, by unfold PySem.W.notCls; rw [hws] <;> rfl, by rw [hz.2]; exact ho⟩
  obtain ⟨cd, hcd, _⟩ := PySem.W.any_some ec.hd
  exact PySem.W.kia_one (PySem.W.kitx_exc (x := a) (ox := oe) (od := some od) (by rw [hcd]; rfl) ec.hg ec.hk ec.hs ec.ha ec.hn ec.ht ec.hm) I.kIn J hb (fun z => nomatch z) fun tk => ⟨.bl b, H, I.kept (t' := tk) fun _ _ z => z, rfl, q⟩
theorem pxt_is {l : Cat} {Da : Addr} (hM : ∀ C, M C → ExcC X.K C) (hl : ∀ C b, l.lookup C = some b → PySem.W.kitOne X.K (.ref C) (.ref Da) = some b) (hz : Zc cls d oe) (hf : ∃ vs, oe.data = .fields vs) (hgi : Gl X "isinstance") (hmi : X.mg "isinstance" = none) (hvi : bootBuiltins "isinstance" = some (.builtin "isinstance")) (hgD : Gl X D) (hmD : X.mg D = some (.ref Da))
    (hN : X.N[i]? = some n := by rfl) (hv : Vis X.env.scope n := by first | exact Or.inl rfl | exact Or.inr (Or.inl rfl) | exact Or.inr (Or.inr rfl)) (hd : (n == ("__debug__" : Str)) = false := by decide) (hcd : (n == ("__classdict__" : Str)) = false := by decide) (hdb : (D == ("__debug__" : Str)) = false := by decide) :
    PT (X.suite a ((a, oe) :: pn)) (.Call (.Name "isinstance" p1) [.Name n p2, .Name D p3] [] pos) (LXT X.K E M (some i) a cls d fun C _ => tIsX3 l C) :=
  pt_imp (pt_val (pe_callB (X := X.suite a ((a, oe) :: pn)) (call_isX hz hf) hgi hmi hvi (pa_cons (pe_var (X := X.suite a ((a, oe) :: pn)) (i := i) hN hv hd hcd) (pa_cons (pe_glob (v := .ref Da) hgD hmD rfl hdb) pa_nil)))) fun σ H Q ⟨F, S, τ, Q3, C, dd, fs, gs, h1, h2, h3, h4, R, Ev, h5, h6, ⟨b, hb, q⟩, k⟩ =>
    ⟨.ref a, h4 i rfl, C, dd, Da, gs, b, rfl, h1, h2, (R.fz dd _ h5).1, hM C h3, hl C b hb, b, rfl, k F S H b (Sm.refl F) R q⟩
end
end H3

/-! H3G: the head's facts of error classes. -/
namespace H3
open PySem PySem.Spec L2
open PyProof.Rows hiding St
/-- an error class of the text: its name, the attribute that it keeps, its __init__, the file -/
structure ErrD where
  cls : Str
  fld : Str
  st : Stmt
  file : Str
  /-- over KeyError, else over Exception -/
  key : Bool
def ErrD.bm (e : ErrD) : List Value := if e.key then keBm else exBm
def ErrD.nw (e : ErrD) : String := if e.key then "LookupError.__new__" else "Exception.__new__"
def ErrD.ni (e : ErrD) : String := if e.key then "KeyError.__init__" else "Exception.__init__"
def ErrD.bn (e : ErrD) : String := if e.key then "KeyError" else "Exception"
theorem ErrD.ebf (e : ErrD) : EBF e.bn e.nw e.ni e.bm := by
  unfold ErrD.bn ErrD.nw ErrD.ni ErrD.bm
  cases e.key with
  | true => exact ebf_KeyError
  | false => exact ebf_Exception
def ErrD.ini (K : PySem.W.Frag) (e : ErrD) : Addr := He.ma K (He.ga K e.cls) "__init__"
def ErrD.qual (e : ErrD) : Str := e.cls ++ ".__init__"
def ErrD.val (e : ErrD) : FnN := some ("__init__", e.qual, defArgs e.st, .stmts (defBody e.st), defScope e.st, mainGlobals, ["__class__"], builtinsNs)
def excB (K : PySem.W.Frag) (C : Addr) : Bool := decide (PySem.W.findIn K (.ref C) "__class__" = some (some (.builtin "object.__class__"))) && (decide (PySem.W.specialIn K (.builtin "object.__class__") "__get__" = some (some (.builtin "getset_descriptor.__get__"))) && (decide (PySem.W.takesIn K (.builtin "object.__class__") = some true) && decide (PySem.W.mroIn K C (.type "object") = some true)))
def ErrD.ok (K : PySem.W.Frag) (e : ErrD) : Bool :=
  PySem.W.excInitIn K (He.ga K e.cls) e.bm e.nw && (PySem.W.excOver K (He.ga K e.cls) e.bm && (PySem.W.keepIn K (.ref (He.ga K e.cls)) && (decide (PySem.W.nsIn K mainGlobals e.cls = some (some (.ref (He.ga K e.cls)))) && (decide (PySem.W.findIn K (.ref (He.ga K e.cls)) "__init__" = some (some (.ref (e.ini K)))) &&
  (decide (PySem.W.typeIn K (.ref (e.ini K)) = some (.type "function")) && (decide (PySem.W.subIn K (.ref (He.ga K e.cls)) (.type "BaseException") = some true) && (decide (PySem.W.subIn K (.ref (He.ga K e.cls)) (.type e.bn) = some true) && (decide (PySem.W.typeIn K (.ref (He.ga K e.cls)) = some (.type "type")) &&
  (decide (PySem.W.findIn K (.ref (He.ga K e.cls)) "__setattr__" = some (some (.builtin "object.__setattr__"))) && (decide (PySem.W.takerIn K (He.ga K e.cls) e.fld = some none) && (decide (PySem.W.findIn K (.ref (He.ga K e.cls)) e.fld = some none) && (decide (PySem.W.mroIn K (He.ga K e.cls) (.ref (He.ga K e.cls)) = some true) &&
  (decide (PySem.W.ks_superIn K (He.ga K e.cls) (He.ga K e.cls) "__init__" = some (some (.builtin e.ni))) && (decide (PySem.W.nsIn K cStatics "thirdparty.any" = some none) && (xfB K (He.ga K e.cls) && (excB K (He.ga K e.cls) && errFn K (He.ga K e.cls) (e.ini K) e.qual e.file))))))))))))))))
theorem errFn_ok {K : PySem.W.Frag} {C f : Addr} {q file : Str} {st : Stmt} (h : errFn K C f q file = true) (v : fnN K f = (some ("__init__", q, defArgs st, .stmts (defBody st), defScope st, mainGlobals, ["__class__"], builtinsNs) : FnN)) :
    ∃ oc od osl kV doc pm an cda ct cc ccl cdd ws ccs tf cl cld csl, K.lookup f = some ⟨oc, od, .func (PySem.W.ksFn "__init__" q (defArgs st) (defBody st) (defScope st) .none kV doc pm an (.ref cda) ct cc), osl⟩ ∧ PySem.W.codeIn K (.ref cda) q = true ∧
    K.lookup cda = some ⟨ccl, cdd, .fields ws, ccs⟩ ∧ ws[2]? = some (.str file tf) ∧ K.lookup cc = some ⟨cl, cld, .cell (some (.ref C)), csl⟩ := by
  unfold errFn at h
  unfold fnN at v
  split at h
  · rename_i oc od fd osl hf
    rw [hf] at v
    obtain ⟨m1, m2, m3, m4, m5, m6, m7, m8, m9, m10, m11, m12, m13, m14, m15⟩ := fd
    simp only [Option.some.injEq, Prod.mk.injEq] at v
    obtain ⟨h1, h2, h3, h4, h5, h6, h7, h8⟩ := v
    subst h1 h2 h3 h4 h5 h6 h8
    split at h
    · rename_i nm cc cda e1 e2
      have e1 : m7 = [(nm, cc)] := e1
      subst e1
      have hn : nm = "__class__" := by
        have : [nm] = [("__class__" : Str)] := h7
        exact List.head_eq_of_cons_eq this
      subst hn
      obtain ⟨z0, hrest⟩ := Bool.and_eq_true_iff.mp h
      have dn : m8 = .none := by
        have z0 : isNone m8 = true := z0
        cases m8 <;> first | rfl | cases z0
      subst dn
      obtain ⟨z1, z2⟩ := Bool.and_eq_true_iff.mp hrest
      obtain ⟨z4, z3⟩ := Bool.and_eq_true_iff.mp z2
      split at z1
      · rename_i cl cld D csl hcc
        have := of_decide_eq_true z1
        subst this
        split at z3
        · rename_i ccl cdd ws ccs hcd
          split at z3
          · rename_i fl tf hws
            have := of_decide_eq_true z3
            subst this
            have e2 : _ = Value.ref cda := e2
            subst e2
            exact ⟨oc, od, osl, _, _, _, _, cda, _, cc, ccl, cdd, ws, ccs, tf, cl, cld, csl, hf, z4, hcd, hws, hcc⟩
          · cases z3
        · cases z3
      · cases z1
    · cases h
  · cases h
theorem ErrD.errC {K : PySem.W.Frag} {e : ErrD} (v : fnN K (e.ini K) = e.val) (h : e.ok K = true) : ErrC K (He.ga K e.cls) (e.ini K) e.fld e.qual e.file e.st ∧ PySem.W.nsIn K mainGlobals e.cls = some (some (.ref (He.ga K e.cls))) := by
  unfold ErrD.ok excB at h
  simp only [decide_eq_true_eq, Bool.and_eq_true] at h
  obtain ⟨h1, h2, h3, h4, h5, h6, h7, h8, h9, h10, h11, h12, h13, h14, h15, h16, ⟨h17, h18, h19, h20⟩, h21⟩ := h
  have xf := xfB_ok h16
  exact ⟨⟨⟨_, _, _, _, e.ebf, h1, h2, h8, h14⟩, h3, h5, h6, h7, h9, h10, h11, h12, h13, h15, xf, ⟨xf.ga, xf.gg, xf.exC, xf.hdC, h17, h18, h19, h20⟩, errFn_ok h21 v⟩, h4⟩
/-! ### the hook -/
abbrev AlX : Type := AlT × Bool × List FnN
abbrev KitL := List (Str × Str × Bool)
/-- names that a module imports, and the built-in functions that they stand for -/
abbrev BltL := List (Str × String)
def bltB (K : PySem.W.Frag) (q : Str × String) : Bool := decide (PySem.W.nsIn K mainGlobals q.1 = some (some (.builtin q.2)))
def kitB (K : PySem.W.Frag) (q : Str × Str × Bool) : Bool := decide (PySem.W.nsIn K mainGlobals q.2.1 = some (some (.ref (He.ga K q.2.1)))) && decide (PySem.W.kitOne K (.ref (He.ga K q.1)) (.ref (He.ga K q.2.1)) = some q.2.2)
def obsX (n : Nat) (fa : List He.Fa) (fn : List He.DefD) (tn : List (Str × Option Str)) (el : List ErrD) (kl : KitL) (bl : BltL) (g : Addr → Option Obj) : AlX :=
  (fun K : PySem.W.Frag => ((He.obsD fa fn K, (tn.all fun p => tabB g K (He.fAd K p)) && apart (tn.map fun p => (tabOf g K (He.fAd K p)).2)), ((el.all fun e => e.ok K) && bl.all fun q => bltB K q) && kl.all fun q => kitB K q, el.map fun e => fnN K (e.ini K))) (He.frG g (noTabs g (He.asD g n) ++ [cStatics]))
/-- what is told of the error classes -/
structure ErrSays (K : PySem.W.Frag) (el : List ErrD) (kl : KitL) (bl : BltL) : Prop where
  blt : ∀ q ∈ bl, PySem.W.nsIn K mainGlobals q.1 = some (some (.builtin q.2))
  cls : ∀ e ∈ el, ErrC K (He.ga K e.cls) (e.ini K) e.fld e.qual e.file e.st ∧ PySem.W.nsIn K mainGlobals e.cls = some (some (.ref (He.ga K e.cls)))
  kit : ∀ q ∈ kl, PySem.W.nsIn K mainGlobals q.2.1 = some (some (.ref (He.ga K q.2.1))) ∧ PySem.W.kitOne K (.ref (He.ga K q.1)) (.ref (He.ga K q.2.1)) = some q.2.2
theorem map_same {α β : Type} {f g : α → β} : ∀ {l : List α}, l.map f = l.map g → ∀ a ∈ l, f a = g a
  | [], _, _, h => nomatch h
  | x :: l, e, a, h => by
    obtain ⟨e1, e2⟩ := List.cons.inj e
    rcases List.mem_cons.mp h with here | far
    · rw [here]; exact e1
    · exact map_same e2 a far
def hookX (n : Nat) (fa : List He.Fa) (fn : List He.DefD) (tn : List (Str × Option Str)) (el : List ErrD) (kl : KitL) (bl : BltL) : PySem.W.Hook where
  α := AlX
  obs := fun s => obsX n fa fn tn el kl bl s.heap.get?
  val := fun _ => ((He.valD fn, true), true, el.map ErrD.val)
  says := fun _ h => ∃ K : PySem.W.Frag, K.In h ∧ He.SaysD fa fn K ∧ (∃ cs, Tabs K h tn cs) ∧ ErrSays K el kl bl
  of := fun _ s e => by
    have e1 := congrArg (fun z : AlX => z.1.1) e
    obtain ⟨e2, e3⟩ := Bool.and_eq_true_iff.mp (congrArg (fun z : AlX => z.1.2) e)
    obtain ⟨e4, e5⟩ := Bool.and_eq_true_iff.mp (congrArg (fun z : AlX => z.2.1) e)
    have e6 := congrArg (fun z : AlX => z.2.2) e
    obtain ⟨e4, e7⟩ := Bool.and_eq_true_iff.mp e4
    refine ⟨_, He.frG_in, e1, ⟨_, paired_map _ tn fun p hp => tabB_ok (List.all_eq_true.mp e2 p hp), by rw [List.map_map]; exact apart_ok e3⟩, fun q hq => of_decide_eq_true (List.all_eq_true.mp e7 q hq), fun d hd => ErrD.errC (map_same e6 d hd) (List.all_eq_true.mp e4 d hd), fun q hq => ?_⟩
    obtain ⟨h1, h2⟩ := Bool.and_eq_true_iff.mp (List.all_eq_true.mp e5 q hq)
    exact ⟨of_decide_eq_true h1, of_decide_eq_true h2⟩
  keeps := fun _ _ _ ⟨K, i, c, ⟨cs, t⟩, r⟩ k => ⟨K, PySem.W.Frag.In.keeps i k, c, ⟨cs, Paired.mapP t.all fun _ _ q => q.keeps k, t.apart⟩, r⟩
theorem obsX_eq {n : Nat} {fa : List He.Fa} {fn : List He.DefD} {tn : List (Str × Option Str)} {el : List ErrD} {kl : KitL} {bl : BltL} {g : Addr → Option Obj} {s : Shared} (h : ∀ a, g a = s.heap.get? a) : obsX n fa fn tn el kl bl g = (hookX n fa fn tn el kl bl).obs s := by
  obtain rfl : g = s.heap.get? := funext h
  rfl
theorem ErrSays.at {K : PySem.W.Frag} {el : List ErrD} {kl : KitL} {bl : BltL} (r : ErrSays K el kl bl) (i : Nat) {e : ErrD} (h : el[i]? = some e) : ErrC K (He.ga K e.cls) (e.ini K) e.fld e.qual e.file e.st := (r.cls e (List.mem_of_getElem? h)).1
theorem ErrSays.is {K : PySem.W.Frag} {el : List ErrD} {kl : KitL} {bl : BltL} (r : ErrSays K el kl bl) (i : Nat) {q : Str × Str × Bool} (h : kl[i]? = some q) : PySem.W.kitOne K (.ref (He.ga K q.1)) (.ref (He.ga K q.2.1)) = some q.2.2 := (r.kit q (List.mem_of_getElem? h)).2
theorem ErrSays.bf {K : PySem.W.Frag} {el : List ErrD} {kl : KitL} {bl : BltL} (r : ErrSays K el kl bl) {h : Heap} {mg : Str → Option Value} (X : K.In h) (G : h.Ns mainGlobals mg) (i : Nat) {q : Str × String} (e : bl[i]? = some q) : mg q.1 = some (.builtin q.2) := PySem.W.mg_of X G (r.blt q (List.mem_of_getElem? e))
theorem exm_is {K : PySem.W.Frag} {x y : Str} {b : Bool} (c : (He.Fa.exm x y b).ok K = true) : PySem.W.exmOne K (.ref (He.ga K x)) (.ref (He.ga K y)) = some b := of_decide_eq_true c
end H3

/-! H3H: xs.insert(i, y), str(i), over values. -/
namespace H3
open PySem PySem.Spec L2
open PyProof.Rows hiding St
section
variable {K : PySem.W.Frag}
/-- xs.insert(i, y) -/
theorem l_insert : MtL K gInsert (fun x vs H Q => ∃ (l : Addr) (xs : List V) (i : Int) (y : V), x = .ref l ∧ vs = [.int i, y] ∧ H l = some (.lst xs) ∧ xs.length < sizeLine ∧ 0 ≤ i ∧ i < 2 ^ 63 ∧ Q .non (upd H l (.lst (xs.take i.toNat ++ [y] ++ xs.drop i.toNat)))) := fun F S H w us x vs Q3 Q R rw ru ⟨a, ws, y, i, e1, e2, h, hi, hz, q⟩ k => by
  subst e1 e2
  obtain ⟨u, v, rfl, ri, rv⟩ := ws2 ru
  cases rep_int ri
  obtain ⟨xs, hx, rx⟩ := rd_lst R h
  have lx := Paired.length rx
  have sz := sizeLine_eq
  refine ⟨a, xs, _, v, rw, rfl, hx, by omega, by omega, by omega, k F _ _ _ _ (Sm.refl F) (wr_lst R h ?_) mk_non q⟩
  rw [Int.toNat_natCast, List.append_assoc]
  exact rep_app (rep_take i rx) (.cons rv (rep_drop i rx))
/-- str(i) -/
def gStrI : RC3 := fun ws S Q => ∃ i : Int, ws = [.int i] ∧ i.natAbs.log2 < 1920 ∧ Q (.str (toString i)) S
theorem l_strI : CallL K gStrI (fun xs H Q => ∃ i, xs = [.int i] ∧ i.natAbs.log2 < 1920 ∧ Q (.str (toString i)) H) := fun F S H ws vs Q3 Q R r ⟨i, e, hi, q⟩ k => by
  subst e
  obtain ⟨v, rfl, rv⟩ := ws1 r
  cases rep_int rv
  exact ⟨i, rfl, hi, k F S H _ _ (Sm.refl F) R mk_str q⟩
end
end H3

/-! H3I: for i, x in enumerate(t), t a tuple. -/
namespace H3
open PySem PySem.Spec L2
open PyProof.Rows hiding St
abbrev enO (it : Addr) : Obj := { cls := .type "enumerate", data := .fields #[.none, .bool false, .ref it, rawInt 0, .none, .none] }
theorem meets_enT {v : Value} {o : Obj} {H : Heap → Prop} (B : Begins v o H) : Meets (Builtin.«enumerate.__new__» ⟨[.type "enumerate", v], []⟩) (fun _ R s => H s.heap ∧ R (.ok (.ret (.ref (s.heap.push o).objs.size))) { s with heap := (s.heap.push o).push (enO s.heap.objs.size) }) :=
  .of_wp fun prog w A R s ⟨here, ends⟩ => by
    obtain ⟨hp, gl, dr, tk, os⟩ := s
    have itself := sub_enumerate
    have begun : ∀ {A2 : Around} {E : Value → Shared → Prop} {Q : Value → Shared → Prop}, Q (.ref hp.objs.size) ⟨hp.push o, gl, dr, tk, os⟩ → wpAny (model prog w) A2 (pyIter v) Q E ⟨hp, gl, dr, tk, os⟩ := fun z => B.iter prog w _ _ ⟨hp, gl, dr, tk, os⟩ _ here z
    wp_walk using begun
    refine wpAny_stack_any fun _ => wpAny_pure ?_
    split
    · rename_i c _ _ _ _ _
      cases (c == Value.type "enumerate") <;> (wp_walk using begun; exact ⟨_, rfl, ends⟩)
    · wp_walk using begun
      exact ⟨_, rfl, ends⟩
theorem call_enT {prog : Program} {w : World} {A : Around} {E : Value → Shared → Prop} {s : Shared} {t : Addr} {items : Array Value} {Q : Value → Shared → Prop} (ht : s.heap.IsTuple t items)
    (h : ∀ h', IsEnum h' (s.heap.objs.size + 1) s.heap.objs.size 0 .none → h'.IsTupleIter s.heap.objs.size t 0 → (∀ b o, s.heap.get? b = some o → h'.get? b = some o) → Q (.ref (s.heap.objs.size + 1)) { s with heap := h' }) :
    wpAny (model prog w) A (call (.type "enumerate") [.ref t]) Q E s := by
  refine callType_new F.called_enumerate (by decide) (F.typeCall_enumerate_1 _) (F.newCall_enumerate_1 _) (fun z => F.args_object_init_2 z _) F.entry_enumerate_new (meets_enT (begins_tuple t items)) ⟨ht, ?_⟩
  generalize hpo : s.heap.push { cls := .type "tuple_iterator", data := .fields #[.ref t, .int 0 0] } = g1
  have z1 : g1.objs.size = s.heap.objs.size + 1 := by rw [← hpo, Heap.size_push]
  have i1 : g1.get? s.heap.objs.size = some { cls := .type "tuple_iterator", data := .fields #[.ref t, .int 0 0] } := by rw [← hpo]; exact Heap.get?_push_size _ rfl
  have up : ∀ b o, s.heap.get? b = some o → (g1.push (enO s.heap.objs.size)).get? b = some o := fun b o e => Heap.get?_push_of_some _ (by rw [← hpo]; exact Heap.get?_push_of_some _ e)
  have at_ : (g1.push (enO s.heap.objs.size)).get? (s.heap.objs.size + 1) = some (enO s.heap.objs.size) := by rw [← z1]; exact Heap.get?_push_size _ rfl
  rw [z1]
  exact ⟨⟨_, at_, rfl⟩, h _ at_ ⟨_, Heap.get?_push_of_some _ i1, rfl, rfl⟩ up⟩
/-- the tuple at a, each item in a new pair -/
def IteT (K : PySem.W.Frag) (a : Addr) (xs : List V) : It :=
  ⟨fun i H => SqT K H a xs ∧ i < xs.length, fun i H v H' => ∃ T x o, v = .ref T ∧ H T = none ∧ NoD o ∧ H' = upd H T (.frz o (.tup [.int (i : Nat), x])) ∧ xs[i]? = some x, fun i H => SqT K H a xs ∧ xs.length ≤ i⟩
theorem turn_enT {P : Program} {w : World} {K : PySem.W.Frag} {elts : List Expr} {kk : Nat} {tpos : Pos} (a e it : Addr) (xs : List V) :
    Turn P w K (.Tuple elts kk tpos) (IteT K a xs) [e, it] e (fun i h => ((∃ old, IsEnum h e it ((i : Nat) : Int) old) ∧ h.IsTupleIter it a i) ∧ e ≠ it ∧ i ≤ xs.length) where
  mem := List.mem_cons_self
  obj := fun i h ⟨⟨⟨old, he⟩, o, ho, _, hd⟩, _⟩ b hb => by
    rcases List.mem_cons.mp hb with y | z
    · rw [y]; exact ⟨_, he, fun v q => nomatch q⟩
    · rw [List.mem_singleton.mp z]; exact ⟨o, ho, fun v q => by rw [hd] at q; cases q⟩
  keep := fun i h h' ⟨⟨⟨old, he⟩, hi⟩, rest⟩ k => ⟨⟨⟨old, k e (by simp) _ he⟩, hi.at fun o q => k it (by simp) o q⟩, rest⟩
  item := by
    rintro X rfl rfl rfl calm i pins s σ H E I fp ⟨⟨⟨old, he⟩, hit⟩, ne, _⟩ ⟨sq, lt⟩
    obtain ⟨its, vals, tup, _⟩ := I.tuple sq
    have tup : s.heap.IsTuple a its.toArray := tup
    have len := vals.length
    have ai : a ≠ it := fun z => by
      obtain ⟨o1, g1, c1, _⟩ := hit
      obtain ⟨o2, g2, c2, _⟩ := tup
      rw [z, g1] at g2
      cases g2
      have cc := c1.symm.trans c2
      simp at cc
    have ea : e ≠ a := fun z => by
      obtain ⟨o2, g2, c2, _⟩ := tup
      rw [← z, he] at g2
      cases g2
      simp at c2
    have eo : e < s.heap.objs.size := Heap.lt_size he
    have io : it < s.heap.objs.size := by
      obtain ⟨_, q, _⟩ := id hit
      exact Heap.lt_size q
    refine wpAny_pyNext_enum_itemD (Draws.tuple (prog := X.prog) (w := X.w) (A := X.A.in1) (show X.A.in1.handled = none from I.ok.hd calm) it a ai its.toArray) he ⟨hit, tup⟩ (by rw [List.size_toArray]; omega) ne (by simp [ne, ea]) fun u h1 tk hu out st fresh _ kept => ⟨_, rfl, ?_⟩
    obtain ⟨x, hx⟩ : ∃ x, xs[i]? = some x := ⟨_, List.getElem?_eq_getElem lt⟩
    obtain ⟨u2, hu2, rx⟩ := vals.get hx
    have same : u2 = u := by
      have z : its[i]? = some u := by simpa using hu
      rw [hu2] at z
      exact Option.some.inj z
    subst same
    refine wpAny_letOwnedTupleGo_enum (s := { s with heap := h1, toks := tk + 1 }) out fun h2 he2 sb => ?_
    have other : ∀ {b : Addr}, b ≠ e → h2.get? b = h1.get? b := fun nb => sb.2 _ nb
    have pair := (other (Nat.ne_of_gt eo)).trans fresh
    have J : Inv X pins σ (upd H s.heap.objs.size (.frz { cls := .type "tuple", data := .seq #[.int i tk, u2] } (.tup [.int (i : Nat), x]))) { s with heap := h2, toks := tk + 1 } :=
      I.turnedNew (ch := [e, it]) (fun b o nb q => by
        have b1 : b ≠ e := fun z => nb (by simp [z])
        have b2 : b ≠ it := fun z => nb (by simp [z])
        rw [other b1]; exact kept b o b1 b2 q) fp (Nat.le_refl _) ⟨pair, by show 2 ≤ sizeLine; decide, [.int i tk, u2], .cons ⟨_, rfl⟩ (.cons rx .nil), ⟨_, pair, rfl, _, rfl⟩⟩
    refine ⟨.ref s.heap.objs.size, _, J, rfl, ⟨_, x, _, rfl, I.hok.fresh (Nat.le_refl _), ⟨rfl, rfl⟩, rfl, hx⟩, ⟨⟨⟨u2, by rw [show ((i + 1 : Nat) : Int) = (i : Int) + 1 by omega]; exact he2⟩, st.1.at fun o q => (other (Ne.symm ne)).trans q⟩, ne, lt⟩, fun b hb => ?_⟩
    have bl : b < s.heap.objs.size := by
      rcases List.mem_cons.mp hb with y | z
      · rw [y]; exact eo
      · rw [List.mem_singleton.mp z]; exact io
    rw [upd_ne (Nat.ne_of_lt bl)]
    exact (fp b hb).1
  done := by
    rintro X rfl rfl rfl calm i pins s σ H E I fp ⟨⟨⟨old, he⟩, hit⟩, ne, le⟩ ⟨sq, ge⟩
    obtain ⟨its, vals, tup, _⟩ := I.tuple sq
    have tup : s.heap.IsTuple a its.toArray := tup
    have len := vals.length
    have ai : a ≠ it := fun z => by
      obtain ⟨o1, g1, c1, _⟩ := hit
      obtain ⟨o2, g2, c2, _⟩ := tup
      rw [z, g1] at g2
      cases g2
      have cc := c1.symm.trans c2
      simp at cc
    have all : i = its.toArray.size := by rw [List.size_toArray]; omega
    obtain ⟨f0, f1, f2, f3, f4, f5⟩ := fp it (by simp)
    exact wpAny_pyNext_enum_endD (Draws.tuple (prog := X.prog) (w := X.w) (A := X.A.in1) (show X.A.in1.handled = none from I.ok.hd calm) it a ai its.toArray) he ⟨all ▸ hit, tup⟩ fun h1 eb => ⟨rfl, I.turned (t' := s.toks) (fun b o hb q => eb b o hb q) f0 f1 f3 f4 f5⟩
  self := fun A i s Q E ⟨⟨⟨_, he⟩, _⟩, _⟩ h => wpAny_pyIter_enum he h
def iEnT (K : PySem.W.Frag) (ta : TA) : TI := fun σ H R => ta σ H fun vs H1 => ∃ a xs, vs = [.ref a] ∧ SqT K H1 a xs ∧ R (IteT K a xs) H1
theorem pi_enT {X : Cx} {e : Expr} {ta : TA} {p pos tpos : Pos} {elts : List Expr} {kk : Nat} (hg : Gl X "enumerate") (hm : X.mg "enumerate" = none) (ha : PA X [e] ta) (hs : starEach [e] X.env = [(false, eval e X.env)] := by rfl) :
    PI X (.Tuple elts kk tpos) (.Call (.Name "enumerate" p) [e] [] pos) (iEnT X.K ta) := by
  constructor
  intro pins s σ H R I h
  refine Call_ (ld_blt I hg hm boot_enumerate (PyProof.Rows.callWith_type1 (thn (ha.run pos pins s σ H _ I h) fun us s1 ⟨vs, H1, J, r1, a, xs, ev, sq, q⟩ => ?_) hs rfl))
  subst ev
  obtain ⟨u, rfl, ru⟩ : ∃ u, us = [u] ∧ RelV (.ref a) u := by
    cases r1 with
    | cons z1 z2 => cases z2; exact ⟨_, rfl, z1⟩
  obtain rfl : u = .ref a := ru
  obtain ⟨its, _, tup, _⟩ := J.tuple sq
  refine call_enT (show s1.heap.IsTuple a its.toArray from tup) fun h1 he hit kept => wpAny_pyIter_enum he ?_
  refine ⟨_, [s1.heap.objs.size + 1, s1.heap.objs.size], _, _, H1, rfl, J.kept (t' := s1.toks) kept, turn_enT a _ _ xs, ⟨⟨⟨.none, he⟩, hit⟩, Nat.succ_ne_self _, Nat.zero_le _⟩, fun b hb => ?_, q⟩
  have old : s1.heap.objs.size ≤ b := by
    rcases List.mem_cons.mp hb with y | z
    · rw [y]; exact Nat.le_succ _
    · rw [List.mem_singleton.mp z]; exact Nat.le_refl _
  exact J.fpOk old (J.hok.fresh old)
/-! ### over values -/
def enL (ds : List PyData) : List W := ds.zipIdx.map fun p => .tup [.int ((p.2 : Nat) : Int), p.1]
theorem enL_len {ds : List PyData} : (enL ds).length = ds.length := by rw [enL, List.length_map, List.length_zipIdx]
theorem enL_get {ds : List PyData} {i : Nat} {d : PyData} (h : ds[i]? = some d) : (enL ds)[i]? = some (.tup [.int ((i : Nat) : Int), d]) := by
  unfold enL
  rw [List.getElem?_map, List.getElem?_zipIdx, h]
  simp
theorem yl_en {K : PySem.W.Frag} {F : Fz} {a : Addr} {vs : List V} {ds : List PyData} (h : SqT K F.f a vs) (ha : DpAll K F.f vs ds) : YL K F (IteT K a vs) (enL ds) := by
  have hl := dpAll_len ha
  have sq : ∀ {H F' S'}, Same F.f F'.f → Rel K F' S' H → SqT K H a vs := fun s R => sqt_mono R.same (sqt_mono s h)
  refine ⟨fun i H F' S' s R hi => ⟨sq s R, by rw [enL_len] at hi; omega⟩, fun i H F' S' s R hi => ⟨sq s R, by rw [enL_len] at hi; omega⟩, ?_⟩
  rintro i H F' S' y H' s R hi ⟨T, x, o, rfl, hT, no, rfl, hx⟩
  rw [enL_len] at hi
  obtain ⟨d, hd⟩ : ∃ d, ds[i]? = some d := ⟨_, List.getElem?_eq_getElem hi⟩
  obtain ⟨v, hv, rv⟩ := rep_get (repWs_of_all ha) (show (ds.map W.d)[i]? = some (.d d) by rw [List.getElem?_map, hd]; rfl)
  rw [hx] at hv
  cases hv
  obtain ⟨s2, R2, r2⟩ := newTup (ds := [.int ((i : Nat) : Int), d]) R hT no (.cons (.int _) (.cons (dp_mono s rv) .nil))
  exact ⟨_, _, enL_get hd, s2, R2, r2⟩
def tEnI3 (ta : TA3) : TI3 := fun τ S Q => ta τ S fun ws S1 => ∃ ds, ws = [.tup ds] ∧ Q (enL ds) S1
theorem pi3_enum {X : Cx} {Ex : WX} {e : Expr} {ta : TA3} {p pos tpos : Pos} {elts : List Expr} {kk : Nat} (hg : Gl X "enumerate") (hm : X.mg "enumerate" = none) (ha : PA X [e] (LA X.K Ex ta)) (hs : starEach [e] X.env = [(false, eval e X.env)] := by rfl) :
    PI X (.Tuple elts kk tpos) (.Call (.Name "enumerate" p) [e] [] pos) (LI X.K Ex (tEnI3 ta)) :=
  pi_imp (pi_enT hg hm ha hs) fun σ H R ⟨F, S, τ, Q3, Rl, Ev, h, k⟩ => ⟨F, S, τ, _, Rl, Ev, h, fun F1 S1 H1 ws vs s1 R1 r1 ⟨ds, e, q⟩ => by
    subst e
    obtain ⟨v, rfl, rv⟩ := ws1 r1
    cases (show Dp X.K F1.f v (.tuple ds) from rv) with
    | tup h1 h2 => exact ⟨_, _, rfl, sqt_mono R1.same h1.sqt, k F1 S1 H1 _ _ s1 R1 (yl_en h1.sqt h2) q⟩⟩
end H3

/-! H3J: things drawn one behind another; small helps. -/
namespace H3
open PySem PySem.Spec L2
open PyProof.Rows hiding St
/-- so many things drawn -/
theorem drawn {α : Type} (f : α → PyData) (P : α → Prop) {dl d1 : Addr} {i n : Nat} {te : TE3} {τ0 : S3} {S : Sto} {Q : List W → Sto → Prop} (hD : Deal S dl d1)
    (step : ∀ (w : W) (S2 : Sto) (K : K3), Upto [dl, d1] S S2 → Deal S2 dl d1 → (∀ a S3, P a → Upto [dl, d1] S2 S3 → Deal S3 dl d1 → K (.d (f a)) S3) → te (τ0.set i (some w)) S2 K)
    (hd : ∀ (as : List α) S', as.length = n → (∀ a ∈ as, P a) → Upto [dl, d1] S S' → Deal S' dl d1 → Q (as.map fun a => W.d (f a)) S') :
    lcGo (gName3 i) tYes3 te τ0 (rgW 0 n) [] S Q := by
  refine lcGo_run (fun k acc S' => Deal S' dl d1 ∧ Upto [dl, d1] S S' ∧ ∃ as : List α, acc = (as.map fun a => W.d (f a)) ∧ as.length = k ∧ ∀ a ∈ as, P a) ⟨hD, Upto.refl, [], rfl, rfl, fun n hn => nomatch hn⟩ ?_ ?_
  · rintro k w acc S3 K hw ⟨hD3, u3, as, rfl, l3, b3⟩ hK
    refine ⟨fun _ => step w S3 _ u3 hD3 fun a S4 pa u4 hD4 => hK _ _ ⟨hD4, u3.trans u4, as ++ [a], by rw [List.map_append]; rfl, by rw [List.length_append, l3]; rfl, fun b hb => ?_⟩, fun c => nomatch c⟩
    rcases List.mem_append.mp hb with h | h
    · exact b3 b h
    · rw [List.mem_singleton.mp h]; exact pa
  · rintro acc S3 ⟨hD3, u3, as, rfl, l3, b3⟩
    rw [rgW_len] at l3
    exact hd as S3 l3 b3 u3 hD3
end H3

/-! H3K: a built-in function that a module imports (lcm); comparisons in a suite. -/
namespace H3
open PySem PySem.Spec L2
open PyProof.Rows hiding St
section
variable {X : Cx} {Ex : WX} {x : Str} {p pos : Pos} {e : Expr} {es : List Expr} {t : TA3} {id : String} {r3 : RC3} {r : List V → Hp → VK → Prop}
theorem pe3_bf (hc : CallR X (.builtin id) r) (l : CallL X.K r3 r) (hg : Gl X x) (hm : X.mg x = some (.builtin id)) (ha : PA X (e :: es) (LA X.K Ex t)) (hdb : (x == ("__debug__" : Str)) = false := by decide)
    (he : starEach (e :: es) X.env = (false, eval e X.env) :: starEach es X.env := by rfl) (hpl : (backTo pos (starEach es X.env)).any (·.1) = false := by rfl) : PE X (.Call (.Name x p) (e :: es) [] pos) (LE X.K Ex (tCB3 r3 t)) :=
  pe_imp (pe_callBfun hc hg hm ha hdb he hpl) (le_cb l)
def rLcm : List V → Hp → VK → Prop := fun vs H Q => ∃ m n : Nat, vs = [.int (m : Int), .int (n : Int)] ∧ m < 2 ^ 60 ∧ n < 2 ^ 60 ∧ Q (.int ((Nat.lcm m n : Nat) : Int)) H
theorem call_lcm : CallR X (.builtin "math.lcm") rLcm := by
  rintro pins s σ H vs us Q I r ⟨m, n, e, lm, ln, q⟩
  subst e
  obtain ⟨t, u, e⟩ := r.int2
  subst e
  refine PySem.W.mc_lcm (by omega) (by omega) fun _ => ⟨.int ((Nat.lcm m n : Nat) : Int), H, I.tok _, ⟨s.toks, ?_⟩, q⟩
  rw [Int.natAbs_natCast, Int.natAbs_natCast]
def gLcm : RC3 := fun ws S Q => ∃ m n : Nat, ws = [.int (m : Int), .int (n : Int)] ∧ m < 2 ^ 60 ∧ n < 2 ^ 60 ∧ Q (.int ((Nat.lcm m n : Nat) : Int)) S
theorem l_lcm {K : PySem.W.Frag} : CallL K gLcm rLcm := fun F S H ws vs Q3 Q R r ⟨m, n, e, lm, ln, q⟩ k => by
  subst e
  obtain ⟨v, u, rfl, rv, ru⟩ := ws2 r
  cases rep_int rv
  cases rep_int ru
  exact ⟨m, n, rfl, lm, ln, k F S H _ _ (Sm.refl F) R mk_int q⟩
end
section
variable {X : Cx} {K : PySem.W.Frag} {E : WX} {M : Addr → Prop} {i : Option Nat} {a : Addr} {cls : Value} {d : Option Addr} {e b : Expr} {pos : Pos}
theorem pxt_cmp {op : CmpOp} {r : R2} {r3 : R3} {ta tb : Addr → List (Str × W) → TE3} (ho : OpR X (compareOp op) r) (l : OpL K r3 r) (ha : PE X e (LXE K E M i a cls d ta)) (hb : PE X b (LXE K E M i a cls d tb)) (hm : behindInMarks op b = false) :
    PT X (.Compare e [op] [b] pos) (LXT K E M i a cls d fun C fs => tB3 (tOp3 r3 (ta C fs) (tb C fs))) :=
  pt_imp (pt_cmpR ho ha hb hm) fun σ H Q ⟨F, S, τ, Q3, C, dd, fs, gs, h1, h2, h3, h4, R, Ev, h5, h6, h, k⟩ => ⟨F, S, τ, _, C, dd, fs, gs, h1, h2, h3, h4, R, Ev, h5, h6, h, fun F1 S1 H1 w x s1 R1 r1 q1 =>
    ⟨F1, S1, τ, _, C, dd, fs, gs, h1, h2, h3, h4, R1, Ev.mono s1, s1.f _ _ h5, h6.mono s1, q1, fun F2 S2 H2 u y s2 R2 r2 q2 => l F2 S2 H2 w u x y _ _ R2 (r1.mono s2) r2 q2 fun F3 S3 H3 z v s3 R3 r3' ⟨c, e, q3⟩ => by
      subst e; exact ⟨c, rep_bl r3', k F3 S3 H3 c (s1.trans (s2.trans s3)) R3 q3⟩⟩⟩
end

/-! ### a tuple turned about: t[::-1] -/
theorem back_places (n : Nat) : Builtin.Slice.slicePlaces ((n : Int) - 1) (-1) (-1) = n := by
  rw [Builtin.Slice.slicePlaces, if_neg (show ¬ (-1 : Int) > 0 by decide)]
  by_cases c : (n : Int) - 1 > -1
  · rw [if_pos c, show (-(-1) : Int) = 1 by decide, Int.ediv_one]; omega
  · rw [if_neg c]; omega
theorem back_pick (xs : Array Value) : ((List.range xs.size).filterMap fun k : Nat => xs[((xs.size : Int) - 1 + (k : Int) * (-1)).toNat]?).toArray = xs.toList.reverse.toArray := by
  rw [← PySem.W.krv_pick, slicePick, PySem.W.krv_bounds]
  show _ = ((sliceRange ((xs.size : Int) - 1) (-1) (-1)).filterMap (xs[·]?)).toArray
  rw [PySem.W.krv_sliceRange, List.filterMap_map]
  congr 2
  funext k
  have z : ((xs.size : Int) - 1 + (k : Int) * (-1)).toNat = xs.size - 1 - k := by omega
  show xs[((xs.size : Int) - 1 + (k : Int) * (-1)).toNat]? = xs[xs.size - 1 - k]?
  rw [z]
section
variable {prog : Program} {w : World} {A : Around} {E : Value → Shared → Prop} {st : Shared}
theorem back_applied {sl : Addr} {v : Value} {n : Nat} {R : Int × Int × Nat → Shared → Prop} (hs : st.heap.IsSliceOf sl .none .none v) (p : IsPart v (some (-1))) (h : R ((n : Int) - 1, -1, n) st) : wpAny (model prog w) A (Builtin.Slice.sliceApplied (.ref sl) (pure (n : Int))) R E st := by
  obtain ⟨o, ho, _, dat⟩ := id hs
  unfold Builtin.Slice.sliceApplied
  unfold Builtin.Slice.sliceFields
  refine wpAny_bind (wpAny_bind (wpAny_field ho dat (x := .none) rfl (wpAny_bind (wpAny_field ho dat (x := .none) rfl (wpAny_bind (wpAny_field ho dat (x := v) rfl (wpAny_pure (wpAny_bind (HT.slicePart_ p ?_)))))))))
  show wpAny _ _ (if ((-1 : Int) == 0) = true then _ else _) _ _ st
  rw [if_neg (show ¬ ((-1 : Int) == 0) = true by decide)]
  refine wpAny_bind (slicePart_none (wpAny_bind (slicePart_none (wpAny_bind (wpAny_pure ?_)))))
  have e : (Builtin.Slice.sliceAdjust none none (-1) (n : Int)) = ((n : Int) - 1, -1) := rfl
  show wpAny _ _ (match Builtin.Slice.sliceAdjust none none (-1) (n : Int) with | (lo, hi) => pure (lo, (-1 : Int), Builtin.Slice.slicePlaces lo hi (-1))) _ _ st
  rw [e]
  show wpAny _ _ (pure ((n : Int) - 1, (-1 : Int), Builtin.Slice.slicePlaces ((n : Int) - 1) (-1) (-1))) _ _ st
  rw [back_places]
  exact wpAny_pure h
theorem getItem_back {t sl : Addr} {xs : Array Value} {v : Value} {R : Value → Shared → Prop} (ht : IsTup st.heap t xs) (hs : st.heap.IsSliceOf sl .none .none v) (p : IsPart v (some (-1))) (hz : xs.size ≤ sizeLine)
    (h : R (.ref st.heap.objs.size) { st with heap := st.heap.push (tobj xs.toList.reverse.toArray) }) : wpAny (model prog w) A (getItem (.ref t) (.ref sl)) R E st := by
  have fits : sizeOk (.seq xs.toList.reverse.toArray) := by
    show xs.toList.reverse.toArray.size ≤ sizeLine
    rw [List.size_toArray, List.length_reverse, Array.length_toList]; exact hz
  obtain ⟨o, ho, oc, _⟩ := id hs
  have isS : st.TypeIs (.ref sl) "slice" := ⟨o, ho, oc⟩
  have slot := PyProof.Rows.slot_tuple_getitem
  unfold getItem
  first | (with_reducible refine wpAny_holding ?_) | skip
  refine wpAny_bind (wpAny_sequenceKey ht.typeIs (by decide) (wpAny_bind (wpAny_callSpecial?_slot (name := Str.ofString "__getitem__") ht.typeIs slot (wpAny_call_entry slot ht.typeIs entry_tuple_getitem ?_ (args_tuple_getitem _ _)))))
  refine wpAny_bind (m := Builtin.Tuple.tupleItemsOf (.ref t)) (tupleItemsOf_ ht (wpAny_bind (wpAny_typeOf isS ?_)))
  rw [if_pos (show ((Value.type "slice") == Value.type "slice") = true by decide)]
  refine wpAny_bind (back_applied hs p ?_)
  have no : ¬ (((xs.size : Int) - 1 == 0 && (-1 : Int) == 1 && xs.size == xs.size) = true) := fun z => by simp at z
  show wpAny _ _ (if ((xs.size : Int) - 1 == 0 && (-1 : Int) == 1 && xs.size == xs.size) = true then _ else _) _ _ st
  rw [if_neg no, back_pick]
  have done : wpAny (model prog w) A (Builtin.Tuple.tupleExact xs.toList.reverse.toArray) (fun v s2 => R v s2) E st := wpAny_newObj_type h fits
  first
    | exact wpAny_bind (wpAny_mono (Q := fun v s2 => R v s2) (fun v s2 z => wpAny_pure ⟨_, rfl, wpAny_pure z⟩) done)
    | exact wpAny_bind (wpAny_newObj_type (wpAny_pure ⟨_, rfl, wpAny_pure h⟩) fits)
    | exact wpAny_bind (wpAny_newObj_type (wpAny_bind (wpAny_pure (wpAny_pure ⟨_, rfl, wpAny_pure h⟩))) fits)
    | exact wpAny_bind (wpAny_bind (wpAny_newObj_type (wpAny_pure (wpAny_pure ⟨_, rfl, wpAny_pure h⟩)) fits))
end
section
variable {X : Cx} {e : Expr} {k : Nat} {p1 p2 p3 pos : Pos}
theorem pe_revT {te : TE} (he : PE X e te) : PE X (.Subscript e (.Slice none none (some (.UnaryOp .USub (.Constant (.int 1) k p1) p2)) p3) pos) (fun σ H Q => te σ H fun x H1 => ∃ a xs, x = .ref a ∧ SqT X.K H1 a xs ∧ NewT Q xs.reverse H1) := by
  constructor
  intro pins s σ H Q I h
  refine Subscript_ (thn (he.run pins s σ H _ I h) ?_)
  rintro v s1 ⟨x, H1, I1, r1, a, xs, rfl, hx, q⟩
  cases r1
  have neg : PO X (some (.UnaryOp .USub (.Constant (.int 1) k p1) p2)) (tPart (tUn (rU fun i => .int (-i)) (tC (.int 1)))) := po_some (pe_un un_neg pe_int)
  refine wpAny_Slice (thn (po_none.run pins s1 σ H1 (fun o H2 => o = none ∧ H2 = H1) I1 ⟨rfl, rfl⟩) ?_)
  rintro vl s2 ⟨l, H2, I2, pl, rfl, rfl⟩
  refine thn (po_none.run pins s2 σ H2 (fun o H3 => o = none ∧ H3 = H2) I2 ⟨rfl, rfl⟩) ?_
  rintro vu s3 ⟨u, H3, I3, pu, rfl, rfl⟩
  refine thn (neg.run pins s3 σ H3 (fun o H4 => o = some (-1) ∧ H4 = H3) I3 ⟨1, rfl, -1, rfl, rfl, rfl⟩) ?_
  rintro vs s4 ⟨o, H4, I4, ps, rfl, rfl⟩
  cases pl
  cases pu
  have J : Inv X pins σ H4 { s4 with heap := s4.heap.push { cls := .type "slice", data := .fields #[.none, .none, vs] } } := I4.kept (t' := s4.toks) fun b ob q => Heap.get?_push_of_some _ q
  obtain ⟨its, rv, pt, sz, hz⟩ := tupAt J hx
  refine tail_any (ops := [.ref a, .ref s4.heap.objs.size]) pt.typeIs (PyProof.Rows.slot_tuple_getitem.lookup) ?_ (by with_unfolding_all rfl)
  refine getItem_back pt (Heap.IsSliceOf.new _ .none .none vs) ps (by rw [sz]; exact hz) ?_
  exact ⟨.ref _, _, laidT (xs := xs.reverse) (s := { s4 with heap := s4.heap.push { cls := .type "slice", data := .fields #[.none, .none, vs] } }) (t' := s4.toks) J (by simpa using rv.reverse) (by rw [List.length_reverse]; exact hz), rfl, q _ _ J.fresh tobj_no⟩
def tRevT3 (te : TE3) : TE3 := fun τ S Q => te τ S fun w S1 => ∃ ds, w = .tup ds ∧ Q (.tup ds.reverse) S1
theorem pe3_revT {Ex : WX} {te : TE3} (he : PE X e (LE X.K Ex te)) : PE X (.Subscript e (.Slice none none (some (.UnaryOp .USub (.Constant (.int 1) k p1) p2)) p3) pos) (LE X.K Ex (tRevT3 te)) :=
  pe_imp (pe_revT he) fun σ H Q ⟨F, S, τ, Q3, R, Ev, h, k⟩ => ⟨F, S, τ, _, R, Ev, h, fun F1 S1 H1 w x s1 R1 r1 ⟨ds, hd, q⟩ => by
    subst hd
    obtain ⟨_, a, vs, rfl, hs, ha⟩ := tup_rep R1 r1 rfl
    refine ⟨a, vs, rfl, hs, fun p o hp no => ?_⟩
    obtain ⟨s2, R', rw'⟩ := newTup R1 hp no (dpAll_rev ha)
    exact k _ _ _ _ _ (s1.trans s2) R' rw' q⟩
end
/-! ### texts among texts -/
theorem eqv_str {x y : Str} : PyData.eqv (.str x) (.str y) = decide (x = y) := by
  unfold PyData.eqv
  by_cases h : x = y
  · simp [h]
  · simp [h]
theorem in_strs (x : Str) : ∀ l : List Str, ((l.map PyData.str).any fun z => PyData.eqv z (.str x)) = decide (x ∈ l)
  | [] => by simp
  | y :: l => by
    rw [List.map_cons, List.any_cons, in_strs x l, eqv_str]
    by_cases h : y = x
    · subst h; simp
    · have h2 : ¬ x = y := fun e => h e.symm
      simp [h, h2]
theorem lay_strs {l : List Str} (h : ∀ x ∈ l, (PyData.str x).canLay0 = true) : PyData.canLayAll0 (l.map PyData.str) = true := by
  induction l with
  | nil => rfl
  | cons x l ih =>
    show ((PyData.str x).canLay0 && PyData.canLayAll0 (l.map PyData.str)) = true
    rw [h x List.mem_cons_self, ih fun y hy => h y (List.mem_cons_of_mem _ hy)]; rfl
/-! ### l.index(k) -/
theorem before_idx (k : Int) : ∀ (ns : List Int) (m : Nat), m < ns.idxOf k → ns[m]? ≠ some k
  | [], m, h => fun z => by cases z
  | x :: ns, m, h => fun z => by
    rw [List.idxOf_cons] at h
    by_cases c : x = k
    · subst c; simp at h
    · rw [beq_eq_false_iff_ne.mpr c] at h
      cases m with
      | zero => exact c (Option.some.inj z)
      | succ m => exact before_idx k ns m (by simpa using h) z
def gLIx : RM3 := fun w ws S Q => ∃ (ns : List Int) (k : Int), viewW S w = some (.list (ns.map PyData.int)) ∧ ws = [.int k] ∧ k ∈ ns ∧ Q (.int (ns.idxOf k : Nat)) S
theorem l_lix {K : PySem.W.Frag} : MtL K gLIx (rIndex K) := fun F S H w ws x vs Q3 Q R rw rs ⟨ns, k, hv, e2, hk, q⟩ kk => by
  subst e2
  obtain ⟨v, rfl, rv⟩ := ws1 rs
  obtain ⟨a, us, rfl, hs, ha, _⟩ := list_rep R rw hv
  have e3 := ints_of ha
  subst e3
  have hi := List.idxOf_lt_length_of_mem hk
  refine ⟨a, ns.map V.int, .int k, ns.idxOf k, .int k, rfl, by rw [rep_int rv], hs, rfl, List.all_eq_true.mpr fun y hy => ?_, ?_, (show (k == k) = true by simp), fun m z hm hz => ?_, kk F S H _ _ (Sm.refl F) R mk_int q⟩
  · obtain ⟨j, _, rfl⟩ := List.mem_map.mp hy
    rfl
  · rw [List.getElem?_map, List.getElem?_eq_getElem hi, List.getElem_idxOf hi]; rfl
  · rw [List.getElem?_map] at hz
    cases e : ns[m]? with
    | none => rw [e] at hz; cases hz
    | some j =>
      rw [e] at hz
      cases hz
      exact beq_eq_false_iff_ne.mpr fun z => before_idx k ns m hm (by rw [e, z])
/-! ### all lots are few -/
theorem lots_small {l : List Int} (hl : l.length ≤ 16) : (allLots l).length ≤ 65536 := by
  rw [allLots_len]
  exact Nat.pow_le_pow_right (n := 2) (by decide) hl
theorem depth_lots {ss : List (List Int)} : ∀ d ∈ ss.map lt, d.depth ≤ 60 := fun d hd => by
  obtain ⟨a, _, rfl⟩ := List.mem_map.mp hd
  rw [depth_lt]; decide
theorem srt_lots (l : List Int) : SrtOk ((allLots l).map lt) := by
  obtain ⟨r, hr⟩ := allLots_head l
  rw [hr]; exact lots_srt
theorem lots_fit {l : List Int} (hl : l.length ≤ 16) : ((allLots l).map lt).length ≤ sizeLine := by
  rw [List.length_map, sizeLine_eq]; have := lots_small hl; omega
end H3

/-! H3L: list(text); texts' methods; tuples many times. -/
namespace H3
open PySem PySem.Spec L2
open PyProof.Rows hiding St
section
variable {prog : Program} {w : World} {A : Around} {E : Value → Shared → Prop} {st : Shared} {x : Str} {t : Tok}
theorem hint_text {R : Bool → Shared → Prop} (h : R false st) : wpAny (model prog w) A (Builtin.List.listLengthHint (.str x t)) R E st := by
  have ty : st.TypeIs (.str x t) "str" := typeIs_str st x t
  unfold Builtin.List.listLengthHint; refine wpAny_bind (wpAny_specialOf ty PySem.F.slot_str_len.lookup ?_)
  generalize name : ("str.__len__" : String) = id0
  wp_delta
  rw [show splitId id0 = some ("str", "__len__") from by subst name; decide +kernel]
  subst name
  refine wpAny_bind (wpAny_isInstance (T := "str") (b := true) ty (by rw [isSubtype_type]; kernel_rfl) ?_)
  refine wpAny_ite_split (fun z => absurd z (by decide)) (fun _ => wpAny_ite_split (fun _ => ?_) (fun z => absurd (by decide +kernel) z))
  exact wpAny_bind (wpAny_typeOf ty (wpAny_pure h))
/-- what is behind list.__init__ -/
abbrev Fins (R : Result → Shared → Prop) (prog : Program) (w : World) (A : Around) (fin : Fin) (s' : Shared) : Prop := match fin with | .done f => R (.ok f) s' | .again c' => c'.quiet = true ∧ codeAny (model prog w) A c' R s'
theorem extend_text {R : Result → Shared → Prop} (hh : A.handled = none) {p : Addr} {v : Value} {c₀ : Nat} (hp : st.heap.get? p = some { cls := .type "list", data := .seq #[] c₀ }) (hz : x.cps.size ≤ sizeLine)
    (h : ∀ h' tk acc c', (∀ b o, b ≠ p → st.heap.get? b = some o → h'.get? b = some o) → h'.get? p = some { cls := .type "list", dict := none, data := .seq acc c', slots := #[] } → ItemsOf (SignAt x) acc x.cps.size → R (.ok (.ret v)) { st with heap := h', toks := tk }) :
    wpAny (model prog w) A.in1 (Builtin.List.listExtendWith (.ref p) (.str x t) v) (Fins R prog w A) (fun e s' => R (.error e) s') st := by
  have ty : st.TypeIs (.str x t) "str" := typeIs_str st x t
  have pI : p ≠ st.heap.objs.size := Nat.ne_of_lt (Heap.lt_size hp)
  unfold Builtin.List.listExtendWith; refine wpAny_bind (wpAny_typeOf ty ?_)
  rw [if_neg (show ¬ (Builtin.List.listSameRef (.ref p) (.str x t) || Value.type "str" == Value.type "list" || Value.type "str" == Value.type "tuple") = true from by
    rw [show Builtin.List.listSameRef (.ref p) (.str x t) = false from rfl]; decide)]
  refine wpAny_bind (wpAny_pyIter_str fun o St walks start => ?_)
  have at_p := Heap.get?_push_of_some o hp
  refine wpAny_bind (wpAny_holding (hint_text ?_))
  refine wpAny_ite_split (fun z => absurd z (by decide)) fun _ => wpAny_pure ⟨plainId_quiet PySem.F.plain_extend_loop _, ?_⟩
  refine codeAny_extend_loopS (walks A.in1 hh).toS hz p (by simpa using pI) v x.cps.size 0 _ #[] c₀ rfl (Nat.zero_le _) start at_p (ItemsOf.nil _) fun s2 acc c' mv at2 its => ?_
  rw [Moved.eq_with mv]
  refine h s2.heap s2.toks acc c' (fun b o hb e => mv.heap b o (fun m => ?_) (Heap.get?_push_of_some _ e)) at2 its
  rcases List.mem_cons.mp m with y | m
  · exact hb y
  · rw [List.mem_singleton.mp m] at e
    exact absurd (Heap.lt_size e) (Nat.lt_irrefl _)
theorem call_list_text {R : Value → Shared → Prop} (hh : A.handled = none) (hz : x.cps.size ≤ sizeLine)
    (h : ∀ h' tk acc c', (∀ b o, st.heap.get? b = some o → h'.get? b = some o) → h'.get? st.heap.objs.size = some { cls := .type "list", dict := none, data := .seq acc c', slots := #[] } → ItemsOf (SignAt x) acc x.cps.size → R (.ref st.heap.objs.size) { st with heap := h', toks := tk }) :
    wpAny (model prog w) A (call (.type "list") [.str x t]) R E st := by
  refine callType_codes (Q₁ := fun obj s₁ => obj = .ref st.heap.objs.size ∧ s₁ = { st with heap := st.heap.push { cls := .type "list", data := .seq #[] } }) PySem.F.called_list (PySem.F.typeCall_list_1 _) PySem.F.entry_list_init (code_list_new _ ⟨rfl, rfl⟩) ?_
  rintro obj s₁ ⟨rfl, rfl⟩
  have at1 : (st.heap.push { cls := .type "list", data := .seq #[] }).get? st.heap.objs.size = some { cls := .type "list", data := .seq #[] } := Heap.get?_push_size _ rfl
  refine ⟨⟨_, at1, rfl⟩, PySem.F.args_list_init_2 _ _, ?_⟩
  have fresh : ∀ b o, st.heap.get? b = some o → b ≠ st.heap.objs.size := fun b o e => Nat.ne_of_lt (Heap.lt_size e)
  have old : ∀ b o, st.heap.get? b = some o → (st.heap.push { cls := .type "list", data := .seq #[] }).get? b = some o := fun b o e => Heap.get?_push_of_some _ e
  generalize st.heap.objs.size = p at *
  show wpAny _ _ (do let old ← Builtin.List.listItems (.ref p); Builtin.List.listUpdate (.ref p) (fun _ => #[]); letGo old.toList.reverse; Builtin.List.listExtendWith (.ref p) (.str x t) .none) _ _ _
  refine wpAny_bind ?_
  rw [Builtin.List.listItems]
  refine wpAny_bind (wpAny_seqItems at1 rfl (wpAny_pure (wpAny_bind (m := updateSeq p (fun _ => #[])) (wpAny_updateSeq at1 rfl ?_))))
  have at2 := Heap.get?_update_self (Obj.mapSeq (fun _ => (#[] : Array Value))) at1 rfl
  exact wpAny_bind (wpAny_letGo (extend_text (A := A.in1) hh at2 hz fun h' tk acc c' keep at3 its => ⟨rfl, h h' tk acc c' (fun b o e => keep b o (fresh b o e) ((Heap.get?_update_other _ _ (fresh b o e).symm).trans (old b o e))) at3 its⟩))
end

/-! ### list(text), as a rule -/
theorem vals_signs : ∀ {l : List Nat} {its : List Value}, its.length = l.length → (∀ (j : Nat) (v : Value), its[j]? = some v → ∃ (c : Nat) (u : Tok), l[j]? = some c ∧ v = Value.str ⟨#[c]⟩ u) → Vals (l.map fun c => V.str ⟨#[c]⟩) its
  | [], [], _, _ => .nil
  | [], _ :: _, h, _ => absurd h (by simp)
  | _ :: _, [], h, _ => absurd h (by simp)
  | c :: l, v :: its, h, g => by
    obtain ⟨c', u, e1, e2⟩ := g 0 v rfl
    cases (show some c = some c' from e1)
    refine .cons ⟨u, e2⟩ (vals_signs (by simpa using h) fun j v e => ?_)
    exact g (j + 1) v e
/-- the signs of a text, as texts -/
def sgs (z : Str) : List Str := z.cps.toList.map fun c => ⟨#[c]⟩
theorem sgs_len (z : Str) : (sgs z).length = z.length := by unfold sgs; rw [List.length_map, Array.length_toList]; rfl
section
variable {X : Cx}
/-- list(text) -/
def rListTxt : List V → Hp → VK → Prop := fun xs H Q => ∃ z, xs = [.str z] ∧ z.length ≤ sizeLine ∧ ∀ l, H l = none → Q (.ref l) (upd H l (.lst ((sgs z).map V.str)))
theorem call_list_txt (hc : X.calm = true) : CallR X (.type "list") rListTxt := by
  rintro pins s σ H xs us Q I rr ⟨z, rfl, hz, q⟩
  obtain ⟨u, rfl, t, rfl⟩ := vals1 rr
  refine call_list_text (I.ok.hd hc) hz fun h' tk acc c' kp e its => ?_
  have rv : Vals ((sgs z).map V.str) acc.toList := by
    unfold sgs
    rw [List.map_map]
    refine vals_signs ?_ fun j v ej => ?_
    · rw [Array.length_toList]; exact its.1
    · obtain ⟨c, u, e1, e2⟩ := its.2 j v (by rw [← ej, Array.getElem?_toList])
      exact ⟨c, u, by rw [Array.getElem?_toList]; exact e1, e2⟩
  exact ⟨.ref _, _, I.laid (t' := tk) kp (Nat.le_refl _) (show ObjOk X.prog X.w _ h' _ (.lst ((sgs z).map V.str)) from ⟨by rw [List.length_map, sgs_len]; exact hz, acc.toList, c', rv, by rw [Array.toArray_toList]; exact e⟩), rfl, q _ (I.hok.fresh (Nat.le_refl _))⟩
end
section
variable {K : PySem.W.Frag}
theorem dp_strs {F : Hp} : ∀ l : List Str, DpAll K F (l.map V.str) (l.map PyData.str)
  | [] => .nil
  | x :: l => .cons (.str x) (dp_strs l)
theorem reps_strs {F : Fz} : ∀ l : List Str, RepWs K F (l.map W.str) (l.map V.str)
  | [] => .nil
  | x :: l => .cons (mk_str) (reps_strs l)
def gListTD : RC3 := fun ws S Q => ∃ z, ws = [.str z] ∧ z.length ≤ sizeLine ∧ Q (.lst ((sgs z).map PyData.str)) S
def gListTM : RC3 := fun ws S Q => ∃ z, ws = [.str z] ∧ z.length ≤ sizeLine ∧ ∀ p, S p = none → Q (.r p) (put S p (.lst ((sgs z).map W.str)))
theorem l_listTD : CallL K gListTD rListTxt := fun F S H ws vs Q3 Q R r ⟨z, e, hz, q⟩ k => by
  subst e
  obtain ⟨v, rfl, rv⟩ := ws1 r
  cases rep_str rv
  refine ⟨z, rfl, hz, fun l hl => ?_⟩
  obtain ⟨s, R', rw'⟩ := newLst R hl (dp_strs (sgs z))
  exact k _ S _ _ _ s R' rw' q
theorem l_listTM : CallL K gListTM rListTxt := fun F S H ws vs Q3 Q R r ⟨z, e, hz, q⟩ k => by
  subst e
  obtain ⟨v, rfl, rv⟩ := ws1 r
  cases rep_str rv
  exact ⟨z, rfl, hz, fun l hl => k F _ _ (.r l) _ (Sm.refl F) (newMut R hl (reps_strs _)) (show V.ref l = V.ref l from rfl) (q l (R.freeS hl))⟩
end
/-! ### texts joined -/
def rJoin (K : PySem.W.Frag) : V → List V → Hp → VK → Prop := fun x xs H Q => ∃ a p, ∃ ys : List Str, x = .str a ∧ xs = [.ref p] ∧ (SqL K H p (ys.map V.str) ∨ SqT K H p (ys.map V.str)) ∧
      (ys.map (·.length)).sum + ys.length * a.length ≤ 16777216 ∧ Q (.str (Txt.join a ys)) H
section
variable {X : Cx} {Ex : WX} {o e : Expr} {to te : TE3} {name : Str} {apos pos : Pos} {id : String} {r3 : RM3} {r : V → List V → Hp → VK → Prop}
/-- text.name(e), text.name() -/
def tSM3 (g : RM3) (to ta : TE3) : TE3 := fun τ S Q => to τ S fun w S1 => (∃ z, w = .str z) ∧ ta τ S1 fun u S2 => g w [u] S2 Q
def tSN3 (g : RM3) (to : TE3) : TE3 := fun τ S Q => to τ S fun w S1 => (∃ z, w = .str z) ∧ g w [] S1 Q
theorem pe3_sm1 (slot : Slot "str" name id) (hty : typeOf (.builtin id) = pure (.type "method_descriptor")) (hm : MtR X id r) (l : MtL X.K r3 r) (ho : PE X o (LE X.K Ex to)) (he : PE X e (LE X.K Ex te))
    (h1 : starEach [e] X.env = [(false, eval e X.env)] := by rfl) (h2 : attributeBase o name X.env (eval o X.env) = eval o X.env := by rfl) (h3 : (apos.endLine == pos.line) = true := by rfl) :
    PE X (.Call (.Attribute o name apos) [e] [] pos) (LE X.K Ex (tSM3 r3 to te)) :=
  pe_imp (pe_m1 slot hty hm ho he h1 h2 h3) fun σ H Q ⟨F, S, τ, Q3, R, Ev, h, k⟩ => ⟨F, S, τ, _, R, Ev, h, fun F1 S1 H1 w x s1 R1 r1 ⟨⟨z, hz⟩, q1⟩ => by
    subst hz
    cases rep_str r1
    exact ⟨⟨z, rfl⟩, F1, S1, τ, _, R1, Ev.mono s1, q1, fun F2 S2 H2 u y s2 R2 r2 q2 => l F2 S2 H2 _ [u] _ [y] Q3 Q R2 mk_str (.cons r2 .nil) q2 (k.mono (s1.trans s2))⟩⟩
theorem pe3_sm0 (slot : Slot "str" name id) (hty : typeOf (.builtin id) = pure (.type "method_descriptor")) (hm : MtR X id r) (l : MtL X.K r3 r) (ho : PE X o (LE X.K Ex to))
    (h2 : attributeBase o name X.env (eval o X.env) = eval o X.env := by rfl) (h3 : (apos.endLine == pos.line) = true := by rfl) :
    PE X (.Call (.Attribute o name apos) [] [] pos) (LE X.K Ex (tSN3 r3 to)) :=
  pe_imp (pe_m0 slot hty hm ho h2 h3) fun σ H Q ⟨F, S, τ, Q3, R, Ev, h, k⟩ => ⟨F, S, τ, _, R, Ev, h, fun F1 S1 H1 w x s1 R1 r1 ⟨⟨z, hz⟩, q1⟩ => by
    subst hz
    cases rep_str r1
    exact ⟨⟨z, rfl⟩, l F1 S1 H1 _ [] _ [] Q3 Q R1 mk_str .nil q1 (k.mono s1)⟩⟩
end
section
variable {K : PySem.W.Frag}
def gJoin : RM3 := fun w ws S Q => ∃ (z : Str) (ys : List Str) (u : W), w = .str z ∧ ws = [u] ∧ itemsW S u = some (ys.map PyData.str) ∧ (ys.map (·.length)).sum + ys.length * z.length ≤ 16777216 ∧ Q (.str (Txt.join z ys)) S
theorem l_join : MtL K gJoin (rJoin K) := fun F S H w ws x vs Q3 Q R rw rs ⟨z, ys, u, e1, e2, hi, hz, q⟩ k => by
  subst e1 e2
  obtain ⟨v, rfl, rv⟩ := ws1 rs
  cases rep_str rw
  obtain ⟨a, us, rfl, hs, ha, _⟩ := items_rep R rv hi
  have e3 := strs_of ha
  subst e3
  exact ⟨z, a, ys, rfl, rfl, hs.imp id And.left, hz, k F S H _ _ (Sm.refl F) R mk_str q⟩
def gUpper : RM3 := fun w ws S Q => ∃ z : Str, w = .str z ∧ ws = [] ∧ z.length ≤ 5592405 ∧ Q (.str (Txt.upper z)) S
theorem l_upper : MtL K gUpper (fun x xs H Q => ∃ a, x = .str a ∧ xs = [] ∧ a.length ≤ 5592405 ∧ Q (.str (Txt.upper a)) H) := fun F S H w ws x vs Q3 Q R rw rs ⟨z, e1, e2, hz, q⟩ k => by
  subst e1 e2
  cases rs
  cases rep_str rw
  exact ⟨z, rfl, rfl, hz, k F S H _ _ (Sm.refl F) R mk_str q⟩
end
/-! ### tuples many times -/
section
theorem tup_mul_same (p : Addr) (its : Array Value) (n : Nat) (dd : Option Addr) (sl : Array (Option Value)) (x : Int) (u : Tok) (c0 : (decide (x < -(2 ^ 63)) || decide (x ≥ 2 ^ 63)) = false) (c1 : (its.isEmpty || x == 1) = true) :
    Meets (Builtin.«tuple.__mul__» ⟨[.ref p, .int x u], []⟩) (fun _ R s => s.heap.get? p = some { cls := .type "tuple", dict := dd, data := .seq its n, slots := sl } ∧ R (.ok (.ret (Value.ref p))) s) :=
  .of_wp fun P V A R st z => by
    obtain ⟨s1, s2, s3, s4, s5⟩ := st
    obtain ⟨at_p, h⟩ := z
    have f1 := AutoSeq1.idx_int
    wp_walk using wpAny_loadPart' at_p
    repeat (first
      | (refine wpAny_ite_false (decide_eq_false (by rw [c0]; exact Bool.false_ne_true)) ?_; wp_walk using wpAny_loadPart' at_p)
      | (refine wpAny_ite_true (decide_eq_true c1) ?_; wp_walk using wpAny_loadPart' at_p))
    exact ⟨_, rfl, h⟩
theorem tup_mul_none (p : Addr) (its : Array Value) (n : Nat) (dd : Option Addr) (sl : Array (Option Value)) (x : Int) (u : Tok) (c0 : (decide (x < -(2 ^ 63)) || decide (x ≥ 2 ^ 63)) = false) (c1 : (its.isEmpty || x == 1) = false) (c2 : (decide (x ≤ 0) || its.isEmpty) = true) :
    Meets (Builtin.«tuple.__mul__» ⟨[.ref p, .int x u], []⟩) (fun _ R s => s.heap.get? p = some { cls := .type "tuple", dict := dd, data := .seq its n, slots := sl } ∧
      R (.ok (.ret (Value.ref s.heap.objs.size))) { s with heap := s.heap.push { cls := Value.type "tuple", data := Data.seq #[] }, toks := s.toks }) :=
  .of_wp fun P V A R st z => by
    obtain ⟨s1, s2, s3, s4, s5⟩ := st
    obtain ⟨at_p, h⟩ := z
    have f1 := AutoSeq1.idx_int
    wp_walk using wpAny_loadPart' at_p
    repeat (first
      | (refine wpAny_ite_false (decide_eq_false (by rw [c0]; exact Bool.false_ne_true)) ?_; wp_walk using wpAny_loadPart' at_p)
      | (refine wpAny_ite_false (decide_eq_false (by rw [c1]; exact Bool.false_ne_true)) ?_; wp_walk using wpAny_loadPart' at_p)
      | (refine wpAny_ite_true (decide_eq_true c2) ?_; wp_walk using wpAny_loadPart' at_p))
    exact ⟨_, rfl, h⟩
end
section
variable {X : Cx}
/-- tuple * int -/
def rRepN (K : PySem.W.Frag) : R2 := fun x y H Q => ∃ l k xs, x = .ref l ∧ y = .int k ∧ SqT K H l xs ∧ -1000000 ≤ k ∧ k ≤ 1000 ∧ xs.length ≤ 1000 ∧ (xs = [] ∨ k = 1 → Q (.ref l) H) ∧ (xs ≠ [] → k ≠ 1 → NewT Q (List.replicate k.toNat xs).flatten H)
theorem op_repN : OpR X (binaryOp .Mult) (rRepN X.K) := by
  rintro pins s σ H x y v u Q I rx ry ⟨l, k, xs, rfl, rfl, hT, k0, k1, hz, qs, qn⟩
  cases rx
  obtain ⟨t, rfl⟩ := ry
  obtain ⟨its, r, ⟨⟨cl, dd, dat, sl⟩, ho, e1, n, e2⟩, _⟩ := I.tuple hT
  simp only at e1 e2
  subst e1 e2
  have big : (decide (k < -(2 ^ 63)) || decide (k ≥ 2 ^ 63)) = false := by
    rw [decide_eq_false (by omega), decide_eq_false (by omega)]; rfl
  have wide : its.toArray.size = xs.length := by rw [List.size_toArray, r.length]
  have em : its.toArray.isEmpty = decide (xs = []) := by
    cases r with
    | nil => rfl
    | cons a b => rfl
  refine wpAny_binaryOp_repeat_ref (T := "tuple") (U := "int") (by decide) ⟨_, ho, rfl⟩ (fun s' => typeIs_int s' k t) noFill_tuple_mul F.fills_int_mul F.slot_int_rmul repeat_tuple F.slot_int_index.lookup (call_meets F.slot_int_rmul (typeIs_int s k t) F.entry_int_rmul (F.args_int_rmul_2 _ _) (int_rmul_tuple k t l its.toArray n dd sl) ⟨ho, rfl, ⟨_, ho, rfl⟩, ?_⟩)
  by_cases same : xs = [] ∨ k = 1
  · have c1 : (its.toArray.isEmpty || k == 1) = true := by
      rw [em]
      rcases same with e | e
      · rw [decide_eq_true e]; rfl
      · rw [beq_iff_eq.mpr e, Bool.or_true]
    exact (call_meets F.slot_tuple_mul ⟨_, ho, rfl⟩ F.entry_tuple_mul (F.args_tuple_mul_2 _ _) (tup_mul_same l its.toArray n dd sl k t big c1) ⟨ho, .ref l, H, I, rfl, qs same⟩)
  · have ne : xs ≠ [] := fun e => same (.inl e)
    have n1 : k ≠ 1 := fun e => same (.inr e)
    have c1 : (its.toArray.isEmpty || k == 1) = false := by rw [em, decide_eq_false ne, beq_eq_false_iff_ne.mpr n1]; rfl
    by_cases neg : k ≤ 0
    · have c2 : (decide (k ≤ 0) || its.toArray.isEmpty) = true := by rw [decide_eq_true neg]; rfl
      refine (call_meets F.slot_tuple_mul ⟨_, ho, rfl⟩ F.entry_tuple_mul (F.args_tuple_mul_2 _ _) (tup_mul_none l its.toArray n dd sl k t big c1 c2) ⟨ho, ?_⟩)
      have q := qn ne n1
      rw [show k.toNat = 0 by omega] at q
      exact ⟨.ref _, _, laidT (xs := []) (its := #[]) (s := s) (t' := s.toks) I .nil (Nat.zero_le _), rfl, q _ _ I.fresh tobj_no⟩
    · have c2 : (decide (k ≤ 0) || its.toArray.isEmpty) = false := by rw [em, decide_eq_false neg, decide_eq_false ne]; rfl
      have m : ((its.toArray.size : Nat) : Int) * k ≤ 1000000 := by
        rw [wide]
        have up : ((xs.length : Nat) : Int) * k ≤ 1000 * k := Int.mul_le_mul_of_nonneg_right (by omega) (by omega)
        omega
      have many : Builtin.Tuple.tupleTooMany (((its.toArray.size : Nat) : Int) * k) = false := by
        unfold Builtin.Tuple.tupleTooMany; rw [sizeLine_eq]; exact decide_eq_false (by omega)
      have small : k.toNat * xs.length ≤ sizeLine := by
        rw [sizeLine_eq]; have a1 : k.toNat * xs.length ≤ 1000 * 1000 := Nat.mul_le_mul (by omega) hz; omega
      have sz : (List.foldl (fun x1 x2 => x1 ++ x2) #[] (List.replicate k.toNat its.toArray)).size ≤ sizeLine := by
        rw [size_rep, List.size_toArray, PyProof.Rows.lm_len_rep_flat, ← r.length]; exact small
      refine (call_meets F.slot_tuple_mul ⟨_, ho, rfl⟩ F.entry_tuple_mul (F.args_tuple_mul_2 _ _) (tuple_mulW l its.toArray n dd sl k t big c1 c2 (by omega) many sz) ⟨ho, ?_⟩)
      rw [size_rep]
      exact ⟨.ref _, _, laidT (xs := (List.replicate k.toNat xs).flatten) (its := (List.replicate k.toNat its).flatten.toArray) (s := s) (t' := s.toks) I (by simpa using r.rep k.toNat) (by rw [PyProof.Rows.lm_len_rep_flat]; exact small), rfl, qn ne n1 _ _ I.fresh tobj_no⟩
end
section
variable {K : PySem.W.Frag}
theorem dpAll_rep {F : Hp} {vs : List V} {ds : List PyData} (h : DpAll K F vs ds) : ∀ n, DpAll K F (List.replicate n vs).flatten (List.replicate n ds).flatten
  | 0 => .nil
  | n + 1 => by
    simp only [List.replicate_succ, List.flatten_cons]
    exact dpAll_app h (dpAll_rep h n)
def gRepT : R3 := fun w u S Q => ∃ (ds : List PyData) (k : Int), w = .tup ds ∧ u = .int k ∧ -1000000 ≤ k ∧ k ≤ 1000 ∧ ds.length ≤ 1000 ∧ Q (.tup (List.replicate k.toNat ds).flatten) S
theorem l_repT : OpL K gRepT (rRepN K) := fun F S H w u x y Q3 Q R rw' ru ⟨ds, n, e1, e2, k0, k1, hz, q⟩ k => by
  subst e1 e2
  obtain ⟨_, a, vs, rfl, hs, ha⟩ := tup_rep R rw' rfl
  cases rep_int ru
  refine ⟨a, n, vs, rfl, rfl, hs, k0, k1, by rw [dpAll_len ha]; exact hz, fun same => ?_, fun _ _ p o hp no => ?_⟩
  · have e : (List.replicate n.toNat ds).flatten = ds := by
      rcases same with e | e
      · subst e
        cases ha
        simp
      · subst e; simp
    rw [e] at q
    exact k F S H _ _ (Sm.refl F) R rw' q
  · obtain ⟨s, R', rr⟩ := newTup R hp no (dpAll_rep ha n.toNat)
    exact k _ S _ _ _ s R' rr q
end
/-! ### a comprehension over a list that is changed later: it is hidden meanwhile -/
section
variable {K : PySem.W.Frag} {F : Fz} {S : Sto} {H : Hp}
theorem Rel.hideS (R : Rel K F S H) {a : Addr} {ws : List W} {xs : List V} (h : S a = some (.lst ws)) (hx : H a = some (.lst xs)) : Rel K ⟨upd F.g a (.lst xs), F.f⟩ (drp S a) H ∧ F.g a = none := by
  have ga := (R.st a _ h).1
  refine ⟨⟨fun b u e => ?_, fun b u e => ?_, fun b u e => ?_⟩, ga⟩
  · obtain ⟨h1, h2, h3⟩ := R.fz b u e
    have ne : b ≠ a := by rintro rfl; rw [h2] at h; cases h
    refine ⟨h1, by rw [drp_ne ne]; exact h2, ?_⟩
    show upd F.g a _ b = none
    rw [upd_ne ne]; exact h3
  · by_cases ne : b = a
    · subst ne; rw [drp_same] at e; cases e
    · rw [drp_ne ne] at e
      obtain ⟨g, v, hv, r⟩ := R.st b u e
      refine ⟨?_, v, hv, repO_g r⟩
      show upd F.g a _ b = none
      rw [upd_ne ne]; exact g
  · have e : upd F.g a (.lst xs) b = some u := e
    by_cases ne : b = a
    · subst ne; rw [upd_same] at e; cases e; exact hx
    · rw [upd_ne ne] at e; exact R.hd b u e
end
theorem le_lcT {K : PySem.W.Frag} {Ex : WX} {s : TE3} {g3 : TG3} {g : TG} {tt : TT3} {te : TE3} {vs : List Nat} {Qe : K3 → List W → Sto → Prop} (lg : LGL K EN g3 g) (wp : Wp g vs)
    (fin : ∀ (F F' : Fz) (S' : Sto) (H' : Hp) (D : Addr) (xs : List V) (us : List W) (Q3 : K3) (Q : VK), F.g D = none → Same F.f F'.f → F'.g = upd F.g D (.lst xs) → Rel K F' S' H' → RepWs K F' us xs → Qe Q3 us S' → KE K F Q3 Q → Q (.ref D) H') :
    ∀ σ H Q, LE K Ex (fun τ S Q => s τ S fun w S1 => ∃ a ws, w = .r a ∧ S1 a = some (.lst ws) ∧ ws.length ≤ 1000000 ∧ lcGo g3 tt te ⟨wipe3 τ.sl vs, XN⟩ ws [] (drp S1 a) (Qe fun w S2 => Q w (put S2 a (.lst ws)))) σ H Q → tLc (iSeq K (LE K Ex s)) g (LT K EN tt) (LE K EN te) vs σ H Q :=
  fun σ H Q ⟨F, S, τ, Q3, R, Ev, h, k⟩ => ⟨F, S, τ, _, R, Ev, h, fun F0 S0 H1 w x s0 R0 r0 ⟨a, ws, ew, hs, hz, h1⟩ => by
    subst ew
    obtain ⟨src, hsrc, rsrc⟩ := rd_lst R0 hs
    obtain ⟨R1, ga⟩ := Rel.hideS R0 hs hsrc
    have lw : ws.length = src.length := Paired.length rsrc
    refine ⟨a, r0, .inl ⟨⟨src, .inl (.inl hsrc)⟩, ?_⟩⟩
    intro D hD
    have Da : a ≠ D := by rintro rfl; rw [hsrc] at hD; cases hD
    have gD : upd F0.g a (.lst src) D = none := R1.freeG hD
    have see : ∀ {F' S' H' xs}, Rel K F' S' H' → F'.g = upd (upd F0.g a (.lst src)) D (.lst xs) → H' a = some (.lst src) := fun R' e => R'.hd a _ (by rw [e, upd_ne Da, upd_same])
    have k1 : KE K ⟨upd F0.g a (.lst src), F0.f⟩ (fun w S2 => Q3 w (put S2 a (.lst ws))) Q := fun F2 S2 H2 w v s2 R2 r2 q => by
      have g2 : F2.g = upd F0.g a (.lst src) := s2.g
      obtain ⟨R3, _⟩ := R2.showS (q0 := .lst ws) ga g2 ⟨src, rfl, Paired.mapP rsrc fun _ _ z => z.mono1 s2.f⟩
      exact k ⟨F0.g, F2.f⟩ _ H2 w v (s0.trans ⟨rfl, s2.f⟩) R3 (repW_g r2) q
    refine ⟨fun i m H' => ∃ F' S' xs us, Same F0.f F'.f ∧ F'.g = upd (upd F0.g a (.lst src)) D (.lst xs) ∧ Rel K F' S' H' ∧ RepWs K F' us xs ∧ xs.length ≤ i ∧ m = ws.length - i ∧ i ≤ ws.length ∧ lcGo g3 tt te ⟨wipe3 τ.sl vs, XN⟩ (ws.drop i) us S' (Qe fun w S2 => Q3 w (put S2 a (.lst ws))), ⟨ws.length, ⟨upd (upd F0.g a (.lst src)) D (.lst []), F0.f⟩, drp S0 a, [], [], fun _ _ e => e, rfl, R1.hide hD, .nil, Nat.le_refl _, rfl, Nat.zero_le _, h1⟩, ?_⟩
    rintro i m H' ⟨F2, S2, xs, us, s2, g2, R2, r2, hl, rfl, hi, h2⟩
    have at_a := see R2 g2
    by_cases hlt : i < ws.length
    · rw [List.drop_eq_getElem_cons hlt] at h2
      refine .inr ⟨⟨src, src[i]'(by omega), .inl (.inl at_a), List.getElem?_eq_getElem (by omega)⟩, fun H3 => ∃ F' S' xs us, Same F0.f F'.f ∧ F'.g = upd (upd F0.g a (.lst src)) D (.lst xs) ∧ Rel K F' S' H3 ∧ RepWs K F' us xs ∧ xs.length ≤ i + 1 ∧ lcGo g3 tt te ⟨wipe3 τ.sl vs, XN⟩ (ws.drop (i + 1)) us S' (Qe fun w S2 => Q3 w (put S2 a (.lst ws))), ?_, fun x H3 hy => ?_⟩
      · rintro H3 ⟨F', S', xs', us', q1, q2, q3, q4, q5, q6⟩
        exact ⟨ws.length - (i + 1), by omega, F', S', xs', us', q1, q2, q3, q4, q5, rfl, hlt, q6⟩
      · obtain ⟨e3, y3⟩ := hy
        subst e3
        have hx := y3 src (.inl (.inl at_a))
        obtain ⟨v, hv, rv⟩ := rep_get rsrc (List.getElem?_eq_getElem hlt)
        rw [hx] at hv
        cases hv
        have r3 : RepW K F2 ws[i] x := rv.mono1 s2
        have Ev3 : EnvR K F2 EN ⟨wipe3 τ.sl vs, XN⟩ (wipe σ vs) := ⟨sle_g (s0.f.trans s2) (sl_wipe Ev.sl vs), fun _ _ _ _ _ _ _ _ _ _ _ _ _ _ z => z.elim⟩
        have z := lg F2 S2 ⟨wipe3 τ.sl vs, XN⟩ _ x (wipe σ vs) H3 _ (fun σ2 H2 => LT K EN tt σ2 H2 fun b H3 => if b = true then LE K EN te σ2 H3 fun y H4 => ∃ acc, H4 D = some (.lst acc) ∧ acc.length < sizeLine ∧ (∃ F' S' xs us, Same F0.f F'.f ∧ F'.g = upd (upd F0.g a (.lst src)) D (.lst xs) ∧ Rel K F' S' (upd H4 D (.lst (acc ++ [y]))) ∧ RepWs K F' us xs ∧ xs.length ≤ i + 1 ∧ lcGo g3 tt te ⟨wipe3 τ.sl vs, XN⟩ (ws.drop (i + 1)) us S' (Qe fun w S2 => Q3 w (put S2 a (.lst ws))))
          else ∃ F' S' xs us, Same F0.f F'.f ∧ F'.g = upd (upd F0.g a (.lst src)) D (.lst xs) ∧ Rel K F' S' H3 ∧ RepWs K F' us xs ∧ xs.length ≤ i + 1 ∧ lcGo g3 tt te ⟨wipe3 τ.sl vs, XN⟩ (ws.drop (i + 1)) us S' (Qe fun w S2 => Q3 w (put S2 a (.lst ws)))) R2 Ev3 r3 h2
          fun F4 S4 H4 τ4 σ4 s4 R4 Ev4 h4 => ⟨F4, S4, τ4, _, R4, Ev4, h4, fun F5 S5 H5 b s5 R5 ⟨h5, h6⟩ => by
            have g5 : F5.g = upd (upd F0.g a (.lst src)) D (.lst xs) := by rw [s5.g, s4.g, g2]
            have sf : Same F2.f F5.f := s4.f.trans s5.f
            cases b with
            | true =>
              refine iteT ⟨F5, S5, τ4, _, R5, Ev4.mono s5, h5 rfl, fun F6 S6 H6 y v s6 R6 r6 h7 => ?_⟩
              have g6 : F6.g = upd (upd F0.g a (.lst src)) D (.lst xs) := by rw [s6.g, g5]
              have gd : F6.g D = some (.lst xs) := by rw [g6, upd_same]
              refine ⟨xs, R6.hd D _ gd, Nat.lt_of_le_of_lt (Nat.le_trans hl (Nat.le_trans hi hz)) (by decide), ⟨upd F6.g D (.lst (xs ++ [v])), F6.f⟩, S6, xs ++ [v], us ++ [y], s2.trans (sf.trans s6.f), ?_, R6.rehide gd, ?_, by rw [List.length_append, List.length_singleton]; omega, h7⟩
              · show upd F6.g D _ = _
                rw [g6, upd_upd]
              · have r6' : RepW K ⟨upd F6.g D (.lst (xs ++ [v])), F6.f⟩ y v := repW_g r6
                exact rep_app (Paired.mapP r2 fun _ _ q => repW_g (q.mono1 (sf.trans s6.f))) (.cons r6' .nil)
            | false => exact iteF ⟨F5, S5, xs, us, s2.trans sf, g5, R5, Paired.mapP r2 fun _ _ q => q.mono1 sf, by omega, h6 rfl⟩⟩
        have z2 := wp _ _ _ _ z
        have e0 : wipe (wipe σ vs) vs = wipe σ vs := by
          have : ∀ us : List Nat, (∀ u ∈ us, u ∈ vs) → wipe (wipe σ us) vs = wipe σ vs := fun us => by
            induction us with
            | nil => intro _; rfl
            | cons u us ih =>
              intro hu
              show wipe ((wipe σ us).set u none) vs = _
              rw [wipe_set (hu u List.mem_cons_self)]
              exact ih fun q hq => hu q (List.mem_cons_of_mem _ hq)
          exact this vs fun _ h => h
        rw [e0] at z2
        exact z2
    · have e : i = ws.length := by omega
      subst e
      rw [List.drop_length] at h2
      exact .inl ⟨⟨src, .inl (.inl at_a), by omega⟩, fin ⟨upd F0.g a (.lst src), F0.f⟩ F2 S2 H' D xs us _ Q gD s2 g2 R2 r2 h2 k1⟩⟩
section
variable {X : Cx} {Ex : WX} {elt tg iter : Expr} {ifs : List Expr} {scope : Scope} {pos : Pos} {s : TE3} {g3 : TG3} {g : TG} {tt : TT3} {te : TE3}
/-- the list walked is one that is changed later -/
def tLcTD3 (s : TE3) (g : TG3) (tt : TT3) (te : TE3) (vs : List Nat) : TE3 := fun τ S Q => s τ S fun w S1 => ∃ a ws, w = .r a ∧ S1 a = some (.lst ws) ∧ ws.length ≤ 1000000 ∧ lcGo g tt te ⟨wipe3 τ.sl vs, XN⟩ ws [] (drp S1 a) fun us S2 => ∃ ds : List PyData, us = ds.map W.d ∧ Q (.lst ds) (put S2 a (.lst ws))
theorem pe3_lcTD (own : List (Str × Nat)) (hc : X.calm = true) (hN : X.N.Nodup) (hi : PE X iter (LE X.K Ex s)) (ok : BlkOk X.N X.env.scope scope own) (lg : LGL X.K EN g3 g) (wp : Wp g (own.map (·.2)))
    (hg : ∀ (s : Shared) (H : Hp) (C : Addr) (cl : List (Str × Addr)) (fp : List Addr), PG (X.blk s H scope (compEnvC scope cl C X.env) fp) tg g)
    (ht : ∀ (s : Shared) (H : Hp) (C : Addr) (cl : List (Str × Addr)) (fp : List Addr), PTs (X.blk s H scope (compEnvC scope cl C X.env) fp) ifs (LT X.K EN tt))
    (he : ∀ (s : Shared) (H : Hp) (C : Addr) (cl : List (Str × Addr)) (fp : List Addr), PE (X.blk s H scope (compEnvC scope cl C X.env) fp) elt (LE X.K EN te)) (hs : ∀ x, foldedSetIterable iter X.env x = pure x := by intro _; rfl) :
    PE X (.ListComp elt [⟨tg, iter, ifs, 0⟩] scope pos) (LE X.K Ex (tLcTD3 s g3 tt te (own.map (·.2)))) := pe_imp (pe_lc hc hN (pi_seq hi) ok hg ht he hs) (le_lcT lg wp fin_D)
end
end H3

/-! H3M: sorted(set(xs)) of any number of tuples of ints, few of them unlike. -/
namespace H3
open PySem PySem.Spec L2
open PyProof.Rows hiding St
section
variable {prog : Program} {w : World} {A : Around} {s : Shared} {E : Value → Shared → Prop}
theorem got_few {ks L : List (Addr × List Int)} {U : List (List Int)} {i : Nat} (g : Got ks i L) (nd : (L.map (·.2)).Nodup) (few : U.length ≤ 62) (inU : ∀ p ∈ ks, p.2 ∈ U) : L.length ≤ 62 := by
  have z := nd.length_le_of_subset (l₂ := U) fun k hk => by
    obtain ⟨p, hp, rfl⟩ := List.mem_map.mp hk
    exact inU p (List.mem_of_mem_take (g.sub p hp))
  rw [List.length_map] at z
  omega
theorem set_loopU {I : Addr} {fp wr : List Addr} {G : Array GenState → Array GenState → Prop} {n : Nat} {Pv : Nat → Value → Prop} {St : Nat → Shared → Prop} {R : Result → Shared → Prop}
    (W : WalksS prog w A.in1 I fp wr G n Pv St) (D : Addr) (far : D ∉ fp) (ks : List (Addr × List Int)) (U : List (List Int)) (few : U.length ≤ 62) (inU : ∀ p ∈ ks, p.2 ∈ U) (hn : n = ks.length) (val : ∀ i v, Pv i v → ∃ p, ks[i]? = some p ∧ v = .ref p.1)
    (h0 : Heap) (tup : ∀ p ∈ ks, IsT prog w h0 p.2 p.1) (new : h0.get? D = none) (wr0 : ∀ b ∈ wr, h0.get? b = none) (hu : A.in1.units < cLine) :
    ∀ (m j : Nat) (z : Shared), n - j = m → j ≤ n → St j z → (∀ b o, h0.get? b = some o → z.heap.get? b = some o) → (∃ L es ep t, SetTR prog w z.heap D L es ep t ∧ Got ks j L) →
      (∀ z' L es ep t, Moved (D :: wr) G z z' → SetTR prog w z'.heap D L es ep t → Got ks n L → (∀ b o, h0.get? b = some o → z'.heap.get? b = some o) → R (.ok (.ret .none)) z') →
      codeAny (model prog w) A (.builtin "set.update.loop" ⟨[.ref D, .ref I], []⟩) R z := by
  have Dw : D ∉ wr := fun b => far (W.sub _ b)
  have wider : ∀ b ∈ wr, b ∈ D :: wr := fun b hb => List.mem_cons_of_mem _ hb
  have stay : ∀ {z z' : Shared}, Moved wr G z z' → (∀ b o, h0.get? b = some o → z.heap.get? b = some o) → ∀ b o, h0.get? b = some o → z'.heap.get? b = some o := fun mv kp b o e =>
    mv.heap b o (fun y => by rw [wr0 b y] at e; cases e) (kp b o e)
  intro m
  induction m with
  | zero =>
    intro j z hm hj st kp ⟨L, es, ep, t, S0, g⟩ hR
    have e : j = n := by omega
    subst e
    refine codeAny_builtin F.entry_set_update_loop ?_; rw [Around.under_plainId F.plain_set_update_loop _]
    refine wpAny_bind (W.done z _ _ st fun z' mv => ?_)
    have kp' := stay mv kp
    have low : ∀ q ∈ L, q ∈ ks := fun q hq => List.mem_of_mem_take (g.sub q hq)
    exact wpAny_pure (hR z' L es ep t (mv.mono wider) (S0.keep (fun o e => mv.heap D o Dw e) fun p hp => isT_keep (tup p (low p hp)) kp') g kp')
  | succ m ih =>
    intro j z hm hj st kp ⟨L, es, ep, t, S0, g⟩ hR
    have lt : j < n := by omega
    refine codeAny_builtin F.entry_set_update_loop ?_; rw [Around.under_plainId F.plain_set_update_loop _]
    refine wpAny_bind (W.item j z _ _ lt st fun v z' pv st' mv => ?_)
    obtain ⟨p, hp, rfl⟩ := val j v pv
    have kp' := stay mv kp
    have low : ∀ q ∈ L, q ∈ ks := fun q hq => List.mem_of_mem_take (g.sub q hq)
    have S1 : SetTR prog w z'.heap D L es ep t := S0.keep (fun o e => mv.heap D o Dw e) fun q hq => isT_keep (tup q (low q hq)) kp'
    have x1 : IsT prog w z'.heap p.2 p.1 := isT_keep (tup p (List.mem_of_getElem? hp)) kp'
    have l62 := got_few g S1.nd few inU
    refine wpAny_bind (wpAny_holding ?_); unfold setAdd; refine wpAny_holding (wpAny_bind (wpAny_pyHash_tuple hu x1 ?_))
    refine add_at (s := { z' with toks := z'.toks + (p.2.length + 1) }) S1 x1 hu (by omega) fun b h' L' es' ep' t' sb S2 c1 c2 => ?_
    have g2 : Got ks (j + 1) L' := by
      by_cases c : p.2 ∈ L.map (·.2)
      · rw [c1 c]; exact Got.same g hp c
      · exact Got.more g hp (c2 c)
    have kp2 : ∀ b o, h0.get? b = some o → h'.get? b = some o := fun b o e => (sb.2 b (fun y => by rw [y, new] at e; cases e)).trans (kp' b o e)
    refine wpAny_pure ⟨plainId_quiet F.plain_set_update_loop _, ih (j + 1) _ (by omega) lt (W.frame _ z' _ _ st' (Nat.le_add_right _ _) fun b hb o e => ?_) kp2 ⟨L', es', ep', t', S2, g2⟩ fun z2 L2 es2 ep2 t2 mv2 S3 g3 kp3 => ?_⟩
    · rw [sb.2 b (fun y : b = D => far (by rw [← y]; exact hb))]; exact e
    · refine hR z2 L2 es2 ep2 t2 (Moved.trans W.gtrans ((mv.mono wider).then_heap (Nat.le_add_right _ _) fun b o hb e => ?_) mv2) S3 g3 kp3
      rw [sb.2 b (fun y : b = D => hb (by rw [y]; exact List.mem_cons_self))]; exact e
set_option maxHeartbeats 6000000 in
/-- set(a list of tuples of ints) -/
theorem call_set_lstT {l : Addr} {items : Array Value} (ks : List (Addr × List Int)) (U : List (List Int)) {Q : Value → Shared → Prop} (hh : A.handled = none) (hl : s.heap.IsList l items) (are9 : items.toList = ks.map fun p => Value.ref p.1) (tup9 : ∀ p ∈ ks, IsT prog w s.heap p.2 p.1) (few9 : U.length ≤ 62) (in9 : ∀ p ∈ ks, p.2 ∈ U) (hu : A.units + 3 < cLine)
    (h : ∀ (h9 : Heap) (tk : Nat) L es ep t, SetTR prog w h9 s.heap.objs.size L es ep t → Got ks ks.length L → (∀ b o, s.heap.get? b = some o → h9.get? b = some o) → Q (.ref s.heap.objs.size) { s with heap := h9, toks := tk }) :
    wpAny (model prog w) A (call (Value.type "set") [.ref l]) Q E s := by
  have sz9 : items.size = ks.length := by
    have q9 := congrArg List.length are9
    rw [Array.length_toList, List.length_map] at q9; exact q9
  obtain ⟨c, tl, mro9⟩ := F.called_set.mro
  have made9 := F.called_set.made
  have sub9 := F.called_set.sub
  apply wpAny_call (codeAny_of_tree _)
  show wpAny _ _ (callAny (Value.type "set") _) _ _ _
  refine wpAny_pure (And.intro (Code.quiet_builtin _ (by decide +kernel)) (codeAny_builtin F.entry_type_call ?_))
  rw [Around.under_plain (weight_type_call_type "set" [Value.ref l] []) rfl]
  have n1 := F.called_set.notType
  have n2 := F.called_set.canCreate
  have tc9 := F.typeCall_set_1 (.ref l)
  repeat (any_goals (first | wp_step | assumption))

  refine codeAny_mono (code_set_led1 (.ref l) (E := E) (Q₁ := fun obj s₁ => obj = .ref s.heap.objs.size ∧ s₁ = { s with heap := s.heap.push (set0 w) }) ⟨rfl, rfl⟩) fun r s₁ hr => ?_
  cases r with
  | error e => exact hr
  | ok fl =>
    cases fl with
    | ret obj =>
      obtain ⟨rfl, rfl⟩ := hr
      have at9 : (s.heap.push (set0 w)).get? s.heap.objs.size = some (set0 w) := Heap.get?_push_size _ rfl
      have ty9 : Shared.TypeIs { s with heap := s.heap.push (set0 w) } (.ref s.heap.objs.size) "set" := ⟨_, at9, rfl⟩
      have li9 := F.called_set.init.lookup
      have bi9 := F.called_set.init.bind (.ref s.heap.objs.size)
      repeat (any_goals (first | wp_step | assumption))

      refine codeAny_mono (codeAny_call_builtin (R := wants (fun r z₂ => r = .none ∧ ∃ h9 tk L es ep t, z₂ = { s with heap := h9, toks := tk } ∧ SetTR prog w h9 s.heap.objs.size L es ep t ∧ Got ks ks.length L ∧
          (∀ b o, s.heap.get? b = some o → h9.get? b = some o)) E) F.called_set.init.plain F.entry_set_init (check_set_init_1 ty9 ?_)) fun u₂ z₂ q₂ => ?_
      · obtain ⟨oo9, ol9, cl9, nl9, dl9⟩ := hl
        obtain ⟨oc9, odict, odata, oslots⟩ := oo9
        simp only at cl9 dl9
        subst cl9; subst dl9
        have ol9' : (s.heap.push (set0 w)).get? l = some { cls := .type "list", dict := odict, data := .seq items nl9, slots := oslots } := Heap.get?_push_of_some _ ol9
        have su9 := F.sub_list_set
        have sf9 := F.sub_list_frozenset
        have nd9 : (Value.type "list" == Value.type "dict") = false := by decide
        have il9 : (s.heap.push (set0 w)).IsList l items := ⟨_, ol9', rfl, nl9, rfl⟩
        unfold Builtin.«set.__init__» Builtin.Frozenset.updateFrom noKeywords
        generalize hPi9 : pyIter = Pi9
        wp_walk
        subst hPi9

        refine wpAny_pyIter_list il9 ?_
        apply wpAny_bind (wpAny_runValue _)
        have lt9 : l < s.heap.objs.size := Heap.lt_size ol9
        have hd9 : A.in1.in1.in1.handled = none := by simp [hh]
        have hz1 : (s.heap.push (set0 w)).objs.size = s.heap.objs.size + 1 := Heap.size_push ..
        have ne9 : l ≠ (s.heap.push (set0 w)).objs.size := by
          rw [Heap.size_push]; exact Nat.ne_of_lt (Nat.lt_succ_of_lt lt9)
        have nf9 : s.heap.objs.size ∉ [(s.heap.push (set0 w)).objs.size, l] := by
          simp only [Heap.size_push, List.mem_cons, List.mem_singleton, List.not_mem_nil, or_false, not_or]
          exact ⟨Nat.ne_of_lt (Nat.lt_succ_self _), Nat.ne_of_gt lt9⟩
        have val9 : ∀ (i : Nat) (v : Value), items[i]? = some v → ∃ p, ks[i]? = some p ∧ v = .ref p.1 := fun i v hv => by
          have e9 : items.toList[i]? = some v := by rw [Array.getElem?_toList]; exact hv
          rw [are9, List.getElem?_map] at e9
          cases e8 : ks[i]? with
          | none => rw [e8] at e9; cases e9
          | some p => rw [e8] at e9; exact ⟨p, rfl, (Option.some.inj e9).symm⟩
        have void9 : ∀ b, s.heap.objs.size ≤ b → s.heap.get? b = none := fun b le => by
          cases e8 : s.heap.get? b with
          | none => rfl
          | some o => exact absurd (Nat.lt_of_lt_of_le (Heap.lt_size e8) le) (Nat.lt_irrefl _)
        refine set_loopU ((Walks.list hd9 _ l ne9 items).toS) s.heap.objs.size nf9 ks U few9 in9 sz9 val9 s.heap tup9 (void9 _ (Nat.le_refl _)) (fun b hb => void9 b (by rw [List.mem_singleton.mp hb, Heap.size_push]; exact Nat.le_succ _)) hu (items.size - 0) 0 _ (by omega) (Nat.zero_le _)
          ⟨⟨_, Heap.get?_push_size _ rfl, rfl, rfl⟩, (il9.push _)⟩ (fun b o e => Heap.get?_push_of_some _ (Heap.get?_push_of_some _ e)) ?hS0 ?hR
        case hS0 =>
          have get9 : ((s.heap.push (set0 w)).push { cls := .type "list_iterator", data := .fields #[.ref l, .int 0 0] }).get? s.heap.objs.size
              = some (set0 w) := Heap.get?_push_of_some _ at9
          exact ⟨[], #[], 0, _, setTR_fresh get9, Got.zero ks⟩
        case hR =>
          intro s' L es ep t mv9 hc' g9 keep9
          obtain ⟨h9, g2, d', tk9, os'⟩ := s'
          have e1 : g2 = s.gens := mv9.gens
          have e2 : d' = s.drawn := mv9.drawn
          have e3 : os' = s.os := mv9.os
          subst e1; subst e2; subst e3
          change wpAny _ _ _ _ _ _
          apply wpAny_pure
          show wpAny _ _ (ret .none) _ _ _
          rw [sz9] at g9
          exact wpAny_pure ⟨rfl, h9, tk9, L, es, ep, t, rfl, hc', g9, keep9⟩

      · cases u₂ with
        | error e => exact q₂
        | ok fl₂ =>
          cases fl₂ with
          | ret r =>
            obtain ⟨rfl, h9, tk, L, es, ep, t, rfl, at9', hc', hk'⟩ := q₂
            repeat (any_goals (first | wp_step | assumption))
            exact h _ _ _ _ _ _ at9' hc' hk'
          | _ => exact q₂.elim
    | _ => exact hr.elim
end
/-! ### the rule -/
section
variable {X : Cx} {Ex : WX} {a : Expr}
theorem sorted_rawT {pins : List (Addr × Obj)} {σ : L2.St} {H : Hp} {s : Shared} {D : Addr} {L : List (Addr × List Int)} {es : Array (Int × Value)} {ep tk d : Nat} {t : SetTable} {B : Int} {g : Heap} {Q : VK} (I : Inv X pins σ H s) (R : SetTR X.prog X.w g D L es ep t) (kp : ∀ b o, s.heap.get? b = some o → g.get? b = some o) (hD : s.heap.objs.size ≤ D) (hd : X.A.handled = none)
    (d1 : 1 ≤ d) (hB : ∀ p ∈ L, p.2.length = d ∧ TS.Bd B p.2)
    (q : ∀ (M : List (Addr × List Int)) (p : Addr), M.Perm L → (M.map (·.2)).Nodup → M.Pairwise (fun q r => TS.code B q.2 ≤ TS.code B r.2) → H p = none → Q (.ref p) (upd H p (.lst (M.map fun q => V.ref q.1)))) : wpAny (model X.prog X.w) X.A (call (.builtin "sorted") [.ref D]) (EP X pins σ Q) X.xe { s with heap := g, toks := tk } := by
  refine sorted_setT (s := { s with heap := g, toks := tk }) R hd d1 hB fun t2 p out c M k2 g2 o2 low hp hout pm pw => ?_
  have few : M.length < 64 := by rw [pm.length_eq]; exact R.few
  have small : (M.map fun q => V.ref q.1).length ≤ sizeLine := by rw [List.length_map, sizeLine_eq]; omega
  have all : ∀ b o, s.heap.get? b = some o → t2.heap.get? b = some o := fun b o z => k2 b o (kp b o z)
  obtain ⟨ob, hob, _⟩ := R.ob
  have far : s.heap.objs.size ≤ p := Nat.le_trans hD (Nat.le_trans (Nat.le_of_lt (Heap.lt_size hob)) low)
  have free : H p = none := I.hok.fresh far
  have J : Inv X pins σ (upd H p (.lst (M.map fun q => V.ref q.1))) { s with heap := t2.heap, gens := t2.gens, drawn := t2.drawn, toks := t2.toks } :=
    I.call (ch := []) (Un.laid all far free) (I.hok.laid all far ⟨small, out.toList, c, by rw [hout]; exact vals_of_refs M, hp⟩) (by rw [g2]; exact I.bare) (fun _ z => nomatch z)
  rw [GxR.sh_eta s t2 o2] at J
  exact ⟨.ref p, _, J, rfl, q M p pm ((pm.map (·.2)).nodup_iff.mpr R.nd) pw free⟩
/-- sorted(set(xs)), xs a list of tuples of d ints -/
def tSortSetT (K : PySem.W.Frag) (ta : TE) : TE := fun σ H Q => ta σ H fun v H1 => ∃ (l : Addr) (ks : List (Addr × List Int)) (U : List (List Int)) (d : Nat) (B : Int), v = .ref l ∧ SqL K H1 l (ks.map fun p => V.ref p.1) ∧ (∀ p ∈ ks, SqT K H1 p.1 (p.2.map V.int)) ∧ U.length ≤ 62 ∧ (∀ p ∈ ks, p.2 ∈ U) ∧ 1 ≤ d ∧ (∀ p ∈ ks, p.2.length = d ∧ TS.Bd B p.2) ∧
  ∀ (M : List (Addr × List Int)) (p : Addr), (∀ q ∈ M, q ∈ ks) → (∀ q ∈ ks, q.2 ∈ M.map (·.2)) → (M.map (·.2)).Nodup → M.Pairwise (fun q r => TS.code B q.2 ≤ TS.code B r.2) → H1 p = none → Q (.ref p) (upd H1 p (.lst (M.map fun q => V.ref q.1)))
theorem pe_sortSetT {ta : TE} {p p2 q pos : Pos} {k : Nat} (hr : Room k X.A) (hc : X.calm = true) (hg : Gl X "sorted") (hm : X.mg "sorted" = none) (hg2 : Gl X "set") (hm2 : X.mg "set" = none) (ha : PE X a ta) (hb : bootBuiltins "sorted" = some (.builtin "sorted") := by decide +kernel)
    (na : starEach [a] X.env = (false, eval a X.env) :: starEach [] X.env := by rfl) : PE X (.Call (.Name "sorted" p) [.Call (.Name "set" p2) [a] [] q] [] pos) (tSortSetT X.K ta) := by
  constructor
  intro pins s σ H _ I h
  refine Call_ (ld_blt I hg hm hb (callWith_builtin1 (args_cons (Call_ (ld_blt I hg2 hm2 boot_set (callWith_type1 (args_cons (thn (ha.run pins s σ H _ I h) ?_) na) na rfl))) rfl) rfl rfl))
  rintro v s1 ⟨x, H1, I1, r1, l, ks, U, d, B, rfl, hs, hk, few, inU, d1, hB, q1⟩
  cases (show v = .ref l from r1)
  have un := hr.un
  obtain ⟨its, rv, pl, _⟩ := I1.list hs
  refine args_nil (call_set_lstT (prog := X.prog) (w := X.w) ks U (I1.ok.hd hc) (show s1.heap.IsList l its.toArray from pl.isList) (by simpa using refs_of_vals rv) (fun p hp => I1.isT (hk p hp)) few inU (by omega) fun h9 tk L es ep t R g kp => args_nil (sorted_rawT I1 R kp (Nat.le_refl _) (I1.ok.hd hc) d1 (fun p hp => hB p (List.mem_of_mem_take (g.sub p hp))) fun M p pm nd pw free => q1 M p (fun q hq => List.mem_of_mem_take (g.sub q (pm.mem_iff.mp hq))) (fun q hq => ?_) nd pw free))
  rw [(pm.map (·.2)).mem_iff]
  exact g.all q (by rw [List.take_length]; exact hq)
end
/-! ### its reading -/
theorem keys_of {K : PySem.W.Frag} {F : Fz} : ∀ {as : List (List Nat)} {vs : List V}, DpAll K F.f vs (as.map ti) → ∃ ks : List (Addr × List Int), vs = (ks.map fun p => V.ref p.1) ∧ ks.map (·.2) = as.map ci ∧ ∀ p ∈ ks, SqT K F.f p.1 (p.2.map V.int) ∧ ∃ a ∈ as, p.2 = ci a ∧ Dp K F.f (.ref p.1) (ti a)
  | [], _, h => by cases h; exact ⟨[], rfl, rfl, fun p hp => nomatch hp⟩
  | a :: as, _, h => by
    cases h with
    | cons h1 h2 =>
      obtain ⟨ks, e1, e2, e3⟩ := keys_of h2
      have h1' := h1
      cases h1 with
      | tup ht ha =>
        have e4 := ints_of ha
        subst e4
        refine ⟨(_, ci a) :: ks, by rw [e1]; rfl, by rw [List.map_cons, e2]; rfl, fun p hp => ?_⟩
        rcases List.mem_cons.mp hp with z | z
        · subst z; exact ⟨ht.sqt, a, List.mem_cons_self, rfl, h1'⟩
        · obtain ⟨q1, b, hb, q2⟩ := e3 p z
          exact ⟨q1, b, List.mem_cons_of_mem _ hb, q2⟩
theorem nat_ci (a : List Nat) : (ci a).map Int.toNat = a := by
  unfold ci
  rw [List.map_map]
  exact (List.map_congr_left fun k _ => Int.toNat_natCast k).trans (List.map_id a)
/-- sorted(set(xs)), xs a list of tuples of n numbers below 64 -/
def tSortSetT3 (ta : TE3) : TE3 := fun τ S Q => ta τ S fun w S1 => ∃ (as U : List (List Nat)) (n : Nat), w = .lst (as.map ti) ∧ U.length ≤ 62 ∧ (∀ a ∈ as, a ∈ U) ∧ 1 ≤ n ∧ (∀ a ∈ as, a.length = n ∧ ∀ k ∈ a, k < 64) ∧
  ∀ bs : List (List Nat), bs.Nodup → (∀ a, a ∈ bs ↔ a ∈ as) → bs.Pairwise (fun a b => TS.code 64 (ci a) ≤ TS.code 64 (ci b)) → Q (.lst (bs.map ti)) S1
section
variable {X : Cx} {Ex : WX} {a : Expr} {ta : TE3}
theorem pe3_sortSetT {p p2 q pos : Pos} {k : Nat} (hr : Room k X.A) (hc : X.calm = true) (hg : Gl X "sorted") (hm : X.mg "sorted" = none) (hg2 : Gl X "set") (hm2 : X.mg "set" = none) (ha : PE X a (LE X.K Ex ta))
    (na : starEach [a] X.env = (false, eval a X.env) :: starEach [] X.env := by rfl) : PE X (.Call (.Name "sorted" p) [.Call (.Name "set" p2) [a] [] q] [] pos) (LE X.K Ex (tSortSetT3 ta)) :=
  pe_imp (pe_sortSetT hr hc hg hm hg2 hm2 ha (by decide +kernel) na) fun σ H Q ⟨F, S, τ, Q3, R, Ev, h, kk⟩ => ⟨F, S, τ, _, R, Ev, h, fun F1 S1 H1 w v s1 R1 r1 ⟨as, U, n, e, few, inU, n1, hn, q⟩ => by
    subst e
    cases (show Dp X.K F1.f v (.list (as.map ti)) from r1) with
    | lst h1 h2 =>
      obtain ⟨ks, e1, e2, e3⟩ := keys_of h2
      subst e1
      refine ⟨_, ks, U.map ci, n, 64, rfl, R1.same.seq h1, fun p hp => sqt_mono R1.same (e3 p hp).1, by rw [List.length_map]; exact few, fun p hp => ?_, n1, fun p hp => ?_, fun M p sub all nd pw free => ?_⟩
      · obtain ⟨_, b, hb, e, _⟩ := e3 p hp
        rw [e]; exact List.mem_map_of_mem (inU b hb)
      · obtain ⟨_, b, hb, e, _⟩ := e3 p hp
        obtain ⟨l1, l2⟩ := hn b hb
        rw [e]
        refine ⟨by rw [ci, List.length_map]; exact l1, fun m hm => ?_⟩
        obtain ⟨j, hj, rfl⟩ := List.mem_map.mp hm
        have := l2 j hj
        show (0 : Int) ≤ (j : Int) ∧ (j : Int) < 64
        omega
      · have back : ∀ y ∈ M, ci (y.2.map Int.toNat) = y.2 ∧ y.2.map Int.toNat ∈ as ∧ Dp X.K F1.f (.ref y.1) (ti (y.2.map Int.toNat)) := fun y hy => by
          obtain ⟨_, b, hb, e, dp⟩ := e3 y (sub y hy)
          rw [e, nat_ci]; exact ⟨rfl, hb, dp⟩
        have dpM : ∀ N : List (Addr × List Int), (∀ y ∈ N, y ∈ M) → DpAll X.K F1.f (N.map fun y => V.ref y.1) ((N.map fun y => y.2.map Int.toNat).map ti) := fun N => by
          induction N with
          | nil => intro _; exact .nil
          | cons y N ih => intro hN; exact .cons (back y (hN y List.mem_cons_self)).2.2 (ih fun x hx => hN x (List.mem_cons_of_mem _ hx))
        obtain ⟨s2, R2, r2⟩ := newLst R1 free (dpM M fun _ h => h)
        have ci_back : ∀ y ∈ M, ci (y.2.map Int.toNat) = y.2 := fun y hy => (back y hy).1
        refine kk _ _ _ _ _ (s1.trans s2) R2 r2 (q _ ?_ (fun b => ⟨fun hb => ?_, fun hb => ?_⟩) ?_)
        · have z : ((M.map fun y => y.2.map Int.toNat).map ci).Nodup := by
            rw [List.map_map, List.map_congr_left (g := (·.2)) ci_back]; exact nd
          exact List.Pairwise.of_map ci (fun a b ne e => ne (by rw [e])) z
        · obtain ⟨y, hy, rfl⟩ := List.mem_map.mp hb
          exact (back y hy).2.1
        · have m1 : ci b ∈ ks.map (·.2) := by rw [e2]; exact List.mem_map_of_mem hb
          obtain ⟨x, hx, ex⟩ := List.mem_map.mp m1
          obtain ⟨y, hy, ey⟩ := List.mem_map.mp (all x hx)
          refine List.mem_map.mpr ⟨y, hy, ?_⟩
          rw [ey, ex, nat_ci]
        · rw [List.pairwise_map]
          exact pw.imp_of_mem fun {x y} hx hy z => by rw [ci_back x hx, ci_back y hy]; exact z⟩
end
/-! ### for .. in a list that is changed later: hidden meanwhile -/
section
variable {X : Cx} {Ex : WX} {tg iter : Expr} {body : List Stmt} {pos : Pos} {te : TE3} {g : TG3} {tb : TS3}
def tForT3 (te : TE3) (g : TG3) (tb : TS3) : TS3 := fun D τ S => te τ S fun w S1 => ∃ a ws, w = .r a ∧ S1 a = some (.lst ws) ∧ forGo g tb { nx := fun τ2 S2 => D.nx ⟨τ2.sl, τ.ex⟩ (put S2 a (.lst ws)), rt := fun u S2 => D.rt u (put S2 a (.lst ws)) } ws ⟨τ.sl, XN⟩ (drp S1 a)
theorem ps3_forT (hp : PassesOwn (model X.prog X.w) X.A X.env X.xe) (hc : X.calm = true) (hi : PE X iter (LE X.K Ex te)) (hg : PG X tg (LG X.K Ex g)) (hb : PSs X body (LS X.K Ex tb))
    (hs : ∀ x, foldedSetIterable iter X.env x = pure x := by intro _; rfl) : PS X (.For tg iter body [] pos) (LS X.K Ex (tForT3 te g tb)) :=
  ps_imp (ps_for hp hc (pi_seq hi) hg hb hs) fun D σ H ⟨F, S, τ, D3, R, Ev, h, k⟩ => ⟨F, S, τ, _, R, Ev, h, fun F0 S0 H1 w x s0 R0 r0 ⟨a, ws, ew, hS, h1⟩ => by
    subst ew
    obtain ⟨src, hsrc, rsrc⟩ := rd_lst R0 hS
    obtain ⟨R1, ga⟩ := Rel.hideS R0 hS hsrc
    have lw : ws.length = src.length := Paired.length rsrc
    refine ⟨a, r0, .inl ⟨⟨src, .inl (.inl hsrc)⟩, ?_⟩⟩
    have see : ∀ {F' S' H'}, Rel X.K F' S' H' → F'.g = upd F0.g a (.lst src) → H' a = some (.lst src) := fun R' e => R'.hd a _ (by rw [e, upd_same])
    have bare : ∀ {F' : Fz} {sl : Sl} {σ' : St}, SlE X.K F' sl σ' → EnvR X.K F' Ex ⟨sl, XN⟩ σ' := fun z => ⟨z, fun _ _ _ _ _ _ _ _ _ _ _ _ _ _ y => y.elim⟩
    have show_ : ∀ {F2 S2 H2}, Sm ⟨upd F0.g a (.lst src), F0.f⟩ F2 → Rel X.K F2 S2 H2 → Rel X.K ⟨F0.g, F2.f⟩ (put S2 a (.lst ws)) H2 := fun s2 R2 => (R2.showS (q0 := .lst ws) ga s2.g ⟨src, rfl, Paired.mapP rsrc fun _ _ z => z.mono1 s2.f⟩).1
    have kn : KS X.K ⟨upd F0.g a (.lst src), F0.f⟩ Ex (fun τ2 S2 => D3.nx ⟨τ2.sl, τ.ex⟩ (put S2 a (.lst ws))) D.nx := fun F2 S2 H2 τ2 σ2 s2 R2 Ev2 q =>
      k.nx ⟨F0.g, F2.f⟩ _ H2 ⟨τ2.sl, τ.ex⟩ σ2 (s0.trans ⟨rfl, s2.f⟩) (show_ s2 R2) ⟨sle_g (fun _ _ e => e) Ev2.sl, Ev.ex.mono (s0.trans ⟨rfl, s2.f⟩)⟩ q
    have kr : KE X.K ⟨upd F0.g a (.lst src), F0.f⟩ (fun u S2 => D3.rt u (put S2 a (.lst ws))) D.rt := fun F2 S2 H2 u v s2 R2 r2 q =>
      k.rt ⟨F0.g, F2.f⟩ _ H2 u v (s0.trans ⟨rfl, s2.f⟩) (show_ s2 R2) (repW_g r2) q
    refine ⟨fun i m σ' H' => ∃ F' S' τ', Sm ⟨upd F0.g a (.lst src), F0.f⟩ F' ∧ Rel X.K F' S' H' ∧ EnvR X.K F' Ex τ' σ' ∧ m = ws.length - i ∧ i ≤ ws.length ∧ forGo g tb { nx := fun τ2 S2 => D3.nx ⟨τ2.sl, τ.ex⟩ (put S2 a (.lst ws)), rt := fun u S2 => D3.rt u (put S2 a (.lst ws)) } (ws.drop i) τ' S', ⟨ws.length, _, _, ⟨τ.sl, XN⟩, Sm.refl _, R1, bare (sle_g s0.f Ev.sl), rfl, Nat.zero_le _, h1⟩, ?_⟩
    rintro i m σ' H' ⟨F2, S2, τ2, s2, R2, Ev2, rfl, hi, h2⟩
    have at_a := see R2 s2.g
    by_cases hlt : i < ws.length
    · rw [List.drop_eq_getElem_cons hlt] at h2
      obtain ⟨N, hN, h2⟩ := h2
      refine .inr ⟨⟨src, src[i]'(by omega), .inl (.inl at_a), List.getElem?_eq_getElem (by omega)⟩, fun σ3 H3 => ∃ F3 S3 τ3, Sm ⟨upd F0.g a (.lst src), F0.f⟩ F3 ∧ Rel X.K F3 S3 H3 ∧ EnvR X.K F3 Ex τ3 σ3 ∧ N τ3 S3, ?_, fun x H3 hy => ?_⟩
      · rintro σ3 H3 ⟨F3, S3, τ3, s3, R3, Ev3, n3⟩
        exact ⟨ws.length - (i + 1), by omega, F3, S3, τ3, s3, R3, Ev3, rfl, hlt, hN τ3 S3 n3⟩
      · obtain ⟨e3, y3⟩ := hy
        subst e3
        have hx := y3 src (.inl (.inl at_a))
        obtain ⟨v, hv, rv⟩ := rep_get rsrc (List.getElem?_eq_getElem hlt)
        rw [hx] at hv
        cases hv
        refine ⟨F2, S2, τ2, _, _, R2, Ev2, rv.mono1 s2.f, h2, fun F4 S4 H4 τ4 σ4 s4 R4 Ev4 h4 => ?_⟩
        have s := s2.trans s4
        refine ⟨F4, S4, τ4, _, R4, Ev4, h4, ⟨?_, kr.mono s, kn.mono s, ?_⟩⟩
        · exact fun F5 S5 H5 τ5 σ5 s5 R5 Ev5 n5 => ⟨F5, S5, τ5, s.trans s5, R5, Ev5, n5⟩
        · exact fun F5 S5 H5 τ5 σ5 s5 R5 Ev5 n5 => ⟨F5, S5, τ5, s.trans s5, R5, Ev5, n5⟩
    · have e : i = ws.length := by omega
      subst e
      rw [List.drop_length] at h2
      exact .inl ⟨⟨src, .inl (.inl at_a), by omega⟩, kn F2 S2 H' _ _ s2 R2 Ev2 h2⟩⟩
end
section
variable {X : Cx} {Ex : WX} {e : Expr} {te : TE3} {pos : Pos}
/-- xs[::-1] of a list of any kind, to be changed -/
def tRevV3 (te : TE3) : TE3 := fun τ S Q => te τ S fun w S1 => ∃ ds, viewW S1 w = some (.list ds) ∧ ∀ p, S1 p = none → Q (.r p) (put S1 p (.lst (ds.reverse.map W.d)))
theorem pe3_revV {k : Nat} {p1 p2 p3 : Pos} (he : PE X e (LE X.K Ex te)) : PE X (.Subscript e (.Slice none none (some (.UnaryOp .USub (.Constant (.int 1) k p1) p2)) p3) pos) (LE X.K Ex (tRevV3 te)) :=
  pe_imp (pe_revL he) fun σ H Q ⟨F, S, τ, Q3, R, Ev, h, kk⟩ => ⟨F, S, τ, _, R, Ev, h, fun F1 S1 H1 w x s1 R1 r1 ⟨ds, hv, q⟩ => by
    obtain ⟨a, vs, rfl, hs, ha, _⟩ := list_rep R1 r1 hv
    exact ⟨a, vs, rfl, hs, fun p hp => kk F1 _ _ (.r p) _ s1 (newMut R1 hp (repWs_of_all (dpAll_rev ha))) (show V.ref p = V.ref p from rfl) (q p (R1.freeS hp))⟩⟩
end
end H3

/-! H3N: a module's constant tuples of texts; the head with facts, tables, errors and such tuples. -/
namespace H3
open PySem PySem.Spec L2
open PyProof.Rows hiding St
/-- a tuple of texts in the known part of the heap -/
def CtIs (K : PySem.W.Frag) (mg : Str → Option Value) (x : Str) (ss : List Str) : Prop := ∃ (a : Addr) (o : Obj) (its : Array Value) (n : Nat), mg x = some (.ref a) ∧ K.lookup a = some o ∧ NoD o ∧ o.data = .seq its n ∧ its.size ≤ sizeLine ∧ Vals (ss.map V.str) its.toList
theorem dp_txts {K : PySem.W.Frag} {F : Hp} : ∀ ss : List Str, DpAll K F (ss.map V.str) (ss.map PyData.str)
  | [] => .nil
  | s :: ss => .cons (.str s) (dp_txts ss)
theorem pgtup3 {X : Cx} {E : WX} {x : Str} {ss : List Str} {pos : Pos} (hg : Gl X x) (hm : CtIs X.K X.mg x ss) (hd : (x == ("__debug__" : Str)) = false := by decide) : PE X (.Name x pos) (LE X.K E (tC3 (.tup (ss.map PyData.str)))) := by
  obtain ⟨a, o, its, n, h1, h2, h3, h4, h5, h6⟩ := hm
  exact le_const (t := tC (.ref a)) (pe_glob (v := V.ref a) hg h1 rfl hd) fun _ => Dp.tup (.inr ⟨o, its, n, h2, h3, h4, h5, h6⟩) (dp_txts ss)
def strsB : List Str → List Value → Bool
  | [], [] => true
  | s :: ss, .str z _ :: us => decide (z = s) && strsB ss us
  | _, _ => false
theorem strsB_ok : ∀ {ss : List Str} {us : List Value}, strsB ss us = true → Vals (ss.map V.str) us
  | [], [], _ => .nil
  | s :: ss, .str z t :: us, h => by
    obtain ⟨h1, h2⟩ := Bool.and_eq_true_iff.mp h
    have e := of_decide_eq_true h1
    subst e
    exact .cons ⟨t, rfl⟩ (strsB_ok h2)
abbrev CtL := List (Str × List Str)
def ctB (K : PySem.W.Frag) (q : Str × List Str) : Bool := decide (PySem.W.nsIn K mainGlobals q.1 = some (some (.ref (He.ga K q.1)))) && match K.lookup (He.ga K q.1) with
  | some ⟨cls, dict, .seq its _, _⟩ => decide (cls = .type "tuple") && (dict.isNone && (decide (its.size ≤ sizeLine) && strsB q.2 its.toList))
  | _ => false
def CtSays (K : PySem.W.Frag) (ql : CtL) : Prop := ∀ q ∈ ql, ctB K q = true
theorem CtSays.at {K : PySem.W.Frag} {ql : CtL} (r : CtSays K ql) {h : Heap} {mg : Str → Option Value} (X : K.In h) (G : h.Ns mainGlobals mg) (i : Nat) {q : Str × List Str} (e : ql[i]? = some q) : CtIs K mg q.1 q.2 := by
  have z := r q (List.mem_of_getElem? e)
  unfold ctB at z
  obtain ⟨h1, h2⟩ := Bool.and_eq_true_iff.mp z
  have h1 := of_decide_eq_true h1
  split at h2
  · rename_i cls dict its n sl el
    obtain ⟨c1, h2⟩ := Bool.and_eq_true_iff.mp h2
    obtain ⟨c2, h2⟩ := Bool.and_eq_true_iff.mp h2
    obtain ⟨c3, c4⟩ := Bool.and_eq_true_iff.mp h2
    exact ⟨_, _, its, n, PySem.W.mg_of X G h1, el, ⟨of_decide_eq_true c1, Option.isNone_iff_eq_none.mp c2⟩, rfl, of_decide_eq_true c3, strsB_ok c4⟩
  · cases h2
/-! ### the hook -/
abbrev AlY : Type := AlX × Bool
def obsY (n : Nat) (fa : List He.Fa) (fn : List He.DefD) (tn : List (Str × Option Str)) (el : List ErrD) (kl : KitL) (bl : BltL) (ql : CtL) (g : Addr → Option Obj) : AlY :=
  (fun K : PySem.W.Frag => (((He.obsD fa fn K, (tn.all fun p => tabB g K (He.fAd K p)) && apart (tn.map fun p => (tabOf g K (He.fAd K p)).2)), ((el.all fun e => e.ok K) && bl.all fun q => bltB K q) && kl.all fun q => kitB K q, el.map fun e => fnN K (e.ini K)), ql.all fun q => ctB K q)) (He.frG g (noTabs g (He.asD g n) ++ [cStatics]))
def hookY (n : Nat) (fa : List He.Fa) (fn : List He.DefD) (tn : List (Str × Option Str)) (el : List ErrD) (kl : KitL) (bl : BltL) (ql : CtL) : PySem.W.Hook where
  α := AlY
  obs := fun s => obsY n fa fn tn el kl bl ql s.heap.get?
  val := fun _ => (((He.valD fn, true), true, el.map ErrD.val), true)
  says := fun _ h => ∃ K : PySem.W.Frag, K.In h ∧ He.SaysD fa fn K ∧ ((∃ cs, Tabs K h tn cs) ∧ ErrSays K el kl bl) ∧ CtSays K ql
  of := fun _ s e => by
    have e1 := congrArg (fun z : AlY => z.1.1.1) e
    obtain ⟨e2, e3⟩ := Bool.and_eq_true_iff.mp (congrArg (fun z : AlY => z.1.1.2) e)
    obtain ⟨e4, e5⟩ := Bool.and_eq_true_iff.mp (congrArg (fun z : AlY => z.1.2.1) e)
    have e6 := congrArg (fun z : AlY => z.1.2.2) e
    have e8 := congrArg (fun z : AlY => z.2) e
    obtain ⟨e4, e7⟩ := Bool.and_eq_true_iff.mp e4
    refine ⟨_, He.frG_in, e1, ⟨⟨_, paired_map _ tn fun p hp => tabB_ok (List.all_eq_true.mp e2 p hp), by rw [List.map_map]; exact apart_ok e3⟩, fun q hq => of_decide_eq_true (List.all_eq_true.mp e7 q hq), fun d hd => ErrD.errC (map_same e6 d hd) (List.all_eq_true.mp e4 d hd), fun q hq => ?_⟩, fun q hq => List.all_eq_true.mp e8 q hq⟩
    obtain ⟨h1, h2⟩ := Bool.and_eq_true_iff.mp (List.all_eq_true.mp e5 q hq)
    exact ⟨of_decide_eq_true h1, of_decide_eq_true h2⟩
  keeps := fun _ _ _ ⟨K, i, c, ⟨⟨cs, t⟩, r⟩, q⟩ k => ⟨K, PySem.W.Frag.In.keeps i k, c, ⟨⟨cs, Paired.mapP t.all fun _ _ q => q.keeps k, t.apart⟩, r⟩, q⟩
theorem obsY_eq {n : Nat} {fa : List He.Fa} {fn : List He.DefD} {tn : List (Str × Option Str)} {el : List ErrD} {kl : KitL} {bl : BltL} {ql : CtL} {g : Addr → Option Obj} {s : Shared} (h : ∀ a, g a = s.heap.get? a) : obsY n fa fn tn el kl bl ql g = (hookY n fa fn tn el kl bl ql).obs s := by
  obtain rfl : g = s.heap.get? := funext h
  rfl
end H3

/-! H3O: x += e; l.index(x) of any data. -/
namespace H3
open PySem PySem.Spec L2
open PyProof.Rows hiding St
section
variable {X : Cx} {Ex : WX} {te : TE3} {e : Expr} {pos : Pos} {r3 : R3} {r : R2}
/-- x += e, told as x = x + e -/
theorem ps3_aug (i : Nat) {x : Str} {pos' : Pos} {op : Operator} (hN : X.N.Nodup) (ho : PIp X op r) (l : OpL X.K r3 r) (he : PE X e (LE X.K Ex te)) (hi : X.N[i]? = some x := by rfl) (hx : Loc X.env.scope x := by first | exact Or.inl rfl | exact Or.inr rfl)
    (hf : X.fn x = true ∨ X.env.scope.names.lookup x = some .local := by first | exact .inl rfl | exact .inr rfl | assumption) : PS X (.AugAssign (.Name x pos') op e pos) (LS X.K Ex (tSet3 i (tOp3 r3 (tVar3 i) te))) :=
  ps_imp (ps_aug (i := i) hN hi hx he ho hf) fun D σ H ⟨F, S, τ, D3, R, Ev, ⟨w, hw, h⟩, k⟩ => by
    obtain ⟨v, hv, rv⟩ := Ev.sl.2 i _ hw
    exact ⟨v, hv, F, S, τ, _, R, Ev, h, fun F1 S1 H1 u y s1 R1 r1 h1 => l F1 S1 H1 w u v y _ _ R1 (rv.mono s1) r1 h1 fun F2 S2 H2 z zv s2 R2 r2 h2 => k.nx F2 S2 H2 _ _ (s1.trans s2) R2 ((Ev.mono (s1.trans s2)).set r2) h2⟩
/-- l.index(x), the first place of an equal one -/
def gDIx : RM3 := fun w ws S Q => ∃ (ds : List PyData) (d z : PyData) (j : Nat), viewW S w = some (.list ds) ∧ ws = [.d d] ∧ SeqAt.shaped (.list ds) = true ∧ SeqAt.shaped d = true ∧ ds[j]? = some z ∧ PyData.eqv z d = true ∧
  (∀ (m : Nat) (z' : PyData), m < j → ds[m]? = some z' → PyData.eqv z' d = false) ∧ Q (.int (j : Nat)) S
theorem l_dix {K : PySem.W.Frag} : MtL K gDIx (rIndexD K) := fun F S H w ws x vs Q3 Q R rw rs ⟨ds, d, z, j, hv, e2, h1, h2, h3, h4, h5, q⟩ kk => by
  subst e2
  obtain ⟨v, rfl, rv⟩ := ws1 rs
  obtain ⟨a, us, rfl, _⟩ := list_rep R rw hv
  exact ⟨a, v, d, ds, j, z, rfl, rfl, view_rep R rw hv, view_rep R rv rfl, h1, h2, h3, h4, h5, kk F S H _ _ (Sm.refl F) R mk_int q⟩
theorem mt_indexV (hu : X.A.units + 70 < cLine) : MtR X "list.index" (rIndexD X.K) := mt_indexD (by omega)
/-- max, min of a tuple of ints -/
def rMaxT (K : PySem.W.Frag) : List V → Hp → VK → Prop := fun vs H Q => ∃ (a : Addr) (ns : List Int), vs = [V.ref a] ∧ (SqL K H a (ns.map V.int) ∨ SqT K H a (ns.map V.int)) ∧ 0 < ns.length ∧ ∀ m, m ∈ ns → (∀ y, y ∈ ns → y ≤ m) → Q (.int m) H
def rMinT (K : PySem.W.Frag) : List V → Hp → VK → Prop := fun vs H Q => ∃ (a : Addr) (ns : List Int), vs = [V.ref a] ∧ (SqL K H a (ns.map V.int) ∨ SqT K H a (ns.map V.int)) ∧ 0 < ns.length ∧ ∀ m, m ∈ ns → (∀ y, y ∈ ns → m ≤ y) → Q (.int m) H
theorem ints_look {ns : List Int} {us : List Value} (r : Vals (ns.map V.int) us) {i : Nat} {v : Value} (h : us.toArray[i]? = some v) : ∃ t, v = Value.int (ns.getD i 0) t := by
  rw [List.getElem?_toArray] at h
  have key : ∀ (ns : List Int) (us : List Value) (i : Nat), Vals (ns.map V.int) us → us[i]? = some v → ∃ t, v = Value.int (ns.getD i 0) t := fun ns => by
    induction ns with
    | nil => intro us i r h; cases r; cases h
    | cons n ns ih =>
      intro us i r h
      cases r with
      | cons r1 r2 =>
        cases i with
        | zero => obtain ⟨t, e⟩ := r1; cases h; exact ⟨t, e⟩
        | succ i => exact ih _ i r2 h
  exact key ns us i r h
theorem vals_len {xs : List V} {us : List Value} (r : Vals xs us) : us.length = xs.length := (Paired.length r).symm
theorem two_low {s : Shared} {a : Addr} (hlt : a < s.heap.objs.size) (o : Obj) : ∀ b ∈ [s.heap.objs.size, a], b < (s.heap.push o).objs.size := fun b hm => by
  rw [Heap.size_push]
  rcases List.mem_cons.mp hm with own | q
  · exact own ▸ Nat.lt_succ_self _
  · exact List.mem_singleton.mp q ▸ Nat.lt_succ_of_lt hlt
theorem cr_maxT (hc : X.calm = true) : CallR X (.builtin "max") (rMaxT X.K) := by
  rintro pins s σ H vs us Q I r ⟨a, ns, rfl, hs | hs, hne, q⟩
  · exact cr_max hc pins s σ H _ us Q I r ⟨a, ns, rfl, hs, hne, q⟩
  rw [Vals.ref1 r]
  obtain ⟨its, rv, pt, _⟩ := I.tuple hs
  have hT : s.heap.IsTuple a its.toArray := pt
  have hlt : a < s.heap.objs.size := let ⟨_, ho, _⟩ := hT; Heap.lt_size ho
  have hlen : its.toArray.size = ns.length := by rw [List.size_toArray, vals_len rv, List.length_map]
  refine call_max_walk (wpAny_pyIter_tuple hT ?_)
  refine ⟨_, _, _, _, _, _, _, rfl, Walks.tuple (A := X.A.in1) (I.ok.hd hc) s.heap.objs.size a (Nat.ne_of_lt hlt) its.toArray, ⟨⟨_, Heap.get?_push_size _ rfl, rfl, rfl⟩, hT.push _⟩, fun b hb => two_low hlt _ b hb, by rw [hlen]; exact hne, CmpOf.ints_gt (fun i => ns.getD i 0) (fun i v hv => ints_look rv hv), fun v h' tk hP hk => ?_⟩
  · obtain ⟨t, rfl⟩ := ints_look rv hP
    obtain ⟨b1, b2⟩ := argBest_gt (fun i => ns.getD i 0) (its.toArray.size - 1)
    refine ⟨.int _, H, I.kept (t' := tk) fun b u e => hk b u (fun hm => ?_) (Heap.get?_push_of_some _ e), ⟨t, rfl⟩, q _ ?_ fun j hj => ?_⟩
    · have e2 := Heap.lt_size e
      rw [List.mem_singleton.mp hm] at e2
      exact (Nat.lt_irrefl _ e2).elim
    · exact PySem.getD_mem (by omega)
    · obtain ⟨i, hi, rfl⟩ := mem_getD hj
      exact b2 i (by omega)
theorem cr_minT (hc : X.calm = true) : CallR X (.builtin "min") (rMinT X.K) := by
  rintro pins s σ H vs us Q I r ⟨a, ns, rfl, hs | hs, hne, q⟩
  · exact cr_min hc pins s σ H _ us Q I r ⟨a, ns, rfl, hs, hne, q⟩
  rw [Vals.ref1 r]
  obtain ⟨its, rv, pt, _⟩ := I.tuple hs
  have hT : s.heap.IsTuple a its.toArray := pt
  have hlt : a < s.heap.objs.size := let ⟨_, ho, _⟩ := hT; Heap.lt_size ho
  have hlen : its.toArray.size = ns.length := by rw [List.size_toArray, vals_len rv, List.length_map]
  refine call_min_walk (wpAny_pyIter_tuple hT ?_)
  refine ⟨_, _, _, _, _, _, _, rfl, Walks.tuple (A := X.A.in1) (I.ok.hd hc) s.heap.objs.size a (Nat.ne_of_lt hlt) its.toArray, ⟨⟨_, Heap.get?_push_size _ rfl, rfl, rfl⟩, hT.push _⟩, fun b hb => two_low hlt _ b hb, by rw [hlen]; exact hne, CmpOf.ints_lt (fun i => ns.getD i 0) (fun i v hv => ints_look rv hv), fun v h' tk hP hk => ?_⟩
  · obtain ⟨t, rfl⟩ := ints_look rv hP
    obtain ⟨b1, b2⟩ := argBest_lt (fun i => ns.getD i 0) (its.toArray.size - 1)
    refine ⟨.int _, H, I.kept (t' := tk) fun b u e => hk b u (fun hm => ?_) (Heap.get?_push_of_some _ e), ⟨t, rfl⟩, q _ ?_ fun j hj => ?_⟩
    · have e2 := Heap.lt_size e
      rw [List.mem_singleton.mp hm] at e2
      exact (Nat.lt_irrefl _ e2).elim
    · exact PySem.getD_mem (by omega)
    · obtain ⟨i, hi, rfl⟩ := mem_getD hj
      exact b2 i (by omega)
def gMaxS : RC3 := fun ws S Q => ∃ (w : W) (ns : List Int), ws = [w] ∧ itemsW S w = some (ns.map PyData.int) ∧ 0 < ns.length ∧ ∀ m : Int, m ∈ ns → (∀ y ∈ ns, y ≤ m) → Q (.int m) S
def gMinS : RC3 := fun ws S Q => ∃ (w : W) (ns : List Int), ws = [w] ∧ itemsW S w = some (ns.map PyData.int) ∧ 0 < ns.length ∧ ∀ m : Int, m ∈ ns → (∀ y ∈ ns, m ≤ y) → Q (.int m) S
theorem l_maxS {K : PySem.W.Frag} : CallL K gMaxS (rMaxT K) := fun F S H ws vs Q3 Q R r ⟨w, ns, e, hv, hn, q⟩ k => by
  subst e
  obtain ⟨v, rfl, rv⟩ := ws1 r
  obtain ⟨a, us, rfl, hs, ha, _⟩ := items_rep R rv hv
  have e2 := ints_of ha
  subst e2
  exact ⟨a, ns, rfl, hs.imp id And.left, hn, fun m h1 h2 => k F S H _ _ (Sm.refl F) R mk_int (q m h1 h2)⟩
theorem l_minS {K : PySem.W.Frag} : CallL K gMinS (rMinT K) := fun F S H ws vs Q3 Q R r ⟨w, ns, e, hv, hn, q⟩ k => by
  subst e
  obtain ⟨v, rfl, rv⟩ := ws1 r
  obtain ⟨a, us, rfl, hs, ha, _⟩ := items_rep R rv hv
  have e2 := ints_of ha
  subst e2
  exact ⟨a, ns, rfl, hs.imp id And.left, hn, fun m h1 h2 => k F S H _ _ (Sm.refl F) R mk_int (q m h1 h2)⟩
/-- sum of a list of ints -/
def gSum : RC3 := fun ws S Q => ∃ (w : W) (ns : List Int), ws = [w] ∧ viewW S w = some (.list (ns.map PyData.int)) ∧ Q (.int ns.sum) S
theorem l_sum {K : PySem.W.Frag} : CallL K gSum (rSum K) := fun F S H ws vs Q3 Q R r ⟨w, ns, e, hv, q⟩ k => by
  subst e
  obtain ⟨v, rfl, rv⟩ := ws1 r
  obtain ⟨a, us, rfl, hs, ha, _⟩ := list_rep R rv hv
  have e2 := ints_of ha
  subst e2
  exact ⟨a, ns, rfl, hs, k F S H _ _ (Sm.refl F) R mk_int q⟩
/-- a tuple of things that are not all data; its parts -/
def tTupR3 (t : TA3) : TE3 := fun τ S Q => t τ S fun ws S1 => ws.length ≤ 1000 ∧ ∀ p, S1 p = none → Q (.r p) (put S1 p (.tp ws))
theorem pe3_tupR {es : List Expr} {t : TA3} {x1} (h : PA X es (LA X.K Ex t)) : PE X (.Tuple es x1 pos) (LE X.K Ex (tTupR3 t)) :=
  pe_imp (pe_tupN h) fun σ H Q ⟨F, S, τ, Q3, R, Ev, h, k⟩ => ⟨F, S, τ, _, R, Ev, h, fun F1 S1 H1 ws vs s1 R1 r1 ⟨hl, q⟩ =>
    ⟨by rw [← Paired.length r1]; exact le1000 hl, fun p o hp no => k _ _ _ (.r p) _ s1 (R1.newS hp (show RepO X.K F1 (.tp ws) (HO.frz o (.tup vs)) from ⟨o, vs, rfl, no, r1⟩)) (show V.ref p = V.ref p from rfl) (q p (R1.freeS hp))⟩⟩
def gTupR3 (n : Nat) (gs : TGs3) : TG3 := fun w τ S Q => ∃ a ws, w = .r a ∧ S a = some (.tp ws) ∧ ws.length = n ∧ gs ws τ S Q
theorem pg3_tupR {es : List Expr} {kk n : Nat} {gs : TGs3} (hc : X.calm = true) (h : PGs X es (LGs X.K Ex gs)) (hn : (assignEach es X.env).length = n := by rfl) (hst : (assignEach es X.env).findIdx? (·.1) = none := by rfl) : PG X (.Tuple es kk pos) (LG X.K Ex (gTupR3 n gs)) :=
  pg_imp (pg_tup hc h hn hst) fun v σ H Q ⟨F, S, τ, w, Q3, R, Ev, r, ⟨a, ws, e, hS, hl, h⟩, k⟩ => by
    subst e
    obtain ⟨_, o, ho, o2, vs, rfl, no, rv⟩ := R.st a _ hS
    cases (show v = .ref a from r)
    exact ⟨a, vs, rfl, .inl (.inr ⟨o2, ho⟩), by rw [← Paired.length rv]; exact hl, F, S, τ, _, Q3, R, Ev, rv, h, k⟩
/-- a text so many times -/
def repS (x : Str) (k : Nat) : Str := ⟨(List.replicate k x.cps).foldl (· ++ ·) #[]⟩
def rRepS : R2 := fun x y H Q => ∃ (z : Str) (k : Int), x = .str z ∧ y = .int k ∧ 2 ≤ k ∧ k ≤ 1000 ∧ 0 < z.length ∧ z.length ≤ 1000 ∧ (repS z k.toNat).length ≤ sizeLine ∧ Q (.str (repS z k.toNat)) H
theorem op_repS : OpR X (binaryOp .Mult) rRepS := by
  rintro pins s σ H x y v u Q I rx ry ⟨z, k, rfl, rfl, h1, h2, h3, h4, h5, q⟩
  obtain ⟨t, rfl⟩ := rx
  obtain ⟨t', rfl⟩ := ry
  have n1 : ¬ k < 1 := by omega
  have n2 : (k == 1 || z.length == 0) = false := by
    rw [Bool.or_eq_false_iff]
    exact ⟨beq_eq_false_iff_ne.mpr (by omega), beq_eq_false_iff_ne.mpr (by omega)⟩
  refine P.mul_str (by rw [decide_eq_false (by omega), decide_eq_false (by omega)]; rfl) (fun _ _ c => ?_) (fun _ _ => ?_) ?_
  · have c : (z.length : Int) > (2 ^ 63 - 1) / k := c
    have h6 : (1000 : Int) ≤ (2 ^ 63 - 1) / k := (Int.le_ediv_iff_mul_le (by omega)).mpr (by omega)
    omega
  · unfold Builtin.Str.tooLong
    refine decide_eq_false (Nat.not_lt.mpr ?_)
    have : z.length * k.toNat ≤ 1000 * 1000 := Nat.mul_le_mul h4 (by omega)
    exact Nat.le_trans this (by decide)
  · rw [if_neg n1, n2]
    exact ⟨h5, ⟨.str _, H, I.tok _, ⟨_, rfl⟩, q⟩⟩
def gRepS : R3 := fun w u S Q => ∃ (z : Str) (k : Int), w = .str z ∧ u = .int k ∧ 2 ≤ k ∧ k ≤ 1000 ∧ 0 < z.length ∧ z.length ≤ 1000 ∧ (repS z k.toNat).length ≤ sizeLine ∧ Q (.str (repS z k.toNat)) S
theorem l_repS {K : PySem.W.Frag} : OpL K gRepS rRepS := fun F S H w u x y Q3 Q R rw ru ⟨z, k, e1, e2, h1, h2, h3, h4, h5, q⟩ kk => by
  subst e1 e2
  exact ⟨z, k, rep_str rw, rep_int ru, h1, h2, h3, h4, h5, kk F S H _ _ (Sm.refl F) R mk_str q⟩
end
end H3

/-! H3Z: isinstance(x, own class); the head with facts of it. -/
namespace H3
open PySem PySem.Spec L2
open PyProof.Rows hiding St
/-- what isinstance asks of an own class: of its instances, and of what is built in -/
structure IsF (K : PySem.W.Frag) (C : Addr) : Prop where
  clsF : PySem.W.findIn K (.ref C) "__class__" = some (some (.builtin "object.__class__"))
  getF : PySem.W.specialIn K (.builtin "object.__class__") "__get__" = some (some (.builtin "getset_descriptor.__get__"))
  takF : PySem.W.takesIn K (.builtin "object.__class__") = some true
  topF : PySem.W.mroIn K C (.type "object") = some true
  bt : ∀ n ∈ ["NoneType", "bool", "int", "str", "list", "tuple"], PySem.W.kitOne K (.type n) (.ref C) = some false
  nf : PySem.W.notFirst K C (.type "tuple") = true
  ne : PySem.W.findIn K (.ref C) "__ne__" = some (some (.builtin "object.__ne__"))
def isB (K : PySem.W.Frag) (C : Addr) : Bool := (excB K C && ["NoneType", "bool", "int", "str", "list", "tuple"].all fun n => decide (PySem.W.kitOne K (.type n) (.ref C) = some false)) && PySem.W.notFirst K C (.type "tuple") && decide (PySem.W.findIn K (.ref C) "__ne__" = some (some (.builtin "object.__ne__")))
theorem isB_ok {K : PySem.W.Frag} {C : Addr} (h : isB K C = true) : IsF K C := by
  unfold isB excB at h
  simp only [decide_eq_true_eq, Bool.and_eq_true] at h
  obtain ⟨⟨⟨⟨h1, h2, h3, h4⟩, h5⟩, h6⟩, h7⟩ := h
  exact ⟨h1, h2, h3, h4, fun n hn => of_decide_eq_true (List.all_eq_true.mp h5 n hn), h6, h7⟩
def IsSays (K : PySem.W.Frag) (il : List Str) : Prop := ∀ c ∈ il, isB K (He.ga K c) = true
theorem IsSays.at {K : PySem.W.Frag} {il : List Str} (r : IsSays K il) (i : Nat) {c : Str} (e : il[i]? = some c) : IsF K (He.ga K c) := isB_ok (r c (List.mem_of_getElem? e))
theorem kit_self {K : PySem.W.Frag} {C : Addr} : PySem.W.kitOne K (.ref C) (.ref C) = some true := if_pos (by simp)
/-- what is known of the instances that may come -/
structure OwnC (K : PySem.W.Frag) (l : Cat) (C : Addr) : Prop where
  f : IsF K C
  ow : ∀ D b, List.lookup D l = some b → Cls K D ∧ IsF K D ∧ PySem.W.kitOne K (.ref D) (.ref C) = some b
theorem tyD_six {d : PyData} (h : d.canLay0 = true) : tyD d ∈ ["NoneType", "bool", "int", "str", "list", "tuple"] := by
  cases d with
  | dict l => cases h
  | _ => simp [tyD]
/-- isinstance(x, C): data is not; an instance as the list tells -/
def gIsO (l : Cat) (C : Addr) : RC3 := fun ws S Q => ∃ w, ws = [w, .r C] ∧ ((∃ d, viewW S w = some d ∧ d.canLay0 = true ∧ Q (.bl false) S) ∨ ∃ a D fs b, w = .r a ∧ S a = some (.ins D fs) ∧ List.lookup D l = some b ∧ Q (.bl b) S)
theorem l_isO {K : PySem.W.Frag} {l : Cat} {C : Addr} (o : OwnC K l C) : CallL K (gIsO l C) (rIsi K) := fun F S H ws vs Q3 Q R r ⟨w, e, h⟩ k => by
  subst e
  obtain ⟨v, y, rfl, rv, ry⟩ := ws2 r
  cases (show y = .ref C from ry)
  rcases h with ⟨d, hd, hl, q⟩ | ⟨a, D, fs, b, e, hS, hb, q⟩
  · exact ⟨v, .ref C, _, .ref C, false, rfl, .own C, dp_ty (view_rep R rv hd), o.f.bt _ (tyD_six hl), k F S H _ _ (Sm.refl F) R mk_bl q⟩
  · subst e
    cases (show v = .ref a from rv)
    obtain ⟨_, o2, ho, dx, gs, rfl, _⟩ := R.st a _ hS
    obtain ⟨c1, c2, c3⟩ := o.ow D b hb
    exact ⟨.ref a, .ref C, .ref D, .ref C, b, rfl, .own C, .base (.ins ho c1 c2.clsF c2.getF c2.takF c2.topF), c3, k F S H _ _ (Sm.refl F) R mk_bl q⟩
/-! ### isinstance(e, T) of an exception, T built in -/
def tyB (K : PySem.W.Frag) (q : Str × String × Bool) : Bool := decide (PySem.W.kitOne K (.ref (He.ga K q.1)) (.type q.2.1) = some q.2.2)
def TySays (K : PySem.W.Frag) (tl : List (Str × String × Bool)) : Prop := ∀ q ∈ tl, PySem.W.kitOne K (.ref (He.ga K q.1)) (.type q.2.1) = some q.2.2
theorem TySays.at {K : PySem.W.Frag} {tl : List (Str × String × Bool)} (r : TySays K tl) (i : Nat) {q : Str × String × Bool} (e : tl[i]? = some q) : PySem.W.kitOne K (.ref (He.ga K q.1)) (.type q.2.1) = some q.2.2 := r q (List.mem_of_getElem? e)
section
variable {X : Cx} {E : WX} {M : Addr → Prop} {i : Nat} {a : Addr} {oe : Obj} {cls : Value} {d : Option Addr} {pn : List (Addr × Obj)} {n D : Str} {pos p1 p2 p3 : Pos} {T : String}
def rIsXT (K : PySem.W.Frag) (T : String) (cls : Value) (d : Option Addr) (a : Addr) : List V → Hp → VK → Prop := fun xs H Q => ∃ (C dd : Addr) (gs : List (Str × V)) (b : Bool), xs = [.ref a, .ty T] ∧ cls = .ref C ∧ d = some dd ∧ H dd = some (.xd gs) ∧ ExcC K C ∧ PySem.W.kitOne K (.ref C) (.type T) = some b ∧ Q (.bl b) H
theorem call_isXT (hz : Zc cls d oe) (hf : ∃ vs, oe.data = .fields vs) : CallR (X.suite a ((a, oe) :: pn)) (.builtin "isinstance") (rIsXT X.K T cls d a) := by
  rintro pins s σ H _ us Q I r ⟨C, dd, gs, b, rfl, rfl, rfl, hdd, ec, hb, q⟩
  obtain ⟨u, w, rfl, ru, rw'⟩ : ∃ u w, us = [u, w] ∧ RelV (.ref a) u ∧ RelV (.ty T) w := by
    cases r with
    | cons h1 t => cases t with
      | cons h2 t => cases t; exact ⟨_, _, rfl, h1, h2⟩
  obtain rfl : u = .ref a := ru
  obtain rfl : w = .type T := rw'
  obtain ⟨pinned, _⟩ := I.pin (a, oe) (List.mem_append_left _ List.mem_cons_self)
  obtain ⟨ws, hws⟩ := hf
  obtain ⟨mA, hns, _⟩ := show ObjOk X.prog X.w H s.heap dd (.xd gs) from I.hok dd _ hdd
  obtain ⟨od, ho, _⟩ := lookIn_ns hns
  have J : PySem.W.InstAt s.heap a oe C (some od) := ⟨pinned, hz.1, by unfold PySem.W.notCls; rw [hws] <;> rfl, by rw [hz.2]; exact ho⟩
  obtain ⟨cd, hcd, _⟩ := PySem.W.any_some ec.hd
  exact PySem.W.kia_one (PySem.W.kitx_exc (x := a) (ox := oe) (od := some od) (by rw [hcd]; rfl) ec.hg ec.hk ec.hs ec.ha ec.hn ec.ht ec.hm) I.kIn J hb (fun z => nomatch z) fun tk => ⟨.bl b, H, I.kept (t' := tk) fun _ _ z => z, rfl, q⟩
def tIsXT3 (l : Cat) : TT3 := tIsX3 l 0
theorem pxt_isT {l : Cat} (hM : ∀ C, M C → ExcC X.K C) (hl : ∀ C b, l.lookup C = some b → PySem.W.kitOne X.K (.ref C) (.type T) = some b) (hz : Zc cls d oe) (hf : ∃ vs, oe.data = .fields vs) (hgi : Gl X "isinstance") (hmi : X.mg "isinstance" = none) (hvi : bootBuiltins "isinstance" = some (.builtin "isinstance")) (hgD : Gl X D) (hmD : X.mg D = none) (hvD : bootBuiltins D = some (.type T))
    (hN : X.N[i]? = some n := by rfl) (hv : Vis X.env.scope n := by first | exact Or.inl rfl | exact Or.inr (Or.inl rfl) | exact Or.inr (Or.inr rfl)) (hd : (n == ("__debug__" : Str)) = false := by decide) (hcd : (n == ("__classdict__" : Str)) = false := by decide) (hnD : D ≠ "__name__" := by decide) (hdb : (D == ("__debug__" : Str)) = false := by decide) :
    PT (X.suite a ((a, oe) :: pn)) (.Call (.Name "isinstance" p1) [.Name n p2, .Name D p3] [] pos) (LXT X.K E M (some i) a cls d fun C _ => tIsX3 l C) :=
  pt_imp (pt_val (pe_callB (X := X.suite a ((a, oe) :: pn)) (call_isXT hz hf) hgi hmi hvi (pa_cons (pe_var (X := X.suite a ((a, oe) :: pn)) (i := i) hN hv hd hcd) (pa_cons (pe_bltn (v := V.ty T) hgD hmD hvD rfl hnD hdb) pa_nil)))) fun σ H Q ⟨F, S, τ, Q3, C, dd, fs, gs, h1, h2, h3, h4, R, Ev, h5, h6, ⟨b, hb, q⟩, k⟩ =>
    ⟨.ref a, h4 i rfl, C, dd, gs, b, rfl, h1, h2, (R.fz dd _ h5).1, hM C h3, hl C b hb, b, rfl, k F S H b (Sm.refl F) R q⟩
end
/-! ### the hook -/
abbrev AlZ : Type := AlX × Bool
def obsZ (n : Nat) (fa : List He.Fa) (fn : List He.DefD) (tn : List (Str × Option Str)) (el : List ErrD) (kl : KitL) (bl : BltL) (ql : CtL) (il : List Str) (tl : List (Str × String × Bool)) (g : Addr → Option Obj) : AlZ :=
  (fun K : PySem.W.Frag => (((He.obsD fa fn K, (tn.all fun p => tabB g K (He.fAd K p)) && apart (tn.map fun p => (tabOf g K (He.fAd K p)).2)), ((el.all fun e => e.ok K) && bl.all fun q => bltB K q) && kl.all fun q => kitB K q, el.map fun e => fnN K (e.ini K)), (ql.all fun q => ctB K q) && ((il.all fun c => isB K (He.ga K c)) && tl.all fun q => tyB K q))) (He.frG g (noTabs g (He.asD g n) ++ [cStatics]))
def hookZ (n : Nat) (fa : List He.Fa) (fn : List He.DefD) (tn : List (Str × Option Str)) (el : List ErrD) (kl : KitL) (bl : BltL) (ql : CtL) (il : List Str) (tl : List (Str × String × Bool)) : PySem.W.Hook where
  α := AlZ
  obs := fun s => obsZ n fa fn tn el kl bl ql il tl s.heap.get?
  val := fun _ => (((He.valD fn, true), true, el.map ErrD.val), true)
  says := fun _ h => ∃ K : PySem.W.Frag, K.In h ∧ He.SaysD fa fn K ∧ ((∃ cs, Tabs K h tn cs) ∧ ErrSays K el kl bl) ∧ CtSays K ql ∧ IsSays K il ∧ TySays K tl
  of := fun _ s e => by
    have e1 := congrArg (fun z : AlZ => z.1.1.1) e
    obtain ⟨e2, e3⟩ := Bool.and_eq_true_iff.mp (congrArg (fun z : AlZ => z.1.1.2) e)
    obtain ⟨e4, e5⟩ := Bool.and_eq_true_iff.mp (congrArg (fun z : AlZ => z.1.2.1) e)
    have e6 := congrArg (fun z : AlZ => z.1.2.2) e
    obtain ⟨e8, e9⟩ := Bool.and_eq_true_iff.mp (congrArg (fun z : AlZ => z.2) e)
    obtain ⟨e9, e10⟩ := Bool.and_eq_true_iff.mp e9
    obtain ⟨e4, e7⟩ := Bool.and_eq_true_iff.mp e4
    refine ⟨_, He.frG_in, e1, ⟨⟨_, paired_map _ tn fun p hp => tabB_ok (List.all_eq_true.mp e2 p hp), by rw [List.map_map]; exact apart_ok e3⟩, fun q hq => of_decide_eq_true (List.all_eq_true.mp e7 q hq), fun d hd => ErrD.errC (map_same e6 d hd) (List.all_eq_true.mp e4 d hd), fun q hq => ?_⟩, fun q hq => List.all_eq_true.mp e8 q hq, fun q hq => List.all_eq_true.mp e9 q hq, fun q hq => of_decide_eq_true (List.all_eq_true.mp e10 q hq)⟩
    obtain ⟨h1, h2⟩ := Bool.and_eq_true_iff.mp (List.all_eq_true.mp e5 q hq)
    exact ⟨of_decide_eq_true h1, of_decide_eq_true h2⟩
  keeps := fun _ _ _ ⟨K, i, c, ⟨⟨cs, t⟩, r⟩, q⟩ k => ⟨K, PySem.W.Frag.In.keeps i k, c, ⟨⟨cs, Paired.mapP t.all fun _ _ q => q.keeps k, t.apart⟩, r⟩, q⟩
theorem obsZ_eq {n : Nat} {fa : List He.Fa} {fn : List He.DefD} {tn : List (Str × Option Str)} {el : List ErrD} {kl : KitL} {bl : BltL} {ql : CtL} {il : List Str} {tl : List (Str × String × Bool)} {g : Addr → Option Obj} {s : Shared} (h : ∀ a, g a = s.heap.get? a) : obsZ n fa fn tn el kl bl ql il tl g = (hookZ n fa fn tn el kl bl ql il tl).obs s := by
  obtain rfl : g = s.heap.get? := funext h
  rfl
end H3

/-! H3Y: x == y by the class' own def; methods called; instances made by keywords. -/
namespace H3
open PySem PySem.Spec L2
open PyProof.Rows hiding St
/-! ### x == y -/
section
variable {X : Cx} {K : PySem.W.Frag} {Ex : WX} {k : Nat} {f C : Addr} {fd : FuncData} {ps : List Str}
/-- x an instance of the class at C; y another one, or a tuple -/
def rOwnE (K : PySem.W.Frag) (C : Addr) (sp : Sp) : R2 := fun x y H Q => ∃ a b dx fs, x = .ref a ∧ y = .ref b ∧ H a = some (.ins C dx fs) ∧ ((∃ dy gs, H b = some (.ins C dy gs)) ∨ ∃ ys, SqT K H b ys) ∧ sp [x, y] H Q fun _ _ _ => False
theorem op_ownE {sp : Sp} (F : FnG X.prog X.w X.K X.mg X.base (L2.CX X.prog X.w) k f fd ps sp) (gd : X.A.guards = some []) (hr : Room k X.A) (tk : Takes X Ex) (M : Meth X.K C "__eq__" f) (nf : PySem.W.notFirst X.K C (.type "tuple") = true) (hb : Binds X.K fd ps []) :
    OpR X (compareOp .Eq) (rOwnE X.K C sp) := by
  rintro pins s σ H x y v u Q I rx ry ⟨a, b, dx, fs, rfl, rfl, ha, hy, q⟩
  cases (show v = .ref a from rx); cases (show u = .ref b from ry)
  obtain ⟨_, J1, _⟩ := ins_get I.hok ha
  obtain ⟨_, J1, _⟩ := J1.look
  obtain ⟨m, hF⟩ := I.fr
  have go : wpAny (model X.prog X.w) X.A (call (.ref f) [.ref a, .ref b]) (PySem.W.CmpBack (EP X pins σ Q)) X.xe s := by
    refine wpAny_mono (run_fng F gd hr hb (passes_call tk fun _ _ _ _ z => z.elim) I (us := [.ref a, .ref b]) (vs := [.ref a, .ref b]) (.cons rfl (.cons rfl .nil)) q) (fun w s' z => ?_) fun _ _ x => x
    obtain ⟨z, G, J, rz, qz⟩ := z
    exact SlX.cmpback rz ⟨z, G, J, rz, qz⟩
  rcases hy with ⟨dy, gs, hb2⟩ | ⟨ys, hb2⟩
  · obtain ⟨_, J2, _⟩ := ins_get I.hok hb2
    obtain ⟨_, J2, _⟩ := J2.look
    exact PySem.W.cmp_K (op := .Eq) (tb := .ref C) hr.units0 hF I.ok.mod.kin J1 J2.type (by simp [PySem.W.notFirst]) M.at_ M.fn go
  · obtain ⟨its, _, ⟨o, ho, hc, _⟩, _⟩ := I.tuple hb2
    exact PySem.W.cmp_K (op := .Eq) (tb := .type "tuple") hr.units0 hF I.ok.mod.kin J1 (fun A Q E s k q => wpAny_typeOf_ref (k _ _ ho) (by rw [hc]; exact q)) nf M.at_ M.fn go
/-- as values -/
def gEqO (C : Addr) (sp : Sp3) : R3 := fun w u S Q => ∃ a fs, w = .r a ∧ S a = some (.ins C fs) ∧ ((∃ b gs, u = .r b ∧ S b = some (.ins C gs)) ∨ ∃ ds, u = .d (.tuple ds)) ∧ sp [w, u] S Q X0
theorem l_eqO {sp : Sp3} : OpL K (gEqO C sp) (rOwnE K C (LSp K sp)) := fun F S H w u x y Q3 Q R rw ru ⟨a, fs, e, hS, hu, q⟩ kq => by
  subst e
  cases (show x = .ref a from rw)
  obtain ⟨_, o, ho, dx, gs, rfl, _⟩ := R.st a _ hS
  have out : ∀ {b : Addr}, RepW K F u (.ref b) → LSp K sp [.ref a, .ref b] H Q fun _ _ _ => False := fun r => ⟨F, S, [.r a, u], Q3, X0, R, .cons rfl (.cons r .nil), q, kq, KX.no⟩
  rcases hu with ⟨b, gs2, e, hS2⟩ | ⟨ds, e⟩
  · subst e
    cases (show y = .ref b from ru)
    obtain ⟨_, o2, ho2, dy, gs3, rfl, _⟩ := R.st b _ hS2
    exact ⟨a, b, dx, gs, rfl, rfl, ho, .inl ⟨dy, gs3, ho2⟩, out rfl⟩
  · subst e
    have ru2 := ru
    cases (show Dp K F.f y (.tuple ds) from ru) with
    | @tup b vs _ hs ha => exact ⟨a, b, dx, gs, rfl, rfl, ho, .inr ⟨_, sqt_mono R.same hs.sqt⟩, out ru2⟩
end
/-! ### o.m(..), C(k = v, ..) -/
/-- self stands ahead of keywords -/
structure KwTo1 (fd : FuncData) (ps ks : List Str) (g : {α : Type} → List α → List α) : Prop where
  to : ∀ (s : Shared) (v : Value) (ws : List Value), ws.length = ks.length → BindsTo s fd ⟨[v], ks.zip ws⟩ (ps.zip (v :: g ws))
  rel : ∀ {zs : List V} {ws : List Value}, zs.length = ks.length → Vals zs ws → Vals (g zs) (g ws)
section
variable {X : Cx} {Ex : WX} {k : Nat} {f C : Addr} {fd : FuncData} {ps ks : List Str} {m x : Str} {p pos apos : Pos} {e o : Expr} {es : List Expr} {kws : List Keyword}
section
variable {sp : Sp} {E : St → XK} {ta : TE} {t : TA}
theorem ran {pins : List (Addr × Obj)} {σ : St} {H : Hp} {s : Shared} {Q : VK} {args : Args} {us : List Value} {vs : List V} (F : FnG X.prog X.w X.K X.mg X.base (L2.CX X.prog X.w) k f fd ps sp) (gd : X.A.guards = some []) (hr : Room k X.A) (hx : ∀ σ, PassesAt (L2.CX X.prog X.w) X σ (E σ))
    (I : Inv X pins σ H s) (hb : BindsTo s fd args (ps.zip us)) (r : Vals vs us) (q : sp vs H Q (E σ)) : codeAny (model X.prog X.w) X.A (.call (.ref f) args) (wants (EP X pins σ Q) X.xe) s := by
  apply codeAny_mono (F.run X.A X.stack s H args us vs Q _ gd hr I.env0 hb r q)
  intro o s' ho
  cases o with
  | error e => exact hx σ pins H s e s' I ho
  | ok fl => cases fl <;> first | exact I.after ho | exact ho.elim
theorem pe_methGs {pl : Sem Bool} (he : PE X o ta) (c : Cls X.K C) (hm : Meth X.K C m f) (F : FnG X.prog X.w X.K X.mg X.base (L2.CX X.prog X.w) k f fd ps sp) (gd : X.A.guards = some []) (hr : Room k X.A) (hb : Binds X.K fd ps []) (hx : ∀ σ, PassesAt (L2.CX X.prog X.w) X σ (E σ)) (ha : PA X (e :: es) t)
    (hst : starEach (e :: es) X.env = (false, eval e X.env) :: starEach es X.env := by rfl)
    (pln : (backTo pos (starEach es X.env)).any (·.1) = false := by rfl)
    (ht : eval (.Call (.Attribute o m apos) (e :: es) [] pos) X.env = (do let ov ← eval o X.env; standAt apos.atName; let (f, first) ← holding [ov] (getMethod ov m pl); callWith pos f first (backTo pos (starEach (e :: es) X.env)) (backToKw pos (keywordEach [] X.env))) := by rfl) :
    PE X (.Call (.Attribute o m apos) (e :: es) [] pos) (fun σ H Q => ta σ H fun z H1 => ∃ a dx fs, z = .ref a ∧ H1 a = some (.ins C dx fs) ∧ fs.lookup m = none ∧ t σ H1 fun vs H2 => sp (.ref a :: vs) H2 Q (E σ)) := by
  constructor
  intro pins s σ H Q I h
  refine PySem.W.methodCall_KW (pl := pl) ?_ ht
  refine thn (he.run pins s σ H _ I h) fun u s1 h1 => ?_
  obtain ⟨z, H1, I1, rz, a, dx, fs, ez, ea, l, q⟩ := h1
  subst ez
  cases (show u = Value.ref a from rz)
  refine getmeth_ok I1 ea c hm l (PySem.W.callWith_K (first := [.ref a]) (h₀ := X.base) I.ok.mod.kin hm.kp ?_ hst pln)
  refine thn (ha.run pos pins s1 σ H1 _ I1 q) fun us s2 h2 => ?_
  obtain ⟨vs, H2, I2, r, q2⟩ := h2
  have hl : (Value.ref a :: us).length = ps.length := (congrArg Nat.succ r.length).symm.trans (F.len (.ref a :: vs) H2 Q _ q2)
  have hb' : BindsTo s2 fd ⟨.ref a :: us, []⟩ (ps.zip (.ref a :: us)) := by simpa using hb s2 (.ref a :: us) I2.kIn (by simpa using hl)
  exact ⟨I2.kIn, wpAny_call (ran (vs := .ref a :: vs) F gd hr hx I2 hb' (.cons rfl r) q2)⟩
theorem pe_methGs0 {pl : Sem Bool} (he : PE X o ta) (c : Cls X.K C) (hm : Meth X.K C m f) (F : FnG X.prog X.w X.K X.mg X.base (L2.CX X.prog X.w) k f fd ps sp) (gd : X.A.guards = some []) (hr : Room k X.A) (hb : Binds X.K fd ps []) (hx : ∀ σ, PassesAt (L2.CX X.prog X.w) X σ (E σ))
    (ht : eval (.Call (.Attribute o m apos) [] [] pos) X.env = (do let ov ← eval o X.env; standAt apos.atName; let (f, first) ← holding [ov] (getMethod ov m pl); callWith pos f first (backTo pos (starEach [] X.env)) (backToKw pos (keywordEach [] X.env))) := by rfl) :
    PE X (.Call (.Attribute o m apos) [] [] pos) (fun σ H Q => ta σ H fun z H1 => ∃ a dx fs, z = .ref a ∧ H1 a = some (.ins C dx fs) ∧ fs.lookup m = none ∧ sp [.ref a] H1 Q (E σ)) := by
  constructor
  intro pins s σ H Q I h
  refine PySem.W.methodCall_KW (pl := pl) ?_ ht
  refine thn (he.run pins s σ H _ I h) fun u s1 h1 => ?_
  obtain ⟨z, H1, I1, rz, a, dx, fs, ez, ea, l, q⟩ := h1
  subst ez
  cases (show u = Value.ref a from rz)
  refine getmeth_ok I1 ea c hm l (PySem.W.callWith_K0 (first := [.ref a]) I1.kIn hm.kp ?_)
  have hl : [Value.ref a].length = ps.length := F.len [.ref a] H1 Q _ q
  have hb' : BindsTo s1 fd ⟨[.ref a], []⟩ (ps.zip [.ref a]) := by simpa using hb s1 [.ref a] I1.kIn (by simpa using hl)
  exact wpAny_call (ran (vs := [.ref a]) F gd hr hx I1 hb' (.cons rfl .nil) q)
theorem pe_methGk {pl : Sem Bool} {g : {α : Type} → List α → List α} (he : PE X o ta) (c : Cls X.K C) (hm : Meth X.K C m f) (F : FnG X.prog X.w X.K X.mg X.base (L2.CX X.prog X.w) k f fd ps sp) (gd : X.A.guards = some []) (hr : Room k X.A) (hb : KwTo1 fd ps ks g) (hx : ∀ σ, PassesAt (L2.CX X.prog X.w) X σ (E σ)) (hkw : PK X kws t) (kc : KwCall X pos kws ks)
    (ht : eval (.Call (.Attribute o m apos) [] kws pos) X.env = (do let ov ← eval o X.env; standAt apos.atName; let (f, first) ← holding [ov] (getMethod ov m pl); callWith pos f first (backTo pos (starEach [] X.env)) (backToKw pos (keywordEach kws X.env))) := by rfl) :
    PE X (.Call (.Attribute o m apos) [] kws pos) (fun σ H Q => ta σ H fun z H1 => ∃ a dx fs, z = .ref a ∧ H1 a = some (.ins C dx fs) ∧ fs.lookup m = none ∧ t σ H1 fun zs H2 => zs.length = ks.length ∧ sp (.ref a :: g zs) H2 Q (E σ)) := by
  constructor
  intro pins s σ H Q I h
  refine PySem.W.methodCall_KW (pl := pl) ?_ ht
  refine thn (he.run pins s σ H _ I h) fun u s1 h1 => ?_
  obtain ⟨z, H1, I1, rz, a, dx, fs, ez, ea, l, q⟩ := h1
  subst ez
  cases (show u = Value.ref a from rz)
  refine getmeth_ok I1 ea c hm l (PySem.W.callWith_KW0 (first := [.ref a]) (h₀ := X.base) I.ok.mod.kin hm.kp kc.all ?_ kc.plain)
  refine thn (hkw.run pos pins s1 σ H1 _ I1 q) fun ws s2 h2 => ?_
  obtain ⟨zs, H2, I2, rz2, hz, q2⟩ := h2
  refine ⟨I2.kIn, ?_⟩
  rw [kc.names]
  exact wpAny_call (ran (us := .ref a :: g ws) (vs := .ref a :: g zs) F gd hr hx I2 (hb.to s2 (.ref a) ws (rz2.length ▸ hz)) (.cons rfl (hb.rel hz rz2)) q2)
theorem pe_makeGk {g : {α : Type} → List α → List α} (M : Mk X.K C f) (F : FnG X.prog X.w X.K X.mg X.base (L2.CX X.prog X.w) k f fd ps sp) (gd : X.A.guards = some []) (hr : Room (k + 1) X.A) (hg : Gl X x) (hm : X.mg x = some (.ref C)) (hb : KwTo1 fd ps ks g) (hx : ∀ σ, PassesAt (L2.CX X.prog X.w) X σ (E σ)) (hkw : PK X kws t) (kc : KwCall X pos kws ks)
    (hdb : (x == ("__debug__" : Str)) = false := by decide) :
    PE X (.Call (.Name x p) [] kws pos) (fun σ H Q => t σ H fun zs H1 => zs.length = ks.length ∧ ∀ y dx, H1 y = none → H1 dx = none → dx ≠ y → sp (.ref y :: g zs) (upd (upd H1 dx (.own y)) y (.ins C dx [])) (fun v H2 => v = .non ∧ Q (.ref y) H2) (E σ)) := by
  constructor
  intro pins s σ H Q I h
  apply wpAny_Call_Name_kw
  apply ld_glob I hg hm _ hdb
  apply PySem.W.callWith_KW0 (h₀ := X.base) I.ok.mod.kin M.kp kc.all _ kc.plain
  refine thn (hkw.run pos pins s σ H _ I h) fun ws s1 h1 => ?_
  obtain ⟨zs, H1, I1, rz, hz, q⟩ := h1
  refine ⟨I1.kIn, ?_⟩
  rw [kc.names]
  have hq := q (s1.heap.objs.size + 1) s1.heap.objs.size (I1.hok.fresh (Nat.le_succ _)) (I1.hok.fresh (Nat.le_refl _)) (Nat.ne_of_lt (Nat.lt_succ_self _))
  have I2 := Inv.made (C := C) I1
  refine wpAny_call (make_map (f := f) I1.kIn M.makes M.init (beq_iff_eq.mp M.fn) ?_)
  refine codeAny_mono (F.run _ X.stack _ _ ⟨[Value.ref (s1.heap.objs.size + 1)], ks.zip ws⟩ (Value.ref (s1.heap.objs.size + 1) :: g ws) (V.ref (s1.heap.objs.size + 1) :: g zs) _ _ (guards_make gd) (hr.make C [] (ks.zip ws)) (I2.env0.make C [] (ks.zip ws)) (hb.to _ _ ws (rz.length ▸ hz)) (.cons rfl (hb.rel hz rz)) hq) fun o s' ho => ?_
  cases o with
  | error e => exact hx σ pins _ _ e s' I2 ho
  | ok fl =>
    cases fl with
    | ret u =>
      obtain ⟨v, G, I3, rv, ev, q3⟩ := I2.after ho
      subst ev
      exact ⟨rv, ⟨V.ref (s1.heap.objs.size + 1), G, I3, rfl, q3⟩⟩
    | next => exact ho.elim
    | brk => exact ho.elim
    | cont => exact ho.elim
end
section
variable {sp : Sp3} {to : TE3} {t : TA3} {gW : List W → List W} {g : {α : Type} → List α → List α}
def tMeth3 (C : Addr) (m : Str) (sp : Sp3) (to : TE3) (t : TA3) : TE3 := fun τ S Q => to τ S fun w S1 => ∃ a fs, w = .r a ∧ S1 a = some (.ins C fs) ∧ fs.lookup m = none ∧ t τ S1 fun ws S2 => sp (w :: ws) S2 Q fun C fs S3 => τ.ex C fs τ.sl S3
def tMethK3 (C : Addr) (m : Str) (sp : Sp3) (gW : List W → List W) (n : Nat) (to : TE3) (t : TA3) : TE3 := fun τ S Q => to τ S fun w S1 => ∃ a fs, w = .r a ∧ S1 a = some (.ins C fs) ∧ fs.lookup m = none ∧ t τ S1 fun ws S2 => ws.length = n ∧ sp (w :: gW ws) S2 Q fun C fs S3 => τ.ex C fs τ.sl S3
def tMkK3 (C : Addr) (sp : Sp3) (gW : List W → List W) (n : Nat) (t : TA3) : TE3 := fun τ S Q => t τ S fun ws S1 => ws.length = n ∧ ∀ y, S1 y = none → sp (.r y :: gW ws) (put S1 y (.ins C [])) (fun w S2 => w = .non ∧ Q (.r y) S2) fun C fs S2 => τ.ex C fs τ.sl S2
theorem RepFs.lookNone {K : PySem.W.Frag} {F : Fz} {fs : List (Str × W)} {gs : List (Str × V)} (r : RepFs K F fs gs) {f : Str} (h : fs.lookup f = none) : gs.lookup f = none := by
  induction r with
  | nil => rfl
  | @cons p q _ _ a t ih =>
    obtain ⟨x, w0⟩ := p
    obtain ⟨y, v0⟩ := q
    obtain ⟨e, r0⟩ := a
    have e : x = y := e
    subst e
    rw [List.lookup_cons] at h ⊢
    cases q : f == x with
    | true => rw [q] at h; cases h
    | false => rw [q] at h; exact ih h
theorem pe3_meth {pl : Sem Bool} (he : PE X o (LE X.K Ex to)) (c : Cls X.K C) (hm : Meth X.K C m f) (F : FnG X.prog X.w X.K X.mg X.base (L2.CX X.prog X.w) k f fd ps (LSp X.K sp)) (gd : X.A.guards = some []) (hr : Room k X.A) (tk : Takes X Ex) (hb : Binds X.K fd ps []) (ha : PA X (e :: es) (LA X.K Ex t))
    (hst : starEach (e :: es) X.env = (false, eval e X.env) :: starEach es X.env := by rfl)
    (pln : (backTo pos (starEach es X.env)).any (·.1) = false := by rfl)
    (ht : eval (.Call (.Attribute o m apos) (e :: es) [] pos) X.env = (do let ov ← eval o X.env; standAt apos.atName; let (f, first) ← holding [ov] (getMethod ov m pl); callWith pos f first (backTo pos (starEach (e :: es) X.env)) (backToKw pos (keywordEach [] X.env))) := by rfl) :
    PE X (.Call (.Attribute o m apos) (e :: es) [] pos) (LE X.K Ex (tMeth3 C m sp to t)) :=
  pe_imp (pe_methGs (pl := pl) he c hm F gd hr hb (fun σ => passAt tk σ) ha hst pln ht) fun σ H Q ⟨F, S, τ, Q3, R, Ev, h, k⟩ =>
    ⟨F, S, τ, _, R, Ev, h, fun F1 S1 H1 w v s1 R1 r1 ⟨a, fs, ew, hs, hl, q⟩ => by
      subst ew
      cases (show v = .ref a from r1)
      obtain ⟨_, _, ho, dx, gs, rfl, rf⟩ := R1.st a _ hs
      exact ⟨a, dx, gs, rfl, ho, rf.lookNone hl, F1, S1, τ, _, R1, Ev.mono s1, q, fun F2 S2 H2 ws vs s2 R2 r2 q2 => ⟨F2, S2, .r a :: ws, Q3, _, R2, .cons rfl r2, q2, k.mono (s1.trans s2), kx_of Ev (s1.trans s2)⟩⟩⟩
theorem pe3_meth0 {pl : Sem Bool} (he : PE X o (LE X.K Ex to)) (c : Cls X.K C) (hm : Meth X.K C m f) (F : FnG X.prog X.w X.K X.mg X.base (L2.CX X.prog X.w) k f fd ps (LSp X.K sp)) (gd : X.A.guards = some []) (hr : Room k X.A) (tk : Takes X Ex) (hb : Binds X.K fd ps [])
    (ht : eval (.Call (.Attribute o m apos) [] [] pos) X.env = (do let ov ← eval o X.env; standAt apos.atName; let (f, first) ← holding [ov] (getMethod ov m pl); callWith pos f first (backTo pos (starEach [] X.env)) (backToKw pos (keywordEach [] X.env))) := by rfl) :
    PE X (.Call (.Attribute o m apos) [] [] pos) (LE X.K Ex (tMeth3 C m sp to tNil3)) :=
  pe_imp (pe_methGs0 (pl := pl) he c hm F gd hr hb (fun σ => passAt tk σ) ht) fun σ H Q ⟨F, S, τ, Q3, R, Ev, h, k⟩ =>
    ⟨F, S, τ, _, R, Ev, h, fun F1 S1 H1 w v s1 R1 r1 ⟨a, fs, ew, hs, hl, q⟩ => by
      subst ew
      cases (show v = .ref a from r1)
      obtain ⟨_, _, ho, dx, gs, rfl, rf⟩ := R1.st a _ hs
      exact ⟨a, dx, gs, rfl, ho, rf.lookNone hl, F1, S1, [.r a], Q3, _, R1, .cons rfl .nil, q, k.mono s1, kx_of Ev s1⟩⟩
theorem pe3_methK {pl : Sem Bool} (he : PE X o (LE X.K Ex to)) (c : Cls X.K C) (hm : Meth X.K C m f) (F : FnG X.prog X.w X.K X.mg X.base (L2.CX X.prog X.w) k f fd ps (LSp X.K sp)) (gd : X.A.guards = some []) (hr : Room k X.A) (tk : Takes X Ex) (hb : KwTo1 fd ps ks g)
    (hgW : ∀ (F : Fz) (ws : List W) (vs : List V), ws.length = ks.length → RepWs X.K F ws vs → RepWs X.K F (gW ws) (g vs)) (hkw : PK X kws (LA X.K Ex t)) (kc : KwCall X pos kws ks := by exact ⟨rfl, rfl, rfl⟩)
    (ht : eval (.Call (.Attribute o m apos) [] kws pos) X.env = (do let ov ← eval o X.env; standAt apos.atName; let (f, first) ← holding [ov] (getMethod ov m pl); callWith pos f first (backTo pos (starEach [] X.env)) (backToKw pos (keywordEach kws X.env))) := by rfl) :
    PE X (.Call (.Attribute o m apos) [] kws pos) (LE X.K Ex (tMethK3 C m sp gW ks.length to t)) :=
  pe_imp (pe_methGk (pl := pl) he c hm F gd hr hb (fun σ => passAt tk σ) hkw kc ht) fun σ H Q ⟨F, S, τ, Q3, R, Ev, h, k⟩ =>
    ⟨F, S, τ, _, R, Ev, h, fun F1 S1 H1 w v s1 R1 r1 ⟨a, fs, ew, hs, hl, q⟩ => by
      subst ew
      cases (show v = .ref a from r1)
      obtain ⟨_, _, ho, dx, gs, rfl, rf⟩ := R1.st a _ hs
      exact ⟨a, dx, gs, rfl, ho, rf.lookNone hl, F1, S1, τ, _, R1, Ev.mono s1, q, fun F2 S2 H2 ws vs s2 R2 r2 ⟨n2, q2⟩ => ⟨(Paired.length r2).symm.trans n2, F2, S2, .r a :: gW ws, Q3, _, R2, .cons rfl (hgW F2 ws vs n2 r2), q2, k.mono (s1.trans s2), kx_of Ev (s1.trans s2)⟩⟩⟩
theorem pe3_makeK (M : Mk X.K C f) (F : FnG X.prog X.w X.K X.mg X.base (L2.CX X.prog X.w) k f fd ps (LSp X.K sp)) (gd : X.A.guards = some []) (hr : Room (k + 1) X.A) (tk : Takes X Ex) (hg : Gl X x) (hm : X.mg x = some (.ref C)) (hb : KwTo1 fd ps ks g)
    (hgW : ∀ (F : Fz) (ws : List W) (vs : List V), ws.length = ks.length → RepWs X.K F ws vs → RepWs X.K F (gW ws) (g vs)) (hkw : PK X kws (LA X.K Ex t)) (kc : KwCall X pos kws ks := by exact ⟨rfl, rfl, rfl⟩) (hdb : (x == ("__debug__" : Str)) = false := by decide) :
    PE X (.Call (.Name x p) [] kws pos) (LE X.K Ex (tMkK3 C sp gW ks.length t)) :=
  pe_imp (pe_makeGk M F gd hr hg hm hb (fun σ => passAt tk σ) hkw kc hdb) fun σ H Q ⟨F, S, τ, Q3, R, Ev, h, k⟩ =>
    ⟨F, S, τ, _, R, Ev, h, fun F1 S1 H1 ws vs s1 R1 r1 ⟨n1, h1⟩ => ⟨(Paired.length r1).symm.trans n1, fun y dx hy hd ne => by
      have hy2 : upd H1 dx (.own y) y = none := by rw [upd_ne ne.symm]; exact hy
      refine ⟨F1, put S1 y (.ins C []), .r y :: gW ws, _, _, (R1.apart hd).newS hy2 ⟨dx, [], rfl, .nil⟩, .cons rfl (hgW F1 ws vs n1 r1), h1 y (R1.freeS hy), fun F2 S2 H2 w v s2 R2 r2 ⟨ew, q⟩ => ?_, kx_of Ev s1⟩
      subst ew
      exact ⟨by cases r2; rfl, k F2 S2 H2 (.r y) (.ref y) (s1.trans s2) R2 rfl q⟩⟩⟩
end
end
/-! ### texts compared; a sign in a text -/
section
variable {K : PySem.W.Frag}
def gLtS : R3 := fun w u S Q => ∃ i j : Str, w = .str i ∧ u = .str j ∧ Q (.bl (decide (i.cps.toList < j.cps.toList))) S
def gLeS : R3 := fun w u S Q => ∃ i j : Str, w = .str i ∧ u = .str j ∧ Q (.bl (!decide (j.cps.toList < i.cps.toList))) S
theorem l_ltS : OpL K gLtS (fun x y H Q => ∃ i j, x = .str i ∧ y = .str j ∧ Q (.bl (decide (i.cps.toList < j.cps.toList))) H) := fun F S H w u x y Q3 Q R rw ru ⟨i, j, e1, e2, q⟩ k => by
  subst e1 e2
  exact ⟨i, j, rep_str rw, rep_str ru, k F S H _ _ (Sm.refl F) R mk_bl q⟩
theorem l_leS : OpL K gLeS (fun x y H Q => ∃ i j, x = .str i ∧ y = .str j ∧ Q (.bl (!decide (j.cps.toList < i.cps.toList))) H) := fun F S H w u x y Q3 Q R rw ru ⟨i, j, e1, e2, q⟩ k => by
  subst e1 e2
  exact ⟨i, j, rep_str rw, rep_str ru, k F S H _ _ (Sm.refl F) R mk_bl q⟩
def gInC (neg : Bool) : R3 := fun w u S Q => ∃ (c : Nat) (z : Str), w = .str ⟨#[c]⟩ ∧ u = .str z ∧ Q (.bl (if neg then !decide (c ∈ z.cps.toList) else decide (c ∈ z.cps.toList))) S
theorem l_inC : OpL K (gInC false) rInS := fun F S H w u x y Q3 Q R rw ru ⟨c, z, e1, e2, q⟩ k => by
  subst e1 e2
  exact ⟨c, z, rep_str rw, rep_str ru, k F S H _ _ (Sm.refl F) R mk_bl q⟩
theorem l_notinC : OpL K (gInC true) rNotInS := fun F S H w u x y Q3 Q R rw ru ⟨c, z, e1, e2, q⟩ k => by
  subst e1 e2
  exact ⟨c, z, rep_str rw, rep_str ru, k F S H _ _ (Sm.refl F) R mk_bl q⟩
end
end H3

/-! H3AA: try with two clauses 'except C as e'; isinstance of an instance and a class that is built in. -/
namespace H3
open PySem PySem.Spec L2
open PyProof.Rows hiding St
/-! ### isinstance(x, T), T built in, x data or an instance -/
structure OwnT (K : PySem.W.Frag) (l : Cat) (n : String) : Prop where
  ow : ∀ D b, List.lookup D l = some b → Cls K D ∧ IsF K D ∧ PySem.W.kitOne K (.ref D) (.type n) = some b
def gIsT (l : Cat) (m : String) : RC3 := fun ws S Q => ∃ w, ws = [w, .ty m] ∧ ((∃ d b, viewW S w = some d ∧ isiB d m = some b ∧ Q (.bl b) S) ∨ ∃ a D fs b, w = .r a ∧ S a = some (.ins D fs) ∧ List.lookup D l = some b ∧ Q (.bl b) S)
theorem l_isT {K : PySem.W.Frag} {l : Cat} {m : String} (o : OwnT K l m) : CallL K (gIsT l m) (rIsi K) := fun F S H ws vs Q3 Q R r ⟨w, e, h⟩ k => by
  subst e
  obtain ⟨v, y, rfl, rv, ry⟩ := ws2 r
  cases (show y = .ty m from ry)
  rcases h with ⟨d, b, hd, hb, q⟩ | ⟨a, D, fs, b, e, hS, hb, q⟩
  · exact ⟨v, .ty m, _, _, b, rfl, .ty m, dp_ty (view_rep R rv hd), kit_ty hb, k F S H _ _ (Sm.refl F) R mk_bl q⟩
  · subst e
    cases (show v = .ref a from rv)
    obtain ⟨_, o2, ho, dx, gs, rfl, _⟩ := R.st a _ hS
    obtain ⟨c1, c2, c3⟩ := o.ow D b hb
    exact ⟨.ref a, .ty m, .ref D, _, b, rfl, .ty m, .base (.ins ho c1 c2.clsF c2.getF c2.takF c2.topF), c3, k F S H _ _ (Sm.refl F) R mk_bl q⟩
/-! ### isinstance(x, C), where instances of other own classes may come -/
structure OwnM (K : PySem.W.Frag) (l : Cat) (C : Addr) : Prop where
  f : IsF K C
  ow : ∀ D b, (D, b) ∈ l → Cls K D ∧ IsF K D ∧ PySem.W.kitOne K (.ref D) (.ref C) = some b
def gIsM (l : Cat) (C : Addr) : RC3 := fun ws S Q => ∃ w, ws = [w, .r C] ∧ ((∃ d, viewW S w = some d ∧ d.canLay0 = true ∧ Q (.bl false) S) ∨ (∃ a us, w = .r a ∧ S a = some (.lst us) ∧ Q (.bl false) S) ∨ ∃ a D fs b, w = .r a ∧ S a = some (.ins D fs) ∧ (D, b) ∈ l ∧ Q (.bl b) S)
theorem l_isM {K : PySem.W.Frag} {l : Cat} {C : Addr} (o : OwnM K l C) : CallL K (gIsM l C) (rIsi K) := fun F S H ws vs Q3 Q R r ⟨w, e, h⟩ k => by
  subst e
  obtain ⟨v, y, rfl, rv, ry⟩ := ws2 r
  cases (show y = .ref C from ry)
  rcases h with ⟨d, hd, hl, q⟩ | ⟨a, us, e, hS, q⟩ | ⟨a, D, fs, b, e, hS, hb, q⟩
  · exact ⟨v, .ref C, _, .ref C, false, rfl, .own C, dp_ty (view_rep R rv hd), o.f.bt _ (tyD_six hl), k F S H _ _ (Sm.refl F) R mk_bl q⟩
  · subst e
    cases (show v = .ref a from rv)
    obtain ⟨_, o2, ho, xs, rfl, _⟩ := R.st a _ hS
    exact ⟨.ref a, .ref C, .type "list", .ref C, false, rfl, .own C, .base (.lst ho), o.f.bt "list" (by simp), k F S H _ _ (Sm.refl F) R mk_bl q⟩
  · subst e
    cases (show v = .ref a from rv)
    obtain ⟨_, o2, ho, dx, gs, rfl, _⟩ := R.st a _ hS
    obtain ⟨c1, c2, c3⟩ := o.ow D b hb
    exact ⟨.ref a, .ref C, .ref D, .ref C, b, rfl, .own C, .base (.ins ho c1 c2.clsF c2.getF c2.takF c2.topF), c3, k F S H _ _ (Sm.refl F) R mk_bl q⟩
/-! ### for x in (a, b, ..): a tuple that is written, of any things -/
def tTupL3 (t : TA3) : TI3 := fun τ S Q => t τ S fun ws S1 => ws.length ≤ 1000 ∧ Q ws S1
theorem yl_tupW {K : PySem.W.Frag} {F : Fz} {a : Addr} {vs : List V} {ws : List W} (h : SqT K F.f a vs) (r : RepWs K F ws vs) : YL K F (Itt K a) ws := by
  have hl := Paired.length r
  have sq : ∀ {H F' S'}, Same F.f F'.f → Rel K F' S' H → SqT K H a vs := fun s R => sqt_mono R.same (sqt_mono s h)
  refine ⟨fun i H F' S' s R hi => ⟨vs, vs[i]'(by omega), sq s R, List.getElem?_eq_getElem (by omega)⟩, fun i H F' S' s R hi => ⟨vs, sq s R, by omega⟩, fun i H F' S' x H' s R hi ⟨e, y⟩ => ?_⟩
  subst e
  have hx := y vs (sq s R)
  obtain ⟨u, hu⟩ : ∃ u, ws[i]? = some u := ⟨_, List.getElem?_eq_getElem hi⟩
  obtain ⟨v, hv, rv⟩ := rep_get r hu
  rw [hx] at hv
  cases hv
  exact ⟨F', u, hu, Sm.refl _, R, rv.mono1 s⟩
theorem pi3_tupL {X : Cx} {Ex : WX} {tg : Expr} {es : List Expr} {t : TA3} {x1 : Nat} {pos : Pos} (h : PA X es (LA X.K Ex t)) : PI X tg (.Tuple es x1 pos) (LI X.K Ex (tTupL3 t)) :=
  pi_imp (pi_seq (pe_tupN h)) fun σ H R ⟨F, S, τ, Q3, Rl, Ev, h, k⟩ => ⟨F, S, τ, _, Rl, Ev, h, fun F1 S1 H1 ws vs s1 R1 r1 ⟨hl, q⟩ =>
    ⟨by rw [← Paired.length r1]; exact le1000 hl, fun p o hp no => by
      have s := sm_new (p := p) (o := HO.frz o (.tup vs)) (R1.freeF hp)
      have sq : SqT X.K (F1.new p (.frz o (.tup vs))).f p vs := .inl (.inr ⟨o, show upd F1.f p (HO.frz o (.tup vs)) p = _ from upd_same⟩)
      exact ⟨p, rfl, .inr ⟨⟨vs, sqt_mono (R1.newF hp).same sq⟩, k _ S1 _ ws (Itt X.K p) (s1.trans s) (R1.newF hp) (yl_tupW sq (r1.mono s)) q⟩⟩⟩⟩
/-- t.index(x) of a tuple of texts, the first place -/
def gTSx : RM3 := fun w ws S Q => ∃ (ys : List Str) (z : Str) (j : Nat), w = .tup (ys.map PyData.str) ∧ ws = [.str z] ∧ ys[j]? = some z ∧ (∀ m, m < j → ys[m]? ≠ some z) ∧ Q (.int (j : Nat)) S
theorem l_tsx {K : PySem.W.Frag} : MtL K gTSx (fun x xs H Q => ∃ p, ∃ ys : List Str, ∃ z j, x = .ref p ∧ xs = [.str z] ∧ SqT K H p (ys.map V.str) ∧ ys[j]? = some z ∧ (∀ m, m < j → ys[m]? ≠ some z) ∧ Q (.int (j : Nat)) H) := fun F S H w ws x vs Q3 Q R rw rs ⟨ys, z, j, e1, e2, h1, h2, q⟩ kk => by
  subst e1 e2
  obtain ⟨v, rfl, rv⟩ := ws1 rs
  obtain ⟨_, a, us, rfl, hs, ha⟩ := tup_rep R rw rfl
  have e3 := strs_of ha
  subst e3
  exact ⟨a, ys, z, j, rfl, by rw [rep_str rv], hs, h1, h2, kk F S H _ _ (Sm.refl F) R mk_int q⟩
/-- a, b, .. = a list of any things -/
def gLstR3 (n : Nat) (gs : TGs3) : TG3 := fun w τ S Q => ∃ a ws, w = .r a ∧ S a = some (.lst ws) ∧ ws.length = n ∧ gs ws τ S Q
theorem pg3_lstR {X : Cx} {Ex : WX} {pos : Pos} {es : List Expr} {kk n : Nat} {gs : TGs3} (hc : X.calm = true) (h : PGs X es (LGs X.K Ex gs)) (hn : (assignEach es X.env).length = n := by rfl) (hst : (assignEach es X.env).findIdx? (·.1) = none := by rfl) : PG X (.Tuple es kk pos) (LG X.K Ex (gLstR3 n gs)) :=
  pg_imp (pg_lst hc h hn hst) fun v σ H Q ⟨F, S, τ, w, Q3, R, Ev, r, ⟨a, ws, e, hS, hl, h⟩, k⟩ => by
    subst e
    obtain ⟨_, o, ho, vs, rfl, rv⟩ := R.st a _ hS
    cases (show v = .ref a from r)
    exact ⟨a, vs, rfl, .inl (.inl ho), by rw [← Paired.length rv]; exact hl, F, S, τ, _, Q3, R, Ev, rv, h, k⟩
/-! ### an exception at its clauses -/
/-- it flies over the frames, the state is the one without it -/
def Caught (X : Cx) (pins : List (Addr × Obj)) (σ : St) (H : Hp) (a : Addr) (cls : Value) (d : Option Addr) (s : Shared) : Prop := H a = none ∧ ∃ (B : Heap) (sI : Shared), Inv X pins σ H sI ∧
  (∀ b o, sI.heap.get? b = some o → b ∉ frs X.stack → B.get? b = some o) ∧ sI.heap.UpToSlots s.heap ∧ HandSPX.FlyingZ B (X.env :: X.outer) a (Zc cls d) s.heap ∧ s.os = sI.os ∧ AllBare s.gens
section
variable {X : Cx} {pins : List (Addr × Obj)} {σ : St} {H : Hp} {a : Addr} {cls : Value} {d : Option Addr} {s : Shared} {D : Ends} {Wout : WX} {c : Value} {x n : Str} {np pos' : Pos} {b₀ : Stmt} {suite : List Stmt} {hds : List ExceptHandler} {i : Nat} {ts : Addr → Value → Option Addr → TS}
/-- no clause is left: it flies on -/
theorem caught_on (hs : X.stack = X.env :: X.outer) (hf : X.env.frame = some X.env.locals) (tk : Takes X Wout) (z : Caught X pins σ H a cls d s) (w : Wout cls d σ H) : wpAny (model X.prog X.w) X.A (handleBy (.ref a) X.env []) (SP X pins D) X.xe s := by
  obtain ⟨na, B, sI, J, nb, up, fly, os, ag⟩ := z
  obtain ⟨-, -, -, oe, vs, T, oT, ts', at_, hz, dat, tb, hr⟩ := id fly
  have last : wpAny (model X.prog X.w) X.A (setFlight (.ref a) X.env.frame) (fun _ s1 => wpAny (model X.prog X.w) X.A (throw (.ref a) : Sem Flow) (SP X pins D) X.xe s1) X.xe s := by
    rw [hf]
    exact HandSPX.setFlight_upZ fly fun h1 held up1 => wpAny_throw (tk _ _ ⟨a, B, sI, pins, σ, H, cls, d, rfl, J, nb, up.trans up1, .inr (.inr (by rw [hs]; exact held)), na, os, ag, w⟩)
  refine wpAny_handleBy_nil ?_
  unfold PySem.passOn
  refine wpAny_bind (wpAny_field at_ dat tb ?_)
  rw [if_neg (by simp : ¬ ((Value.ref T == Value.none) = true))]
  first | exact wpAny_bind last | exact wpAny_bind (wpAny_pure (wpAny_bind last))
/-- a clause 'except x as n' is asked -/
theorem caught_as (ok : X.Ok) (hs : X.stack = X.env :: X.outer) (hf : X.env.frame = some X.env.locals) (hN : X.N.Nodup) (hi : X.N[i]? = some n) (hln : X.env.kindOf n = some .local) (hc : Names X x c) (z : Caught X pins σ H a cls d s) {b : Bool} (is : PySem.W.exmOne X.K cls c = some b)
    (hsu : ∀ (a : Addr) (oe : Obj) (cls : Value) (d : Option Addr) (pn : List (Addr × Obj)), Zc cls d oe → (∃ vs, oe.data = .fields vs) → PSs (X.suite a ((a, oe) :: pn)) (b₀ :: suite) (ts a cls d))
    (yes : b = true → ts a cls d { nx := fun σ' H' => D.nx (σ'.set i none) H', rt := D.rt, bk := fun σ' H' => D.bk (σ'.set i none) H', ct := fun σ' H' => D.ct (σ'.set i none) H' } (σ.set i (some (.ref a))) H)
    (no : b = false → wpAny (model X.prog X.w) X.A (handleBy (.ref a) X.env hds) (SP X pins D) X.xe s) : wpAny (model X.prog X.w) X.A (handleBy (.ref a) X.env (.ExceptHandler (some (.Name x np)) (some n) (b₀ :: suite) pos' :: hds)) (SP X pins D) X.xe s := by
  obtain ⟨na, B, sI, J, nb, up, fly, os, ag⟩ := z
  obtain ⟨oe, vs, at_, hz, dat⟩ := fly.there
  have far : a ∉ frs (X.env :: X.outer) := fun hm => by
    obtain ⟨_, o1, e1, fr⟩ := fly.2.2.1.mem hm
    rw [at_] at e1
    cases e1
    exact fr _ dat
  have nL : a ≠ X.env.locals := fun e => far (List.mem_filterMap.mpr ⟨X.env, List.mem_cons_self, by rw [hf, e]⟩)
  have nF : a ∉ X.fs := fun within => by
    obtain ⟨e, mem, q⟩ := List.mem_filterMap.mp within
    exact far (List.mem_filterMap.mpr ⟨e, List.mem_cons_of_mem _ mem, q⟩)
  have J1 : Inv X pins σ H s := J.landed nb fly.1 up os ag
  have S1 := J1.suite at_ dat na nL nF
  refine wpAny_handleBy_cons (codeAny_handlers_test ?_) (fun q => nomatch q)
  have ty : PySem.W.Looks (model X.prog X.w) s.heap (typeOf (.ref a)) cls := fun A Q E s k q => wpAny_typeOf_ref (k _ _ at_) (by rw [hz.1]; exact q)
  have look := PySem.W.exm_one (M := model X.prog X.w) J1.kIn ty is
  have name : ∀ {Q : Value → Shared → Prop} {E : Value → Shared → Prop}, Q c s → wpAny (model X.prog X.w) (X.A.mark (some (.ref a))) (eval (.Name x np) X.env) Q E s := fun {Q E} q => by
    rcases hc with ⟨hg, hdb, hm | ⟨hm, hv, hnn⟩⟩
    · exact ld_glob (X := X.suite a ((a, oe) :: (X.pn ++ pins))) S1 hg hm q hdb
    · exact ld_blt (X := X.suite a ((a, oe) :: (X.pn ++ pins))) S1 hg hm hv q hnn hdb
  refine name (look.here ?_)
  cases b with
  | false => exact no rfl
  | true =>
    refine codeAny_handlers_suite_as (HandSPX.lands_againZ fly fun h2 fly2 up2 => ?_)
    obtain ⟨oe2, vs2, at2, hz2, dat2⟩ := fly2.there
    have J2 : Inv X pins σ H { s with heap := h2 } := J.landed nb fly2.1 (up.trans up2) os ag
    refine store_ok (X := X.suite a ((a, oe2) :: (X.pn ++ pins))) (v := .ref a) (J2.suite at2 dat2 na nL nF) hN hi (.inl hln) rfl (fun s3 S3 => ?_) (.inr hln)
    refine wpAny_mono ((hsu a oe2 cls d (X.pn ++ pins) hz2 ⟨_, dat2⟩).run [] s3 _ H _ S3 (yes rfl)) (fun f s4 hsp => ?_) (fun _ _ w => False.elim w)
    have fin : ∀ {σ4 : St} {H4 : Hp} {Q : Shared → Prop}, Inv (X.suite a ((a, oe2) :: (X.pn ++ pins))) [] σ4 H4 s4 → (∀ s5, Inv X pins (σ4.set i none) H4 s5 → Q s5) →
        wpAny (model X.prog X.w) X.A (do bindName X.env n .none; unbindBehindTheSuite X.env n pos') (fun _ s5 => Q s5) X.xe s4 := fun S4 hq => gone_ok (S4.unsuite ok) hN hi hln hq
    cases f with
    | ret u => obtain ⟨v4, σ4, H4, S4, r4, q4⟩ := hsp; exact fin S4 fun s5 J5 => ⟨_, _, _, J5, r4, q4⟩
    | next => obtain ⟨σ4, H4, S4, q4⟩ := hsp; exact fin S4 fun s5 J5 => ⟨_, _, J5, q4⟩
    | brk => obtain ⟨σ4, H4, S4, q4⟩ := hsp; exact fin S4 fun s5 J5 => ⟨_, _, J5, q4⟩
    | cont => obtain ⟨σ4, H4, S4, q4⟩ := hsp; exact fin S4 fun s5 J5 => ⟨_, _, J5, q4⟩
end
section
variable {X : Cx} {x x2 n : Str} {c c2 : Value} {i : Nat} {body suite suite2 : List Stmt} {b₀ b₂ : Stmt} {np np2 pos pos1 pos2 : Pos} {tb : WX → TS} {ts ts2 : Addr → Value → Option Addr → TS} {Wout : WX}
/-- try: body, except x as n: suite, except x2 as n: suite2 -/
theorem ps_try_as2 (hs : X.stack = X.env :: X.outer) (hf : X.env.frame = some X.env.locals) (hN : X.N.Nodup) (hi : X.N[i]? = some n) (hln : X.env.kindOf n = some .local) (hc : Names X x c) (hc2 : Names X x2 c2) (tk : Takes X Wout) (hb : ∀ (W : WX) (pn : List (Addr × Obj)) (xe : Value → Shared → Prop), Takes (X.tr pn xe) W → PassesOwn (model X.prog X.w) X.A X.env xe → PSs (X.tr pn xe) body (tb W))
    (hsu : ∀ (a : Addr) (oe : Obj) (cls : Value) (d : Option Addr) (pn : List (Addr × Obj)), Zc cls d oe → (∃ vs, oe.data = .fields vs) → PSs (X.suite a ((a, oe) :: pn)) (b₀ :: suite) (ts a cls d))
    (hsu2 : ∀ (a : Addr) (oe : Obj) (cls : Value) (d : Option Addr) (pn : List (Addr × Obj)), Zc cls d oe → (∃ vs, oe.data = .fields vs) → PSs (X.suite a ((a, oe) :: pn)) (b₂ :: suite2) (ts2 a cls d)) :
    PS X (.Try body [.ExceptHandler (some (.Name x np)) (some n) (b₀ :: suite) pos1, .ExceptHandler (some (.Name x2 np2)) (some n) (b₂ :: suite2) pos2] [] [] pos) (fun D σ H => tb (wAs X.K c i ts (wAs X.K c2 i ts2 Wout D) D) D σ H) := by
  refine ⟨fun pins s σ H D I h => wpAny_Try_except ?_⟩
  have ok := I.ok
  have frames : X.A.frames = some (X.env :: X.outer) := ok.frames.trans (by rw [hs])
  refine wpAny_mono ((hb (wAs X.K c i ts (wAs X.K c2 i ts2 Wout D) D) (X.pn ++ pins) (fun e s1 => wpAny (model X.prog X.w) X.A (noteFrame e X.env) (fun _ s2 => wpAny (model X.prog X.w) X.A (setFlight e none) (fun _ s3 =>
    wpAny (model X.prog X.w) X.A (handleBy e X.env [.ExceptHandler (some (.Name x np)) (some n) (b₀ :: suite) pos1, .ExceptHandler (some (.Name x2 np2)) (some n) (b₂ :: suite2) pos2]) (SP X pins D) X.xe s3) X.xe s2) X.xe s1) (fun u s1 xx => ?_) PassesOwn.looking).run [] s σ H D (I.toTry _) h) (fun f s1 hsp => ?_) (fun _ _ he => he)
  · obtain ⟨a, B, sI, pins1, σ1, H1, cls, d, rfl, J1, nb, up, sky, na, os, ag, b, is1, yes1, no1⟩ := xx
    have sky1 : Sky B (X.env :: X.outer) a (Zc cls d) X.env.locals s1.heap := by rw [← hs]; exact sky
    refine (Sky.land Zc.steady frames hf sky1 fun h2 fly up2 => ?_ : wpAny _ X.A (noteFrame (.ref a) X.env) _ _ _)
    have z : Caught X pins σ1 H1 a cls d { s1 with heap := h2 } := ⟨na, B, sI, J1.ofTry ok, nb, up.trans up2, fly, os, ag⟩
    refine caught_as ok hs hf hN hi hln hc z is1 hsu (fun e => yes1 e a na) fun e => ?_
    obtain ⟨b2, is2, yes2, no2⟩ := no1 e
    exact caught_as ok hs hf hN hi hln hc2 z is2 hsu2 (fun e => yes2 e a na) fun e => caught_on hs hf tk z (no2 e)
  · cases f with
    | ret u => obtain ⟨v, σ1, H1, J1, r, q⟩ := hsp; exact ⟨v, σ1, H1, J1.ofTry ok, r, q⟩
    | next => obtain ⟨σ1, H1, J1, q⟩ := hsp; exact wpAny_execs_nil ⟨σ1, H1, J1.ofTry ok, q⟩
    | brk => obtain ⟨σ1, H1, J1, q⟩ := hsp; exact ⟨σ1, H1, J1.ofTry ok, q⟩
    | cont => obtain ⟨σ1, H1, J1, q⟩ := hsp; exact ⟨σ1, H1, J1.ofTry ok, q⟩
end
/-! ### over values -/
theorem mem_nilC {P : Addr → Bool → Prop} : ∀ (C : Addr) (b : Bool), (C, b) ∈ ([] : Cat) → P C b := fun _ _ h => nomatch h
theorem mem_consC {P : Addr → Bool → Prop} {A : Addr} {b : Bool} {l : Cat} (h : P A b) (t : ∀ (C : Addr) (b : Bool), (C, b) ∈ l → P C b) : ∀ (C : Addr) (b' : Bool), (C, b') ∈ ((A, b) :: l : Cat) → P C b' := fun C b' m => by
  rcases List.mem_cons.mp m with e | m
  · cases e; exact h
  · exact t C b' m
def tTryAs23 (l : Cat) (i : Nat) (tb : TS3) (ts : Addr → List (Str × W) → TS3) (l2 : Cat) (ts2 : Addr → List (Str × W) → TS3) : TS3 := fun D τ S => tb (D.out τ.ex) ⟨τ.sl, fun C fs sl S1 => ∃ b, (C, b) ∈ l ∧ (b = true → i < sl.length ∧ ts C fs (D.away i) ⟨sl.set i none, τ.ex⟩ S1) ∧
  (b = false → ∃ b2, l2.lookup C = some b2 ∧ (b2 = true → i < sl.length ∧ ts2 C fs (D.away i) ⟨sl.set i none, τ.ex⟩ S1) ∧ (b2 = false → τ.ex C fs sl S1))⟩ S
section
variable {X : Cx} {Ex : WX} {x x2 : Str} {c c2 : Value} {body suite suite2 : List Stmt} {b₀ b₂ : Stmt} {np np2 pos pos1 pos2 : Pos} {t3 : TS3} {ts ts2 : Addr → List (Str × W) → TS3} {l l2 : Cat}
theorem try_as2_in {M M2 : Addr → Prop} {i : Nat} {u u2 : Addr → Value → Option Addr → TS} (hl : ∀ C b, (C, b) ∈ l → PySem.W.exmOne X.K (.ref C) c = some b) (hM : ∀ C b, (C, b) ∈ l → b = true → M C) (hl2 : ∀ C b, List.lookup C l2 = some b → PySem.W.exmOne X.K (.ref C) c2 = some b) (hM2 : ∀ C, l2.lookup C = some true → M2 C)
    (e : u = fun a cls d => LX X.K Ex M (some i) a cls d ts) (e2 : u2 = fun a cls d => LX X.K Ex M2 (some i) a cls d ts2) : ∀ D σ H, LS X.K Ex (tTryAs23 l i t3 ts l2 ts2) D σ H → LS X.K (wAs X.K c i u (wAs X.K c2 i u2 Ex D) D) t3 D σ H :=
  fun D σ H ⟨F, S, τ, D3, R, Ev, h, k⟩ => by
    subst e e2
    refine ⟨F, S, ⟨τ.sl, fun C fs sl S1 => ∃ b, (C, b) ∈ l ∧ (b = true → i < sl.length ∧ ts C fs (D3.away i) ⟨sl.set i none, τ.ex⟩ S1) ∧
      (b = false → ∃ b2, l2.lookup C = some b2 ∧ (b2 = true → i < sl.length ∧ ts2 C fs (D3.away i) ⟨sl.set i none, τ.ex⟩ S1) ∧ (b2 = false → τ.ex C fs sl S1))⟩, D3.out τ.ex, R, ⟨Ev.sl, ?_⟩, h, out_kd Ev k⟩
    intro F' S' H' C dd fs gs sl σ' s R' e r sE ⟨b, hb, h1, h0⟩
    have back : ∀ {M : Addr → Prop} {t : Addr → List (Str × W) → TS3} (hMC : M C) (a : Addr), i < sl.length → t C fs (D3.away i) ⟨sl.set i none, τ.ex⟩ S' → LX X.K Ex M (some i) a (.ref C) (some dd) t { nx := fun σ' H' => D.nx (σ'.set i none) H', rt := D.rt, bk := fun σ' H' => D.bk (σ'.set i none) H', ct := fun σ' H' => D.ct (σ'.set i none) H' } (σ'.set i (some (.ref a))) H' := fun hMC a hi h1 => by
      refine ⟨F', S', ⟨sl.set i none, τ.ex⟩, D3.away i, C, dd, fs, gs, rfl, rfl, hMC, fun j z => ?_, R', ⟨slE_over sE, Ev.ex.mono s⟩, e, r, h1, away_kd (k.mono s)⟩
      cases z
      rw [List.getElem?_set_self (by rw [← sE.1]; exact hi)]
    refine ⟨b, hl C b hb, fun z a _ => ?_, fun z => ?_⟩
    · subst z
      exact back (hM C _ hb rfl) a (h1 rfl).1 (h1 rfl).2
    · obtain ⟨b2, hb2, h2, h3⟩ := h0 z
      refine ⟨b2, hl2 C b2 hb2, fun z a _ => ?_, fun z => Ev.ex F' S' H' C dd fs gs sl σ' s R' e r sE (h3 z)⟩
      subst z
      exact back (hM2 C hb2) a (h2 rfl).1 (h2 rfl).2
theorem ps3_tryAs2 {M M2 : Addr → Prop} {n : Str} (i : Nat) (hl : ∀ C b, (C, b) ∈ l → PySem.W.exmOne X.K (.ref C) c = some b) (hM : ∀ C b, (C, b) ∈ l → b = true → M C) (hl2 : ∀ C b, List.lookup C l2 = some b → PySem.W.exmOne X.K (.ref C) c2 = some b) (hM2 : ∀ C, l2.lookup C = some true → M2 C) (hs : X.stack = X.env :: X.outer) (hf : X.env.frame = some X.env.locals) (hN : X.N.Nodup) (hc : Names X x c) (hc2 : Names X x2 c2) (tk : Takes X Ex)
    (gd : X.A.guards = some []) {k : Nat} (hr : Room k X.A) (hb : ∀ (W : WX) (pn : List (Addr × Obj)) (xe : Value → Shared → Prop), Takes (X.tr pn xe) W → PassesOwn (model X.prog X.w) X.A X.env xe → (X.tr pn xe).A.guards = some [] → Room k (X.tr pn xe).A → PSs (X.tr pn xe) body (LS X.K W t3))
    (hsu : ∀ (a : Addr) (oe : Obj) (cls : Value) (d : Option Addr) (pn : List (Addr × Obj)), Zc cls d oe → (∃ vs, oe.data = .fields vs) → PSs (X.suite a ((a, oe) :: pn)) (b₀ :: suite) (LX X.K Ex M (some i) a cls d ts))
    (hsu2 : ∀ (a : Addr) (oe : Obj) (cls : Value) (d : Option Addr) (pn : List (Addr × Obj)), Zc cls d oe → (∃ vs, oe.data = .fields vs) → PSs (X.suite a ((a, oe) :: pn)) (b₂ :: suite2) (LX X.K Ex M2 (some i) a cls d ts2))
    (hi : X.N[i]? = some n := by rfl) (hln : X.env.kindOf n = some .local := by rfl) :
    PS X (.Try body [.ExceptHandler (some (.Name x np)) (some n) (b₀ :: suite) pos1, .ExceptHandler (some (.Name x2 np2)) (some n) (b₂ :: suite2) pos2] [] [] pos) (LS X.K Ex (tTryAs23 l i t3 ts l2 ts2)) :=
  ps_imp (ps_try_as2 (tb := fun W => LS X.K W t3) (ts := fun a cls d => LX X.K Ex M (some i) a cls d ts) (ts2 := fun a cls d => LX X.K Ex M2 (some i) a cls d ts2) hs hf hN hi hln hc hc2 tk (fun W pn xe a b => hb W pn xe a b gd hr) hsu hsu2) (try_as2_in hl hM hl2 hM2 rfl rfl)
end
end H3

/-! H3AB: a comprehension with two fors. -/
namespace H3
open PySem PySem.Spec L2
open PyProof.Rows hiding St
/-- behind each item of the first source all items of the second one -/
def lcGo2 (g : TG3) (tt : TT3) (s1 : TI3) (g1 : TG3) (tt1 : TT3) (te : TE3) (vs1 : List Nat) (τ0 : S3) : List W → List W → Sto → (List W → Sto → Prop) → Prop
  | [], acc, S, Q => Q acc S
  | w :: ws, acc, S, Q => g w τ0 S fun τ2 S2 => tt τ2 S2 fun b S3 => (b = true → s1 τ2 S3 fun us S4 => us.length + acc.length ≤ 1000000 ∧ lcGo g1 tt1 te ⟨wipe3 τ2.sl vs1, XN⟩ us acc S4 fun acc2 S5 => lcGo2 g tt s1 g1 tt1 te vs1 τ0 ws acc2 S5 Q) ∧ (b = false → lcGo2 g tt s1 g1 tt1 te vs1 τ0 ws acc S3 Q)
def tLc2D3 (s : TI3) (g : TG3) (tt : TT3) (s1 : TI3) (g1 : TG3) (tt1 : TT3) (te : TE3) (vs vs1 : List Nat) : TE3 := fun τ S Q => s τ S fun ws S1 => lcGo2 g tt s1 g1 tt1 te vs1 ⟨wipe3 τ.sl vs, XN⟩ ws [] S1 fun us S2 => ∃ ds : List PyData, us = ds.map W.d ∧ Q (.lst ds) S2
theorem wipe_two {σ : St} {vs : List Nat} : wipe (wipe σ vs) vs = wipe σ vs := by
  have : ∀ us : List Nat, (∀ u ∈ us, u ∈ vs) → wipe (wipe σ us) vs = wipe σ vs := fun us => by
    induction us with
    | nil => intro _; rfl
    | cons u us ih =>
      intro hu
      show wipe ((wipe σ us).set u none) vs = _
      rw [wipe_set (hu u List.mem_cons_self)]; exact ih fun q hq => hu q (List.mem_cons_of_mem _ hq)
  exact this vs fun _ h => h
/-- the loop of one source, its list hidden meanwhile, from any list on -/
theorem le_in {K : PySem.W.Frag} {g3 : TG3} {g : TG} {tt : TT3} {te : TE3} {vs : List Nat} (lg : LGL K EN g3 g) (wp : Wp g vs) {F1 : Fz} {S1 : Sto} {H1 : Hp} {τ : S3} {σ : St} {gg : Hp} {D : Addr} {xs0 : List V} {us0 ws : List W} {J : It} {Qn : List W → Sto → Prop} {Nx : Hp → Prop}
    (R1 : Rel K F1 S1 H1) (g1 : F1.g = upd gg D (.lst xs0)) (r1 : RepWs K F1 us0 xs0) (yl : YL K F1 J ws) (Ev : EnvR K F1 EN τ σ) (hz : ws.length + us0.length ≤ 1000000) (h1 : lcGo g3 tt te ⟨wipe3 τ.sl vs, XN⟩ ws us0 S1 Qn)
    (fin : ∀ F' S' H' xs us, Same F1.f F'.f → F'.g = upd gg D (.lst xs) → Rel K F' S' H' → RepWs K F' us xs → Qn us S' → Nx H') :
    ∃ W1 : Nat → Nat → Hp → Prop, (∃ m, W1 0 m H1) ∧ ∀ j k H, W1 j k H →
      (J.stop j H ∧ Nx H) ∨ (J.go j H ∧ ∃ Nx1 : Hp → Prop, (∀ H', Nx1 H' → ∃ k', k' < k ∧ W1 (j + 1) k' H') ∧ ∀ x H', J.yld j H x H' → g x (wipe σ vs) H' fun σ3 H5 => wipe σ3 vs = wipe σ vs ∧ LT K EN tt σ3 H5 fun b H6 =>
        if b = true then LE K EN te σ3 H6 fun y H7 => ∃ acc, H7 D = some (.lst acc) ∧ acc.length < sizeLine ∧ Nx1 (upd H7 D (.lst (acc ++ [y]))) else Nx1 H6) := by
  refine ⟨fun i m H' => ∃ F' S' xs us, Same F1.f F'.f ∧ F'.g = upd gg D (.lst xs) ∧ Rel K F' S' H' ∧ RepWs K F' us xs ∧ xs.length ≤ us0.length + i ∧ m = ws.length - i ∧ i ≤ ws.length ∧ lcGo g3 tt te ⟨wipe3 τ.sl vs, XN⟩ (ws.drop i) us S' Qn, ⟨ws.length, F1, S1, xs0, us0, fun _ _ e => e, g1, R1, r1, by rw [Paired.length r1]; omega, rfl, Nat.zero_le _, h1⟩, ?_⟩
  rintro i m H' ⟨F2, S2, xs, us, s2, g2, R2, r2, hl, rfl, hi, h2⟩
  by_cases hlt : i < ws.length
  · rw [List.drop_eq_getElem_cons hlt] at h2
    refine .inr ⟨yl.go i H' F2 S2 s2 R2 hlt, fun H3 => ∃ F' S' xs us, Same F1.f F'.f ∧ F'.g = upd gg D (.lst xs) ∧ Rel K F' S' H3 ∧ RepWs K F' us xs ∧ xs.length ≤ us0.length + (i + 1) ∧ lcGo g3 tt te ⟨wipe3 τ.sl vs, XN⟩ (ws.drop (i + 1)) us S' Qn, ?_, fun x H3 hy => ?_⟩
    · rintro H3 ⟨F', S', xs', us', q1, q2, q3, q4, q5, q6⟩
      exact ⟨ws.length - (i + 1), by omega, F', S', xs', us', q1, q2, q3, q4, q5, rfl, hlt, q6⟩
    · obtain ⟨F3, w, hw, s3, R3, r3⟩ := yl.yld i H' F2 S2 x H3 s2 R2 hlt hy
      rw [List.getElem?_eq_getElem hlt] at hw
      cases hw
      have Ev3 : EnvR K F3 EN ⟨wipe3 τ.sl vs, XN⟩ (wipe σ vs) := ⟨sle_g (s2.trans s3.f) (sl_wipe Ev.sl vs), fun _ _ _ _ _ _ _ _ _ _ _ _ _ _ z => z.elim⟩
      have z := lg F3 S2 ⟨wipe3 τ.sl vs, XN⟩ _ x (wipe σ vs) H3 _ (fun σ2 H2 => LT K EN tt σ2 H2 fun b H3 => if b = true then LE K EN te σ2 H3 fun y H4 => ∃ acc, H4 D = some (.lst acc) ∧ acc.length < sizeLine ∧ (∃ F' S' xs us, Same F1.f F'.f ∧ F'.g = upd gg D (.lst xs) ∧ Rel K F' S' (upd H4 D (.lst (acc ++ [y]))) ∧ RepWs K F' us xs ∧ xs.length ≤ us0.length + (i + 1) ∧ lcGo g3 tt te ⟨wipe3 τ.sl vs, XN⟩ (ws.drop (i + 1)) us S' Qn)
        else ∃ F' S' xs us, Same F1.f F'.f ∧ F'.g = upd gg D (.lst xs) ∧ Rel K F' S' H3 ∧ RepWs K F' us xs ∧ xs.length ≤ us0.length + (i + 1) ∧ lcGo g3 tt te ⟨wipe3 τ.sl vs, XN⟩ (ws.drop (i + 1)) us S' Qn) R3 Ev3 r3 h2
        fun F4 S4 H4 τ4 σ4 s4 R4 Ev4 h4 => ⟨F4, S4, τ4, _, R4, Ev4, h4, fun F5 S5 H5 b s5 R5 ⟨h5, h6⟩ => by
          have g5 : F5.g = upd gg D (.lst xs) := by rw [s5.g, s4.g, s3.g, g2]
          have sf : Same F2.f F5.f := s3.f.trans (s4.f.trans s5.f)
          cases b with
          | true =>
            refine iteT ⟨F5, S5, τ4, _, R5, Ev4.mono s5, h5 rfl, fun F6 S6 H6 y v s6 R6 r6 h7 => ?_⟩
            have g6 : F6.g = upd gg D (.lst xs) := by rw [s6.g, g5]
            have gd : F6.g D = some (.lst xs) := by rw [g6, upd_same]
            refine ⟨xs, R6.hd D _ gd, Nat.lt_of_le_of_lt (show xs.length ≤ 1000000 by omega) (by decide), ⟨upd F6.g D (.lst (xs ++ [v])), F6.f⟩, S6, xs ++ [v], us ++ [y], s2.trans (sf.trans s6.f), ?_, R6.rehide gd, ?_, by rw [List.length_append, List.length_singleton]; omega, h7⟩
            · show upd F6.g D _ = _
              rw [g6, upd_upd]
            · exact rep_app (Paired.mapP r2 fun _ _ q => repW_g (q.mono1 (sf.trans s6.f))) (.cons (repW_g r6) .nil)
          | false => exact iteF ⟨F5, S5, xs, us, s2.trans sf, g5, R5, Paired.mapP r2 fun _ _ q => q.mono1 sf, by omega, h6 rfl⟩⟩
      have z2 := wp _ _ _ _ z
      rw [wipe_two] at z2
      exact z2
  · have e : i = ws.length := by omega
    subst e
    rw [List.drop_length] at h2
    exact .inl ⟨yl.stop _ H' F2 S2 s2 R2 (Nat.le_refl _), fin F2 S2 H' xs us s2 g2 R2 r2 h2⟩
theorem le_lc2 {K : PySem.W.Frag} {Ex : WX} {s s1 : TI3} {g3 g31 : TG3} {g g1 : TG} {tt tt1 : TT3} {te : TE3} {vs vs1 : List Nat} {Qe : K3 → List W → Sto → Prop} (lg : LGL K EN g3 g) (wp : Wp g vs) (lg1 : LGL K EN g31 g1) (wp1 : Wp g1 vs1)
    (fin : ∀ (F F' : Fz) (S' : Sto) (H' : Hp) (D : Addr) (xs : List V) (us : List W) (Q3 : K3) (Q : VK), F.g D = none → Same F.f F'.f → F'.g = upd F.g D (.lst xs) → Rel K F' S' H' → RepWs K F' us xs → Qe Q3 us S' → KE K F Q3 Q → Q (.ref D) H') :
    ∀ σ H Q, LE K Ex (fun τ S Q => s τ S fun ws S1 => lcGo2 g3 tt s1 g31 tt1 te vs1 ⟨wipe3 τ.sl vs, XN⟩ ws [] S1 (Qe Q)) σ H Q → tLc2 (LI K Ex s) g (LT K EN tt) (LI K EN s1) g1 (LT K EN tt1) (LE K EN te) vs vs1 σ H Q :=
  fun σ H Q ⟨F, S, τ, Q3, R, Ev, h, k⟩ => ⟨F, S, τ, _, R, Ev, h, fun F1 S1 H1 ws J s01 R1 yl h1 => by
    intro D hD
    have gD := R1.freeG hD
    refine ⟨fun i m H' => ∃ F' S' xs us, Same F1.f F'.f ∧ F'.g = upd F1.g D (.lst xs) ∧ Rel K F' S' H' ∧ RepWs K F' us xs ∧ m = ws.length - i ∧ i ≤ ws.length ∧ lcGo2 g3 tt s1 g31 tt1 te vs1 ⟨wipe3 τ.sl vs, XN⟩ (ws.drop i) us S' (Qe Q3), ⟨ws.length, ⟨upd F1.g D (.lst []), F1.f⟩, S1, [], [], fun _ _ e => e, rfl, R1.hide hD, .nil, rfl, Nat.zero_le _, h1⟩, ?_⟩
    rintro i m H' ⟨F2, S2, xs, us, s2, g2, R2, r2, rfl, hi, h2⟩
    by_cases hlt : i < ws.length
    · rw [List.drop_eq_getElem_cons hlt] at h2
      refine .inr ⟨yl.go i H' F2 S2 s2 R2 hlt, fun H3 => ∃ F' S' xs us, Same F1.f F'.f ∧ F'.g = upd F1.g D (.lst xs) ∧ Rel K F' S' H3 ∧ RepWs K F' us xs ∧ lcGo2 g3 tt s1 g31 tt1 te vs1 ⟨wipe3 τ.sl vs, XN⟩ (ws.drop (i + 1)) us S' (Qe Q3), ?_, fun x H3 hy => ?_⟩
      · rintro H3 ⟨F', S', xs', us', q1, q2, q3, q4, q6⟩
        exact ⟨ws.length - (i + 1), by omega, F', S', xs', us', q1, q2, q3, q4, rfl, hlt, q6⟩
      · obtain ⟨F3, w, hw, s3, R3, r3⟩ := yl.yld i H' F2 S2 x H3 s2 R2 hlt hy
        rw [List.getElem?_eq_getElem hlt] at hw
        cases hw
        have Ev3 : EnvR K F3 EN ⟨wipe3 τ.sl vs, XN⟩ (wipe σ vs) := ⟨sle_g (s01.f.trans (s2.trans s3.f)) (sl_wipe Ev.sl vs), fun _ _ _ _ _ _ _ _ _ _ _ _ _ _ z => z.elim⟩
        have z := lg F3 S2 ⟨wipe3 τ.sl vs, XN⟩ _ x (wipe σ vs) H3 _ R3 Ev3 r3 h2
          (Q := fun σ2 H2 => LT K EN tt σ2 H2 fun b H3 => if b = true then LI K EN s1 σ2 H3 fun J1 H4 => ∃ W1 : Nat → Nat → Hp → Prop, (∃ m, W1 0 m H4) ∧ ∀ j k H, W1 j k H →
              (J1.stop j H ∧ (∃ F' S' xs us, Same F1.f F'.f ∧ F'.g = upd F1.g D (.lst xs) ∧ Rel K F' S' H ∧ RepWs K F' us xs ∧ lcGo2 g3 tt s1 g31 tt1 te vs1 ⟨wipe3 τ.sl vs, XN⟩ (ws.drop (i + 1)) us S' (Qe Q3))) ∨ (J1.go j H ∧ ∃ Nx1 : Hp → Prop, (∀ H', Nx1 H' → ∃ k', k' < k ∧ W1 (j + 1) k' H') ∧ ∀ x H', J1.yld j H x H' → g1 x (wipe σ2 vs1) H' fun σ3 H5 => wipe σ3 vs1 = wipe σ2 vs1 ∧ LT K EN tt1 σ3 H5 fun b H6 =>
                if b = true then LE K EN te σ3 H6 fun y H7 => ∃ acc, H7 D = some (.lst acc) ∧ acc.length < sizeLine ∧ Nx1 (upd H7 D (.lst (acc ++ [y]))) else Nx1 H6)
            else ∃ F' S' xs us, Same F1.f F'.f ∧ F'.g = upd F1.g D (.lst xs) ∧ Rel K F' S' H3 ∧ RepWs K F' us xs ∧ lcGo2 g3 tt s1 g31 tt1 te vs1 ⟨wipe3 τ.sl vs, XN⟩ (ws.drop (i + 1)) us S' (Qe Q3))
          fun F4 S4 H4 τ4 σ4 s4 R4 Ev4 h4 => ⟨F4, S4, τ4, _, R4, Ev4, h4, fun F5 S5 H5 b s5 R5 ⟨h5, h6⟩ => by
            have g5 : F5.g = upd F1.g D (.lst xs) := by rw [s5.g, s4.g, s3.g, g2]
            have sf : Same F2.f F5.f := s3.f.trans (s4.f.trans s5.f)
            cases b with
            | true =>
              refine iteT ⟨F5, S5, τ4, _, R5, Ev4.mono s5, h5 rfl, fun F6 S6 H6 us1 J1 s6 R6 yl1 ⟨hz, h7⟩ => ?_⟩
              have g6 : F6.g = upd F1.g D (.lst xs) := by rw [s6.g, g5]
              exact le_in lg1 wp1 R6 g6 (Paired.mapP r2 fun _ _ q => q.mono1 (sf.trans s6.f)) yl1 ((Ev4.mono s5).mono s6) hz h7 fun F' S' H' xs' us' q1 q2 q3 q4 q5 => ⟨F', S', xs', us', s2.trans (sf.trans (s6.f.trans q1)), q2, q3, q4, q5⟩
            | false => exact iteF ⟨F5, S5, xs, us, s2.trans sf, g5, R5, Paired.mapP r2 fun _ _ q => q.mono1 sf, h6 rfl⟩⟩
        have z2 := wp _ _ _ _ z
        rw [wipe_two] at z2
        exact z2
    · have e : i = ws.length := by omega
      subst e
      rw [List.drop_length] at h2
      exact .inl ⟨yl.stop _ H' F2 S2 s2 R2 (Nat.le_refl _), fin F1 F2 S2 H' D xs us Q3 Q gD s2 g2 R2 r2 h2 (k.mono s01)⟩⟩
section
variable {X : Cx} {Ex : WX} {elt tg iter tg1 iter1 : Expr} {ifs ifs1 : List Expr} {scope : Scope} {own : List (Str × Nat)} {pos : Pos} {s s1 : TI3} {g3 g31 : TG3} {g g1 : TG} {tt tt1 : TT3} {te : TE3} {vs1 : List Nat}
theorem pe3_lc2D (own : List (Str × Nat)) (vs1 : List Nat) (hc : X.calm = true) (hN : X.N.Nodup) (hi : PI X tg iter (LI X.K Ex s)) (ok : BlkOk X.N X.env.scope scope own) (lg : LGL X.K EN g3 g) (wp : Wp g (own.map (·.2))) (lg1 : LGL X.K EN g31 g1) (wp1 : Wp g1 vs1)
    (hg : ∀ (s : Shared) (H : Hp) (C : Addr) (cl : List (Str × Addr)) (fp : List Addr), PG (X.blk s H scope (compEnvC scope cl C X.env) fp) tg g)
    (ht : ∀ (s : Shared) (H : Hp) (C : Addr) (cl : List (Str × Addr)) (fp : List Addr), PTs (X.blk s H scope (compEnvC scope cl C X.env) fp) ifs (LT X.K EN tt))
    (hi1 : ∀ (s : Shared) (H : Hp) (C : Addr) (cl : List (Str × Addr)) (fp : List Addr), PI (X.blk s H scope (compEnvC scope cl C X.env) fp) tg1 iter1 (LI X.K EN s1))
    (htg : ∀ (s : Shared) (H : Hp) (C : Addr) (cl : List (Str × Addr)) (fp : List Addr), PG (X.blk s H scope (compEnvC scope cl C X.env) fp) tg1 g1)
    (ht1 : ∀ (s : Shared) (H : Hp) (C : Addr) (cl : List (Str × Addr)) (fp : List Addr), PTs (X.blk s H scope (compEnvC scope cl C X.env) fp) ifs1 (LT X.K EN tt1))
    (he : ∀ (s : Shared) (H : Hp) (C : Addr) (cl : List (Str × Addr)) (fp : List Addr), PE (X.blk s H scope (compEnvC scope cl C X.env) fp) elt (LE X.K EN te))
    (hv : ∀ i ∈ vs1, i ∈ own.map (·.2) := by simp) (hs : ∀ x, foldedSetIterable iter X.env x = pure x := by intro _; rfl) (hs1 : ∀ env x, foldedSetIterable iter1 env x = pure x := by intro _ _; rfl) :
    PE X (.ListComp elt [⟨tg, iter, ifs, 0⟩, ⟨tg1, iter1, ifs1, 0⟩] scope pos) (LE X.K Ex (tLc2D3 s g3 tt s1 g31 tt1 te (own.map (·.2)) vs1)) :=
  pe_imp (pe_lc2 hc hN hi ok hv hg ht hi1 htg ht1 he hs hs1) (le_lc2 lg wp lg1 wp1 fin_D)
theorem ps3_setLc2D (i : Nat) (own : List (Str × Nat)) (vs1 : List Nat) {y : Str} {py spos : Pos} (hc : X.calm = true) (hN : X.N.Nodup) (hsw : swapsWith (.ListComp elt [⟨tg, iter, ifs, 0⟩, ⟨tg1, iter1, ifs1, 0⟩] scope pos) (some (.Name y py)) spos.line X.env = pure true) (hi : PI X tg iter (LI X.K Ex s)) (ok : BlkOk X.N X.env.scope scope own) (lg : LGL X.K EN g3 g) (wp : Wp g (own.map (·.2))) (lg1 : LGL X.K EN g31 g1) (wp1 : Wp g1 vs1)
    (hg : ∀ (s : Shared) (H : Hp) (C : Addr) (cl : List (Str × Addr)) (fp : List Addr), PG (X.blk s H scope (compEnvC scope cl C X.env) fp) tg g)
    (ht : ∀ (s : Shared) (H : Hp) (C : Addr) (cl : List (Str × Addr)) (fp : List Addr), PTs (X.blk s H scope (compEnvC scope cl C X.env) fp) ifs (LT X.K EN tt))
    (hi1 : ∀ (s : Shared) (H : Hp) (C : Addr) (cl : List (Str × Addr)) (fp : List Addr), PI (X.blk s H scope (compEnvC scope cl C X.env) fp) tg1 iter1 (LI X.K EN s1))
    (htg : ∀ (s : Shared) (H : Hp) (C : Addr) (cl : List (Str × Addr)) (fp : List Addr), PG (X.blk s H scope (compEnvC scope cl C X.env) fp) tg1 g1)
    (ht1 : ∀ (s : Shared) (H : Hp) (C : Addr) (cl : List (Str × Addr)) (fp : List Addr), PTs (X.blk s H scope (compEnvC scope cl C X.env) fp) ifs1 (LT X.K EN tt1))
    (he : ∀ (s : Shared) (H : Hp) (C : Addr) (cl : List (Str × Addr)) (fp : List Addr), PE (X.blk s H scope (compEnvC scope cl C X.env) fp) elt (LE X.K EN te))
    (hv : ∀ i ∈ vs1, i ∈ own.map (·.2) := by simp) (hy : X.N[i]? = some y := by rfl) (hyl : X.env.scope.names.lookup y = some .local := by rfl) (hs : ∀ x, foldedSetIterable iter X.env x = pure x := by intro _; rfl) (hs1 : ∀ env x, foldedSetIterable iter1 env x = pure x := by intro _ _; rfl) :
    PS X (.Assign [.Name y py] (.ListComp elt [⟨tg, iter, ifs, 0⟩, ⟨tg1, iter1, ifs1, 0⟩] scope pos) spos) (LS X.K Ex (tSet3 i (tLc2D3 s g3 tt s1 g31 tt1 te (own.map (·.2)) vs1))) :=
  ps_imp (ps_setLc2 hc hN hy hyl hsw hi ok hv hg ht hi1 htg ht1 he hs hs1) fun D σ H ⟨F, S, τ, D3, R, Ev, h, k⟩ => le_lc2 lg wp lg1 wp1 fin_D σ H _ ⟨F, S, τ, fun w S1 => D3.nx (τ.set i (some w)) S1, R, Ev, h, fun F1 S1 H1 w v s1 R1 r1 h1 => k.nx F1 S1 H1 _ _ s1 R1 ((Ev.mono s1).set r1) h1⟩
end
end H3

/-! H3AC: != of instances whose class has == alone. -/
namespace H3
open PySem PySem.Spec L2
open PyProof.Rows hiding St
section
variable {M : Model} {A : Around} {E : Value → Shared → Prop} {K : PySem.W.Frag} {x C : Addr} {ox : Obj} {od : Option Obj} {rest : List Value} {s : Shared}
theorem check_slotK {id owner n : String} {Q : Unit → Shared → Prop} (hk : builtinKind id = some .slot) (hs : splitId id = some (owner, n)) (ha : argsOk id ⟨.ref x :: rest, []⟩) (X : K.In s.heap) (I : PySem.W.InstAt s.heap x ox C od) (hm : PySem.W.mroIn K C (.type owner) = some true) (hq : Q () s) :
    wpAny M A (checkBuiltinCall id ⟨.ref x :: rest, []⟩) Q E s := by
  unfold checkBuiltinCall
  rw [hk]
  dsimp only
  rw [hs]
  unfold isInstance
  refine wpAny_bind (wpAny_bind ((I.type (M := M)).here ((PySem.W.looks_mroIn (M := M) X hm).here ?_)))
  unfold argsOk at ha
  rw [if_neg (by decide)]
  split at ha
  · rename_i g e
    rw [e]
    exact wpAny_of_eq ha hq
  · rename_i e
    rw [e]; exact wpAny_pure hq
/-- a method of object, called on an instance -/
theorem ifBound_slotK {name : Str} {id : String} {args : List Value} {Q : Option Value → Shared → Prop} (X : K.In s.heap) (I : PySem.W.InstAt s.heap x ox C od) (hs : PySem.W.findIn K (.ref C) name = some (some (.builtin id))) (S : Slot "object" name id)
    (h : wpAny M A (call (.builtin id) (.ref x :: args)) (fun v => Q (some v)) E s) : wpAny M A (callSpecialIfBound? (.ref x) name args) Q E s := by
  have out : wpAny M A (call (.builtin id) ([.ref x] ++ args) >>= fun v => pure (some v)) Q E s := wpAny_bind (wpAny_mono h (fun _ _ z => wpAny_pure z) fun _ _ z => z)
  unfold callSpecialIfBound? bindSpecialIfBound?
  apply wpAny_holding; apply wpAny_bind; apply wpAny_bind; apply wpAny_bind
  apply (I.type (M := M)).here; apply (PySem.W.looks_findIn X hs).here
  dsimp only; simp only [S.bind]; apply wpAny_bind; apply wpAny_askSetting; apply wpAny_ite
  split
  · apply wpAny_bind; apply wpAny_pure; exact wpAny_pure out
  · apply wpAny_tryCatch; apply wpAny_bind; apply wpAny_pure; exact wpAny_pure out
end
section
variable {prog : Program} {w : World} {A : Around} {E : Value → Shared → Prop} {K : PySem.W.Frag} {x C f L : Addr} {h₀ : Heap} {m : Str → Option Value} {ox : Obj} {od : Option Obj} {s : Shared} {b tb : Value}
/-- what the class' own == is to give, that its opposite goes to Q -/
def NotBack (Q : Value → Shared → Prop) (v : Value) (s' : Shared) : Prop := ∃ c, v = .bool c ∧ Q (.bool (!c)) s'
theorem ne_entryK (X : K.In s.heap) (I : PySem.W.InstAt s.heap x ox C od) (hs : PySem.W.findIn K (.ref C) "__eq__" = some (some (.ref f))) (hf : PySem.W.isFn K (.ref f) = true) (hu : A.units < cLine) {Q : Fin → Shared → Prop}
    (h : wpAny (model prog w) A (call (.ref f) [.ref x, b]) (fun v s' => ∃ c, v = .bool c ∧ Q (.done (.ret (.bool (!c)))) s') E s) : wpAny (model prog w) A (Builtin.«object.__ne__» ⟨[.ref x, b], []⟩) Q E s := by
  delta Builtin.«object.__ne__»
  repeat (first
    | (with_reducible apply wpAny_cRoomFor hu)
    | (refine wpAny_bind (m := callSpecialIfBound? (.ref x) (Str.ofString "__eq__") [b]) (PySem.W.ifBound_K X I hs hf (wpAny_mono h (fun r s' ⟨c, e, q⟩ => by
        subst e
        repeat (first | exact q | exact wpAny_pure q | exact wpAny_truthy_bool q | (refine wpAny_bind (m := truthy (.bool _)) (wpAny_truthy_bool ?_)) | wp_step)) fun _ _ z => z)))
    | wp_step)
theorem cmp_neK {Q : Value → Shared → Prop} (hu : A.units + 1 < cLine) (F : Fr h₀ L s.heap m) (X₀ : K.In h₀) (I : PySem.W.InstAt s.heap x ox C od) (hb : PySem.W.Looks (model prog w) s.heap (typeOf b) tb) (hn : PySem.W.notFirst K C tb = true)
    (hne : PySem.W.findIn K (.ref C) "__ne__" = some (some (.builtin "object.__ne__"))) (hm : PySem.W.mroIn K C (.type "object") = some true) (hs : PySem.W.findIn K (.ref C) "__eq__" = some (some (.ref f))) (hf : PySem.W.isFn K (.ref f) = true)
    (h : wpAny (model prog w) A.in1 (call (.ref f) [.ref x, b]) (NotBack Q) E s) : wpAny (model prog w) A (richCompare .NotEq (.ref x) b) Q E s := by
  have X := X₀.keeps F.keep
  have one : wpAny (model prog w) A (tryCompare (.ref x) (cmpInfo .NotEq).2.1 b) (fun r s' => ∃ v, r = some v ∧ Q v s') E s := by
    unfold tryCompare
    refine wpAny_bind (ifBound_slotK X I hne PySem.F.cmp_object.ne (wpAny_call (codeAny_call_builtin PySem.F.cmp_object.ne.plain PySem.F.cmpEntry_ne (check_slotK PySem.F.cmpKind_ne PySem.F.cmpSplit_ne (PySem.F.cmpArgs_ne _ _) X I hm (ne_entryK (A := A.in1) X I hs hf hu (wpAny_mono h (fun v s' ⟨c, e, q⟩ => ?_) fun _ _ z => z))))))
    exact ⟨c, e, wpAny_pure ⟨_, rfl, q⟩⟩
  unfold richCompare
  simp only [oneThing_ref]
  refine wpAny_holding (wpAny_bind (wpAny_cRoomFor (Nat.lt_of_succ_lt hu) ?_))
  apply wpAny_bind; apply (I.type (M := model prog w)).here; apply wpAny_bind; apply hb.here
  split
  · rename_i q
    simp only [PySem.W.notFirst, Bool.or_eq_true, beq_iff_eq] at hn
    have e := hn.resolve_left fun t => by subst t; simp at q
    refine wpAny_bind ((PySem.W.looks_subIn X e).here ?_)
    rw [if_neg (by decide)]
    refine wpAny_bind (wpAny_mono one (fun r s' ⟨v, e, q⟩ => ?_) fun _ _ z => z)
    subst e
    exact wpAny_pure q
  · apply wpAny_bind; apply wpAny_pure
    rw [if_neg (by decide)]
    refine wpAny_bind (wpAny_mono one (fun r s' ⟨v, e, q⟩ => ?_) fun _ _ z => z)
    subst e
    exact wpAny_pure q
end
section
variable {X : Cx} {K : PySem.W.Frag} {Ex : WX} {k : Nat} {f C : Addr} {fd : FuncData} {ps : List Str}
/-- x and y instances of the class at C -/
def rOwnNe (K : PySem.W.Frag) (C : Addr) (sp : Sp) : R2 := fun x y H Q => ∃ a b dx dy fs gs, x = .ref a ∧ y = .ref b ∧ H a = some (.ins C dx fs) ∧ H b = some (.ins C dy gs) ∧ sp [x, y] H (fun v H2 => ∃ c, v = .bl c ∧ Q (.bl (!c)) H2) fun _ _ _ => False
/-- a call one unit further in -/
theorem run_fng1 {E : XK} {pins : List (Addr × Obj)} {σ : St} {H : Hp} {s : Shared} {Q : VK} {us : List Value} {vs : List V} (F : FnG X.prog X.w X.K X.mg X.base (L2.CX X.prog X.w) k f fd ps sp) (hg : X.A.guards = some []) (hr : Room (k + 1) X.A) (hb : Binds X.K fd ps [])
    (hx : Passes (L2.CX X.prog X.w) X E) (I : Inv X pins σ H s) (r : Vals vs us) (h : sp vs H Q E) : wpAny (model X.prog X.w) X.A.in1 (call (.ref f) us) (EP X pins σ Q) X.xe s := by
  have hl : us.length = ps.length := r.length ▸ F.len vs H Q E h
  have hb' : BindsTo s fd ⟨us, []⟩ (ps.zip us) := by simpa using hb s us I.kIn (by simpa using hl)
  have e0 := I.env0
  refine wpAny_call (codeAny_mono (F.run X.A.in1 X.stack s H _ us vs Q E hg hr.in1 ⟨e0.frames, e0.mod, e0.bs, e0.bsz, e0.funs, e0.frf, e0.hok, e0.bare⟩ hb' r h) fun q s' hq => ?_)
  have z := cr_end hx I hq
  cases q with
  | error e => exact z
  | ok fl => cases fl <;> exact z
theorem op_ownNe {sp : Sp} (F : FnG X.prog X.w X.K X.mg X.base (L2.CX X.prog X.w) k f fd ps sp) (gd : X.A.guards = some []) (hr : Room (k + 1) X.A) (tk : Takes X Ex) (M : Meth X.K C "__eq__" f)
    (hne : PySem.W.findIn X.K (.ref C) "__ne__" = some (some (.builtin "object.__ne__"))) (hm : PySem.W.mroIn X.K C (.type "object") = some true) (hb : Binds X.K fd ps []) : OpR X (compareOp .NotEq) (rOwnNe X.K C sp) := by
  rintro pins s σ H x y v u Q I rx ry ⟨a, b, dx, dy, fs, gs, rfl, rfl, ha, hb2, q⟩
  cases (show v = .ref a from rx); cases (show u = .ref b from ry)
  obtain ⟨_, J1, _⟩ := ins_get I.hok ha
  obtain ⟨_, J1, _⟩ := J1.look
  obtain ⟨_, J2, _⟩ := ins_get I.hok hb2
  obtain ⟨_, J2, _⟩ := J2.look
  obtain ⟨m, hF⟩ := I.fr
  refine cmp_neK (tb := .ref C) (by have := hr.un; omega) hF I.ok.mod.kin J1 J2.type (by simp [PySem.W.notFirst]) hne hm M.at_ M.fn ?_
  refine wpAny_mono (run_fng1 F gd hr hb (passes_call tk fun _ _ _ _ z => z.elim) I (us := [.ref a, .ref b]) (vs := [.ref a, .ref b]) (.cons rfl (.cons rfl .nil)) q) (fun w s' z => ?_) fun _ _ x => x
  obtain ⟨z, G, J, rz, c, e, qz⟩ := z
  subst e
  cases (show w = .bool c from rz)
  exact ⟨c, rfl, .bl (!c), G, J, rfl, qz⟩
def gNeO (C : Addr) (sp : Sp3) : R3 := fun w u S Q => ∃ a fs b gs, w = .r a ∧ S a = some (.ins C fs) ∧ u = .r b ∧ S b = some (.ins C gs) ∧ sp [w, u] S (fun v S2 => ∃ c, v = .bl c ∧ Q (.bl (!c)) S2) X0
theorem l_neO {sp : Sp3} : OpL K (gNeO C sp) (rOwnNe K C (LSp K sp)) := fun F S H w u x y Q3 Q R rw ru ⟨a, fs, b, gs, e, hS, e2, hS2, q⟩ kq => by
  subst e e2
  cases (show x = .ref a from rw)
  cases (show y = .ref b from ru)
  obtain ⟨_, o, ho, dx, fs2, rfl, _⟩ := R.st a _ hS
  obtain ⟨_, o2, ho2, dy, gs2, rfl, _⟩ := R.st b _ hS2
  exact ⟨a, b, dx, dy, fs2, gs2, rfl, rfl, ho, ho2, F, S, [.r a, .r b], _, X0, R, .cons rfl (.cons rfl .nil), q, fun F' S' H' w v s1 R1 r1 ⟨c, e, h1⟩ => by
    subst e
    exact ⟨c, rep_bl r1, kq F' S' H' _ _ s1 R1 mk_bl h1⟩, KX.no⟩
/-- either reading -/
def gOr (g h : R3) : R3 := fun w u S Q => g w u S Q ∨ h w u S Q
theorem op_or {op : Value → Value → Sem Value} {r q : R2} (a : OpR X op r) (b : OpR X op q) : OpR X op (fun x y H Q => r x y H Q ∨ q x y H Q) := fun pins s σ H x y v u Q I rx ry h => h.elim (a pins s σ H x y v u Q I rx ry) (b pins s σ H x y v u Q I rx ry)
theorem l_or {g h : R3} {r q : R2} (a : OpL K g r) (b : OpL K h q) : OpL K (gOr g h) (fun x y H Q => r x y H Q ∨ q x y H Q) := fun F S H w u x y Q3 Q R rw ru z k => z.imp (fun z => a F S H w u x y Q3 Q R rw ru z k) (fun z => b F S H w u x y Q3 Q R rw ru z k)
/-- x an instance of the class at C, y of another one at D, no subclass -/
def rOwnX (K : PySem.W.Frag) (C D : Addr) (sp : Sp) : R2 := fun x y H Q => ∃ a b dx dy fs gs, x = .ref a ∧ y = .ref b ∧ H a = some (.ins C dx fs) ∧ H b = some (.ins D dy gs) ∧ sp [x, y] H Q fun _ _ _ => False
theorem op_ownX {sp : Sp} {D : Addr} (F : FnG X.prog X.w X.K X.mg X.base (L2.CX X.prog X.w) k f fd ps sp) (gd : X.A.guards = some []) (hr : Room k X.A) (tk : Takes X Ex) (M : Meth X.K C "__eq__" f) (nf : PySem.W.kitOne X.K (.ref D) (.ref C) = some false) (hb : Binds X.K fd ps []) :
    OpR X (compareOp .Eq) (rOwnX X.K C D sp) := by
  rintro pins s σ H x y v u Q I rx ry ⟨a, b, dx, dy, fs, gs, rfl, rfl, ha, hb2, q⟩
  cases (show v = .ref a from rx); cases (show u = .ref b from ry)
  obtain ⟨_, J1, _⟩ := ins_get I.hok ha
  obtain ⟨_, J1, _⟩ := J1.look
  obtain ⟨_, J2, _⟩ := ins_get I.hok hb2
  obtain ⟨_, J2, _⟩ := J2.look
  obtain ⟨m, hF⟩ := I.fr
  have nf2 : PySem.W.notFirst X.K C (.ref D) = true := by
    unfold PySem.W.kitOne at nf
    split at nf
    · cases nf
    · unfold PySem.W.notFirst
      have e : PySem.W.subIn X.K (.ref D) (.ref C) = some false := (by simpa [PySem.W.kitCls] using nf : _ ∧ PySem.W.subIn X.K (.ref D) (.ref C) = some false).2
      rw [e]; simp
  refine PySem.W.cmp_K (op := .Eq) (tb := .ref D) hr.units0 hF I.ok.mod.kin J1 J2.type nf2 M.at_ M.fn ?_
  refine wpAny_mono (run_fng F gd hr hb (passes_call tk fun _ _ _ _ z => z.elim) I (us := [.ref a, .ref b]) (vs := [.ref a, .ref b]) (.cons rfl (.cons rfl .nil)) q) (fun w s' z => ?_) fun _ _ x => x
  obtain ⟨z, G, J, rz, qz⟩ := z
  exact SlX.cmpback rz ⟨z, G, J, rz, qz⟩
def gEqX2 (C D : Addr) (sp : Sp3) : R3 := fun w u S Q => ∃ a fs b gs, w = .r a ∧ S a = some (.ins C fs) ∧ u = .r b ∧ S b = some (.ins D gs) ∧ sp [w, u] S Q X0
theorem l_eqX2 {sp : Sp3} {D : Addr} : OpL K (gEqX2 C D sp) (rOwnX K C D (LSp K sp)) := fun F S H w u x y Q3 Q R rw ru ⟨a, fs, b, gs, e, hS, e2, hS2, q⟩ kq => by
  subst e e2
  cases (show x = .ref a from rw)
  cases (show y = .ref b from ru)
  obtain ⟨_, o, ho, dx, fs2, rfl, _⟩ := R.st a _ hS
  obtain ⟨_, o2, ho2, dy, gs2, rfl, _⟩ := R.st b _ hS2
  exact ⟨a, b, dx, dy, fs2, gs2, rfl, rfl, ho, ho2, F, S, [.r a, .r b], Q3, X0, R, .cons rfl (.cons rfl .nil), q, kq, KX.no⟩
end
/-! ### lists and tuples that hold instances -/
section
variable {K : PySem.W.Frag}
/-- a slice of a list of any things, to be changed -/
def gSlV : W → Option Int → Option Int → Sto → K3 → Prop := fun w lo hi S Q => ∃ a ws, w = .r a ∧ S a = some (.lst ws) ∧ ∀ p, S p = none → Q (.r p) (put S p (.lst (cutG ws lo hi)))
theorem l_slV : SlL K gSlV (rSlL K) := fun F S H w x lo hi Q3 Q R rw ⟨a, ws, e, h, q⟩ k => by
  subst e
  obtain ⟨xs, hx, rx⟩ := rd_lst R h
  exact ⟨a, xs, rw, .inl (.inl hx), fun p hp => k _ _ _ (.r p) _ (Sm.refl F) (newMut R hp (rep_cut rx lo hi)) (show V.ref p = V.ref p from rfl) (q p (R.freeS hp))⟩
/-- tuple(l), l a list of any things -/
def gTupV : RC3 := fun ws S Q => ∃ a us, ws = [.r a] ∧ S a = some (.lst us) ∧ ∀ p, S p = none → Q (.r p) (put S p (.tp us))
theorem l_tupV : CallL K gTupV (fun xs H Q => ∃ p ys, xs = [.ref p] ∧ ((SqL K H p ys ∧ NewT Q ys H) ∨ (SqT K H p ys ∧ Q (.ref p) H))) := fun F S H ws vs Q3 Q R r ⟨a, us, e, h, q⟩ k => by
  subst e
  obtain ⟨v, rfl, rv⟩ := ws1 r
  cases (show v = .ref a from rv)
  obtain ⟨xs, hx, rx⟩ := rd_lst R h
  exact ⟨a, xs, rfl, .inl ⟨.inl (.inl hx), fun p o hp no => k _ _ _ (.r p) _ (Sm.refl F) (R.newS hp (show RepO K F (.tp us) (HO.frz o (.tup xs)) from ⟨o, xs, rfl, no, rx⟩)) (show V.ref p = V.ref p from rfl) (q p (R.freeS hp))⟩⟩
/-- isinstance(x, C), x a tuple of any things, too -/
def gIsV (l : Cat) (C : Addr) : RC3 := fun ws S Q => gIsM l C ws S Q ∨ ∃ a us, ws = [.r a, .r C] ∧ S a = some (.tp us) ∧ Q (.bl false) S
theorem l_isV {l : Cat} {C : Addr} (o : OwnM K l C) : CallL K (gIsV l C) (rIsi K) := fun F S H ws vs Q3 Q R r h k => by
  rcases h with h | ⟨a, us, e, hS, q⟩
  · exact l_isM o F S H ws vs Q3 Q R r h k
  · subst e
    obtain ⟨v, y, rfl, rv, ry⟩ := ws2 r
    cases (show y = .ref C from ry)
    cases (show v = .ref a from rv)
    obtain ⟨_, o2, ho, o3, xs, rfl, _⟩ := R.st a _ hS
    exact ⟨.ref a, .ref C, .type "tuple", .ref C, false, rfl, .own C, .fTuple ho, o.f.bt "tuple" (by simp), k F S H _ _ (Sm.refl F) R mk_bl q⟩
end
end H3

/-! H3AD: dicts whose keys are tuples of ints; sorted by a def. -/
namespace H3
open PySem PySem.Spec PySem.W L2
open PyProof.Rows hiding St
abbrev TEnt := List Int × Addr × Value
/-- the entries of the dict at a -/
structure DAt (K : PySem.W.Frag) (H : Hp) (a : Addr) (xs : List TEnt) : Prop where
  obj : ∃ P w, H a = some (DTO P w a xs)
  sys : (a == sysModules) = false
  few : xs.length ≤ sizeLine
  nd : (xs.map (·.1)).Nodup
  key : ∀ x ∈ xs, TupN K H x.2.1 (x.1.map V.int)
section
variable {P : Program} {w : World} {K : PySem.W.Frag} {H : Hp} {h : Heap} {a b : Addr} {xs : List TEnt}
theorem ints_are : ∀ {ks : List Int} {us : List Value}, Vals (ks.map V.int) us → ItemsAre (PySem.intKind P w) ks us
  | [], _, r => by cases r; exact .nil
  | k :: ks, _, r => by
    cases r with
    | @cons _ _ _ u g t =>
      obtain ⟨t0, e⟩ := (show ∃ t, _ = Value.int k t from g)
      subst e
      exact .cons (by simp [PySem.intKind, Value.isInt]) (ints_are t)
theorem tkey_at (ok : HOk P w H h) (KX : K.In h) {ks : List Int} (q : TupN K H b (ks.map V.int)) : (tupleKind (PySem.intKind P w)).is h ks b := by
  obtain ⟨its, o, n, rv, h1, h2, h3⟩ := sqT_at ok KX q.sqt
  exact ⟨o, its.toArray, n, h1, h2, h3, by simpa using ints_are rv⟩
theorem DAt.dict (D : DAt K H a xs) (ok : HOk P w H h) (KX : K.In h) : h.DictOfH (tupleKind (PySem.intKind P w)) a xs := by
  obtain ⟨P0, w0, e⟩ := D.obj
  obtain ⟨⟨o, es, ep, h1, h2, h3, h4⟩, _⟩ := ok a _ e
  exact ⟨o, es, ep, h1, h2, h3, h4, fun x hx => tkey_at ok KX (D.key x hx), D.nd⟩
theorem dto_ok (dd : h.DictOfH (tupleKind (PySem.intKind P w)) a xs) : ObjOk P w H h a (DTO P w a xs) := by
  obtain ⟨o, es, ep, h1, h2, h3, h4, _⟩ := dd
  refine ⟨⟨o, es, ep, h1, h2, h3, h4⟩, ⟨o, h1⟩, fun g1 g2 ⟨o1, es1, ep1, i1, i2, i3, i4⟩ st => ⟨o1, es1, ep1, st o1 i1, i2, i3, i4⟩⟩
end
/-! ### the entries, by values -/
def valT (kvs : List (List Int × W)) (k : List Int) : Option W := (kvs.find? fun p => decide (p.1 = k)).map (·.2)
def putT (kvs : List (List Int × W)) (k : List Int) (w : W) : List (List Int × W) := if (valT kvs k).isSome then kvs.map (fun p => if p.1 = k then (p.1, w) else p) else kvs ++ [(k, w)]
section
variable {K : PySem.W.Frag} {F : Fz} {S : Sto} {H : Hp} {a b : Addr} {kvs : List (List Int × W)} {xs : List TEnt} {k : List Int}
theorem RepT.val (r : RepT K F kvs xs) : (valT kvs k = none → atKey xs k = none) ∧ ∀ w, valT kvs k = some w → ∃ p v, atKey xs k = some p ∧ RepW K F w v ∧ RelV v p.2 := by
  induction r with
  | nil => exact ⟨(fun _ => rfl), fun w e => by cases e⟩
  | @cons p q l m z t ih =>
    obtain ⟨i, w0⟩ := p
    obtain ⟨j, c, u⟩ := q
    obtain ⟨e1, _, v, r1, r2⟩ := z
    have e1 : i = j := e1
    subst e1
    by_cases hi : i = k
    · have f1 : valT ((i, w0) :: l) k = some w0 := by simp [valT, hi]
      have f2 : atKey ((i, c, u) :: m) k = some (c, u) := by simp [atKey, hi]
      rw [f1, f2]
      exact ⟨(fun e => by cases e), fun w e => by cases e; exact ⟨_, v, rfl, r1, r2⟩⟩
    · have f1 : valT ((i, w0) :: l) k = valT l k := by simp [valT, hi]
      have f2 : atKey ((i, c, u) :: m) k = atKey m k := by simp [atKey, hi]
      rw [f1, f2]; exact ih
theorem RepT.isSome (r : RepT K F kvs xs) : (atKey xs k).isSome = (valT kvs k).isSome := by
  obtain ⟨h1, h2⟩ := r.val (k := k)
  cases e : valT kvs k with
  | none => rw [h1 e]; rfl
  | some w => obtain ⟨p, v, q, _⟩ := h2 w e; rw [q]; rfl
theorem RepT.put (r : RepT K F kvs xs) {w : W} {v : V} {u : Value} (hb : TupN K F.f b (k.map V.int)) (rw_ : RepW K F w v) (ru : RelV v u) : RepT K F (putT kvs k w) (storedH xs k b u) := by
  unfold putT storedH
  rw [r.isSome]
  cases valT kvs k with
  | none =>
    show RepT K F (kvs ++ [(k, w)]) (xs ++ [(k, b, u)])
    exact Paired.snoc r ⟨rfl, hb, v, rw_, ru⟩
  | some w0 =>
    show RepT K F (kvs.map fun p => if p.1 = k then (p.1, w) else p) (xs.map (putAt k u))
    induction r with
    | nil => exact .nil
    | @cons p q l m z t ih =>
      refine .cons ?_ ih
      unfold putAt
      dsimp only
      by_cases e : p.1 = k
      · rw [if_pos e, if_pos (z.1.symm.trans e)]; exact ⟨z.1, z.2.1, v, rw_, ru⟩
      · rw [if_neg e, if_neg fun x => e (z.1.trans x)]; exact z
theorem dat_of (R : Rel K F S H) (h : S a = some (.dt a kvs)) : ∃ xs, DAt K H a xs ∧ RepT K F kvs xs := by
  obtain ⟨_, o, ho, P, w, xs, rfl, h1, h2, h3, r⟩ := R.st a _ h
  refine ⟨xs, ⟨⟨P, w, ho⟩, h1, by rw [← Paired.length r]; exact h2, h3, ?_⟩, r⟩
  have all : ∀ {l : List (List Int × W)} {m : List TEnt}, RepT K F l m → ∀ x ∈ m, TupN K H x.2.1 (x.1.map V.int) := by
    intro l m q
    induction q with
    | nil => intro x hx; cases hx
    | @cons p q ps qs hq t ih =>
      intro x hx
      rcases List.mem_cons.mp hx with e | e
      · rw [e, ← hq.1]; exact hq.2.1.mono R.same
      · exact ih x e
  exact all r
theorem key_int {w : W} {v : V} (R : Rel K F S H) (r : RepW K F w v) (e : w = .d (lt k)) : ∃ b, v = .ref b ∧ TupN K F.f b (k.map V.int) := by
  subst e
  cases (show Dp K F.f v (.tuple (k.map PyData.int)) from r) with
  | tup h t =>
    have e := ints_of t
    subst e
    exact ⟨_, rfl, h⟩
end
/-! ### rules of the hand layer's kind -/
section
variable {X : Cx} {o i e f : Expr} {pos apos cpos : Pos} {td ty tx : TE}
theorem pe_dnewO : PE X (.Dict [] [] pos) (fun _ H Q => ∀ p, H p = none → (p == sysModules) = false → Q (.ref p) (upd H p (DTO X.prog X.w p []))) := ⟨fun pins s σ H Q I h => by
  have hz : (s.heap.objs.size == sysModules) = false := beq_eq_false_iff_ne.mpr fun z => absurd I.big (by rw [z]; exact Nat.lt_irrefl _)
  refine wpAny_Dict_empty ⟨.ref s.heap.objs.size, _, I.laid (t' := s.toks) (o := DTO X.prog X.w s.heap.objs.size []) (fun _ _ q => Heap.get?_push_of_some _ q) (Nat.le_refl _) ?_, rfl, h _ (I.hok.fresh (Nat.le_refl _)) hz⟩
  exact ⟨⟨_, #[], 0, Heap.get?_push_size _ rfl, ⟨rfl, rfl, rfl⟩, rfl, rfl⟩, ⟨_, Heap.get?_push_size _ rfl⟩, fun g1 g2 ⟨o1, es1, ep1, i1, i2, i3, i4⟩ st => ⟨o1, es1, ep1, st o1 i1, i2, i3, i4⟩⟩⟩
/-- d[k], k there -/
theorem pe_dgetO (hu : X.A.units + 1 < cLine) (ho : PE X o td) (hi : PE X i ty) (hs : NoSl i) : PE X (.Subscript o i pos) (fun σ H Q => td σ H fun x H1 => ty σ H1 fun y H2 =>
    ∃ a xs k b p v, x = .ref a ∧ DAt X.K H2 a xs ∧ y = .ref b ∧ TupN X.K H2 b (k.map V.int) ∧ atKey xs k = some p ∧ RelV v p.2 ∧ Q v H2) := ⟨fun pins s σ H Q I h => by
  refine subD_of PySem.F.slot_dict_getitem.lookup hs (thn (ho.run pins s σ H _ I h) ?_)
  rintro u s1 ⟨x, H1, I1, rx, q1⟩
  refine thn (hi.run pins s1 σ H1 _ I1 q1) ?_
  rintro iv s2 ⟨y, H2, I2, ry, a, xs, k, b, p, v, rfl, D, rfl, tb, hp, rv, q2⟩
  cases (show u = _ from rx)
  cases (show iv = Value.ref b from ry)
  have dd := D.dict I2.hok I2.kIn
  exact ⟨dd.typeIs, wpAny_getItem_heap (tupleKind_room_in1 hu) (tkey_at I2.hok I2.kIn tb) dd hp ⟨v, H2, I2.tok _, rv, q2⟩⟩⟩
/-- d.get(k, x) -/
theorem pe_dget2O (hu : X.A.units + 1 < cLine) (ho : PE X o td) (he : PE X e ty) (hf : PE X f tx) (m : M2 X o "get" apos e f cpos) : PE X (.Call (.Attribute o "get" apos) [e, f] [] cpos) (fun σ H Q => td σ H fun x H1 =>
    ∃ a xs, x = .ref a ∧ DAt X.K H1 a xs ∧ ty σ H1 fun y H2 => tx σ H2 fun z H3 => ∃ xs k b, DAt X.K H3 a xs ∧ y = .ref b ∧ TupN X.K H3 b (k.map V.int) ∧ (atKey xs k = none → Q z H3) ∧ ∀ p, atKey xs k = some p → ∃ v, RelV v p.2 ∧ Q v H3) := ⟨fun pins s σ H Q I h => by
  refine wpAny_Call_method m.base m.few m.line PySem.F.plainAttrs_dict PySem.F.slot_dict_get PySem.F.type_dict_get (thn (ho.run pins s σ H _ I h) ?_)
  rintro u s1 ⟨x, H1, I1, rx, a, xs, rfl, D, q1⟩
  cases (show u = _ from rx)
  have dd := D.dict I1.hok I1.kIn
  refine ⟨dd.typeIs, fun c hc => ?_, ?_⟩
  · cases hc
    obtain ⟨ob, _, _, e1, e2, _⟩ := dd
    exact ⟨ob, e1, e2.2.1⟩
  rw [m.trees]
  refine Calls.callWith_builtin rfl (Calls.evalArgs_plain (Calls.spliced_cons (thn (he.run pins s1 σ H1 _ I1 q1) ?_)))
  rintro iv s2 ⟨y, H2, I2, ry, q2⟩
  refine Calls.spliced_cons (thn (hf.run pins s2 σ H2 _ I2 q2) ?_)
  rintro fv s3 ⟨z, H3, I3, rz, ys, k, b, D3, rfl, tb, q3, q4⟩
  cases (show iv = Value.ref b from ry)
  refine Calls.spliced_nil ?_
  have d3 := D3.dict I3.hok I3.kIn
  refine call_meetsIn PySem.F.slot_dict_get d3.typeIs PySem.F.entry_dict_get (PySem.F.args_dict_get_3 _ _ _) (meetsH_dict_get_default (tupleKind (PySem.intKind X.prog X.w)) a b D3.sys fv) ⟨tupleKind_room_in1 hu, k, ys, tkey_at I3.hok I3.kIn tb, d3, ?_⟩
  cases hk : atKey ys k with
  | none => exact ⟨z, H3, I3.tok _, rz, q3 hk⟩
  | some p =>
    obtain ⟨v, rv, q5⟩ := q4 p hk
    exact ⟨v, H3, I3.tok _, rv, q5⟩⟩
/-- d[k] = v -/
def rSetT (X : Cx) : TSet := fun o i v H Q => ∃ a xs k b, o = .ref a ∧ DAt X.K H a xs ∧ i = .ref b ∧ TupN X.K H b (k.map V.int) ∧ xs.length < sizeLine ∧ ∀ u, RelV v u → ((storedH xs k b u).map (·.1)).Nodup → Q (upd H a (DTO X.prog X.w a (storedH xs k b u)))
theorem set_dictO (hu : X.A.units + 1 < cLine) : PSet X (rSetT X) := by
  rintro pins s σ H x y v ov iv u Q I rx ry rv ⟨a, xs, k, b, rfl, D, rfl, tb, hz, q⟩
  cases (show ov = Value.ref a from rx)
  cases (show iv = Value.ref b from ry)
  obtain ⟨P0, w0, e⟩ := D.obj
  refine wpAny_setItem_heap (hsz := Nat.le_of_lt hz) (tupleKind_room_in1 hu) (tkey_at I.hok I.kIn tb) (D.dict I.hok I.kIn) fun h' dd hs => ?_
  have nd : ((storedH xs k b u).map (·.1)).Nodup := by obtain ⟨_, _, _, _, _, _, _, _, z⟩ := dd; exact z
  have there : ∃ q, h'.get? a = some q := by obtain ⟨ob, _, _, z, _⟩ := dd; exact ⟨ob, z⟩
  exact ⟨_, I.write (x := a) (e := a) (by rw [e]; trivial) (.inl rfl) (fun c ob hc z => (hs.2 c hc).trans z) there (dto_ok dd), q u rv nd⟩
/-- k in d, k not in d -/
theorem op_inO (hu : X.A.units + 1 < cLine) : OpR X (compareOp .In) (fun y x H Q => ∃ a xs k b, x = .ref a ∧ DAt X.K H a xs ∧ y = .ref b ∧ TupN X.K H b (k.map V.int) ∧ Q (.bl (atKey xs k).isSome) H) := by
  rintro pins s σ H y x v u Q I ry rx ⟨a, xs, k, b, rfl, D, rfl, tb, q⟩
  cases (show u = _ from rx)
  cases (show v = Value.ref b from ry)
  exact wpAny_in_heap (tupleKind_room_in1 hu) (tkey_at I.hok I.kIn tb) D.sys (D.dict I.hok I.kIn) ⟨.bl (atKey xs k).isSome, H, I.tok _, rfl, q⟩
theorem op_notInO (hu : X.A.units + 1 < cLine) : OpR X (compareOp .NotIn) (fun y x H Q => ∃ a xs k b, x = .ref a ∧ DAt X.K H a xs ∧ y = .ref b ∧ TupN X.K H b (k.map V.int) ∧ Q (.bl (!(atKey xs k).isSome)) H) := by
  rintro pins s σ H y x v u Q I ry rx ⟨a, xs, k, b, rfl, D, rfl, tb, q⟩
  cases (show u = _ from rx)
  cases (show v = Value.ref b from ry)
  exact wpAny_notIn_heap (tupleKind_room_in1 hu) (tkey_at I.hok I.kIn tb) D.sys (D.dict I.hok I.kIn) ⟨.bl (!(atKey xs k).isSome), H, I.tok _, rfl, q⟩
/-- list(d) -/
theorem call_list_O (hc : X.calm = true) : CallR X (.type "list") (fun vs H Q => ∃ a xs, vs = [V.ref a] ∧ DAt X.K H a xs ∧ ∀ p, H p = none → Q (.ref p) (upd H p (.lst (xs.map fun x => V.ref x.2.1)))) := by
  rintro pins s σ H vs us Q I r ⟨a, xs, rfl, D, q⟩
  obtain ⟨u, rfl, rx⟩ := r.one
  cases (show u = _ from rx)
  obtain ⟨o, es, ep, h1, h2, h3, h4, _⟩ := D.dict I.hok I.kIn
  have le : es.size = xs.length := by rw [← Array.length_toList, h4, List.length_map]
  refine PySem.W.kdl_call (kdl_raw D.sys h2 h3) (I.ok.hd hc) h1 (by rw [le]; exact D.few) fun h' tk acc c kp at_ it => ?_
  have ea : acc.toList = xs.map fun x => Value.ref x.2.1 := by
    refine List.ext_getElem? fun (j : Nat) => ?_
    rw [List.getElem?_map]
    rcases Nat.lt_or_ge j xs.length with z | z
    · have hj : j < acc.size := by rw [it.1, le]; exact z
      obtain ⟨en, hen, hv⟩ := it.2 j acc[j] (Array.getElem?_eq_getElem hj)
      have e2 : es.toList[j]? = some en := by rw [Array.getElem?_toList]; exact hen
      rw [h4, List.getElem?_map, List.getElem?_eq_getElem z] at e2
      rw [Array.getElem?_toList, Array.getElem?_eq_getElem hj, hv, List.getElem?_eq_getElem z, ← Option.some.inj e2]
      rfl
    · rw [List.getElem?_eq_none (by rw [Array.length_toList, it.1, le]; exact z), List.getElem?_eq_none z]; rfl
  have rv : Vals (xs.map fun x => V.ref x.2.1) acc.toList := by
    have e1 : (xs.map fun x => V.ref x.2.1) = (xs.map fun x => x.2.1).map V.ref := by rw [List.map_map]; rfl
    have e2 : (xs.map fun x => Value.ref x.2.1) = (xs.map fun x => x.2.1).map Value.ref := by rw [List.map_map]; rfl
    rw [ea, e1, e2]; exact vals_refs _
  refine ⟨.ref s.heap.objs.size, _, I.laid (t' := tk) (o := .lst (xs.map fun x => V.ref x.2.1)) kp (Nat.le_refl _) ⟨by rw [List.length_map]; exact D.few, acc.toList, c, rv, by rw [Array.toArray_toList]; exact at_⟩, rfl, q _ (I.hok.fresh (Nat.le_refl _))⟩
end
/-! ### sorted(xs, key=f), f a def of one row -/
section
variable {prog : Program} {w : World} {s : Shared} {A : Around}
theorem def_key {K : PySem.W.Frag} {mg : Str → Option Value} {nm q x : Str} {params : Arguments} {e : Expr} {rp : Pos} {scope : Scope} {dV kV doc pm cdv ct oc : Value} {an od : Option Addr} {osl : Array (Option Value)} {f : Addr} {v : Value} {d : PyData} {key : PyData → PyData} {good : PyData → Prop} {E : Value → Shared → Prop}
    (lk : K.lookup f = some ⟨oc, od, .func (PySem.W.fnOf nm q params [.Return (some e) rp] scope dV kV doc pm an cdv ct), osl⟩) (hcd : PySem.W.codeIn K cdv q = true) (KX : K.In s.heap) (L : LamP scope x) (kb : KeyBody prog w mg scope x e key good) (gd : good d)
    (hdep : A.depth < recursionLimit) (hlim : s.heap.NoLimit) (hb : BindsTo s (PySem.W.fnOf nm q params [.Return (some e) rp] scope dV kV doc pm an cdv ct) ⟨[v], []⟩ [(x, v)])
    (hg : s.heap.Ns mainGlobals mg) (hbl : ∃ mb, s.heap.Ns builtinsNs mb ∧ ∀ y : Str, y ≠ "__name__" → mb y = bootBuiltins y) (hv : Reads s.heap v d []) :
    wpAny (model prog w) A (call (.ref f) [v]) (PySem.W.KeyPure (key d) s) E s := by
  have rc : codeAny (model prog w) A (.call (.ref f) ⟨[v], []⟩) (fun r t => ∃ u, r = .ok (.ret u) ∧ PySem.W.KeyPure (key d) s u t) s := by
    refine codeAny_call_def hdep (KX _ _ lk) rfl hlim (PySem.W.codeRec_of KX hcd) rfl hb (fun y hy => (L.own y hy).1) (fun y hy => by rw [List.mem_singleton.mp hy]; exact L.loc) (fun h₁ hns kp => ?_) L.co L.gen L.kind
    obtain ⟨mb, b1, b2⟩ := hbl
    refine wpAny_execs_cons (wpAny_Return_some (wpAny_mono (kb _ _ { s with heap := h₁, toks := s.toks + [(x, v)].length } q s.heap.objs.size f cdv [] v d gd ⟨⟨_, hns, ?_⟩, hg.keeps kp, ⟨mb, b1.keeps kp, b2⟩, PyProof.Rows.Reads.keeps kp hv⟩) (fun u t h => ⟨u, rfl, ?_⟩) fun e t h => h))
    · show List.lookup x [(x, v)].reverse = some v
      simp
    · obtain ⟨h', tk, rfl, k2, r2⟩ := h
      exact ⟨h', tk, rfl, fun b o e => k2 b o (kp b o e), r2⟩
  refine wpAny_call (codeAny_mono rc fun r t h => ?_)
  obtain ⟨u, rfl, h⟩ := h
  exact h
end
section
variable {X : Cx} {Ex : WX} {a : Expr}
def tSortKeyF (K : PySem.W.Frag) (good : PyData → Prop) (key : PyData → PyData) (ta : TE) : TE := fun σ H Q => ta σ H fun v H1 => ∃ (l : Addr) (xs : List V) (ds : List PyData), v = .ref l ∧ (SqL K H1 l xs ∨ SqT K H1 l xs) ∧ L2.DpAll K H1 xs ds ∧ KeysOk good key ds ∧
  ∀ (ys : List V) (p : Addr), Paired (fun y d => (y, d) ∈ xs.zip ds) ys (ds.mergeSort (PySem.W.dataLe false key)) → H1 p = none → Q (.ref p) (upd H1 p (.lst ys))
theorem pe_sortKeyF {ta : TE} {nm x : Str} {st : Stmt} {f : Addr} {fd : FuncData} {e : Expr} {rp p p2 kpos pos : Pos} {k : Nat} {good : PyData → Prop} {key : PyData → PyData} (hr : Room k X.A) (hc : X.calm = true) (hg : Gl X "sorted") (hm : X.mg "sorted" = none) (hf : Gl X nm) (mf : X.mg nm = some (.ref f)) (F : FnP X.K nm st f fd)
    (hst : defBody st = [.Return (some e) rp]) (L : LamP (defScope st) x) (ha : PE X a ta) (kb : KeyBody X.prog X.w X.mg (defScope st) x e key good) (hbs : Binds X.K fd [x] []) (hd : (nm == ("__debug__" : Str)) = false := by decide)
    (hb : bootBuiltins "sorted" = some (.builtin "sorted") := by decide +kernel)
    (na : starEach [a] X.env = (false, eval a X.env) :: starEach [] X.env := by rfl) : PE X (.Call (.Name "sorted" p) [a] [⟨some "key", .Name nm p2, kpos⟩] pos) (tSortKeyF X.K good key ta) := by
  obtain ⟨oc, od, dV, kV, doc, pm, an, cdv, ct, osl, efd, lk, hcd, _⟩ := F.ex
  rw [hst] at efd
  subst efd
  constructor
  intro pins s σ H Q I h
  refine wpAny_Call_Name_kw (ld_blt I hg hm hb (callWith_kw (args_cons (thn (ha.run pins s σ H _ I h) ?_) na) ?_ ?_))
  · rintro v s1 ⟨w, H1, I1, r1, l, xs, ds, rfl, hs, dd, ok, fin⟩
    cases (show v = .ref l from r1)
    refine args_nil ?_
    show wpAny _ _ (evalAll ((do let v ← eval (.Name nm p2) X.env; standAt pos; pure v) :: [])) _ _ s1
    refine wpAny_evalAll_cons (wpAny_bind (ld_glob I1 hf mf (wpAny_bind (wpAny_standAt (wpAny_pure (wpAny_evalAll_nil ?_)))) hd))
    have ops : ∀ fv : Value, ((backToKw pos (keywordEach [⟨some "key", .Name nm p2, kpos⟩] X.env)).filterMap (·.1)).zip [fv] = [(Str.ofString "key", fv)] := fun fv => rfl
    rw [ops]
    obtain ⟨its, rv, T, o, n, hT, ho, hcl, hdt⟩ : ∃ (its : List Value) (_ : Vals xs its) (T : String) (o : Obj) (n : Nat), (T = "list" ∨ T = "tuple") ∧ s1.heap.get? l = some o ∧ o.cls = .type T ∧ o.data = .seq its.toArray n := by
      rcases hs with z | z
      · obtain ⟨its, rv, ⟨o, n, h1, h2, _, h3⟩, _⟩ := I1.list z
        exact ⟨its, rv, "list", o, n, .inl rfl, h1, h2, h3⟩
      · obtain ⟨its, rv, ⟨o, h1, h2, n, h3⟩, _⟩ := I1.tuple z
        exact ⟨its, rv, "tuple", o, n, .inr rfl, h1, h2, h3⟩
    have lens : its.length = ds.length := by rw [← rv.length, dpAllL_len dd]
    have fits : its.toArray.size ≤ sizeLine := by rw [List.size_toArray, lens]; exact ok.len
    have un := hr.un
    refine srt_seq hT ho hcl hdt fits (PyProof.Rows.ksk_s1 _ _) (fun _ => PyProof.Rows.ksk_l1 _ _) fun g E2 kp => ?_
    rw [PyProof.Rows.ksk_t1]
    have I3 : Inv X pins σ H1 { s1 with heap := g } := I1.kept (t' := s1.toks) kp
    have laid : (g.push (seqObj "list" its.toArray 0)).get? g.objs.size = some (seqObj "list" its.toArray 0) := Heap.get?_push_size _ rfl
    have both : PySem.W.EachIs (fun v d => (∃ y, RelV y v ∧ (y, d) ∈ xs.zip ds) ∧ Reads s1.heap v d []) its ds := each_both (each_pair (P := fun y d => (y, d) ∈ xs.zip ds) (fun p hp => hp) dd rv) (each_flat (each_reads I1 dd rv) ok.flat)
    obtain ⟨mb, b1, b2⟩ := I1.mod.blt
    have b1 := b1.keeps I1.bk
    have gl := I1.mod.glob.keeps I1.bk
    have lim := I1.nolimit
    refine PySem.W.keyH_tree (b := false) (kz := ds.map key) (s := { s1 with heap := g.push (seqObj "list" its.toArray 0) }) laid (by rw [List.length_map, lens]) (by rw [lens]; exact ok.len) ok.alike ok.sort (fun d hd => ?_)
      (PySem.W.keyH_turns both fun u d ⟨_, rd⟩ hd h tk kpb => ?_) fun g2 tk out cc kpb at2 ko => ?_
    · obtain ⟨d0, hd0, rfl⟩ := List.mem_map.mp hd
      have := ok.deep d0 hd0
      show X.A.units + 1 + 1 + (key d0).depth < cLine
      omega
    · have kp2 : ∀ b o, s1.heap.get? b = some o → h.get? b = some o := fun b o e => kpb b o (Nat.ne_of_lt (Heap.lt_size (kp b o e))) (Heap.get?_push_of_some _ (kp b o e))
      have KX : X.K.In h := PySem.W.Frag.In.keeps I1.kIn kp2
      exact def_key (s := { s1 with heap := h, toks := tk }) lk hcd KX L kb (ok.good d hd) (show X.A.depth < _ from hr.depth) (lim.keeps kp2) (by simpa using hbs { s1 with heap := h, toks := tk } [u] KX rfl) (gl.keeps kp2) ⟨mb, b1.keeps kp2, b2⟩ (PyProof.Rows.Reads.keeps kp2 rd)
    · have kp3 : ∀ b o, g.get? b = some o → g2.get? b = some o := fun b o e => kpb b o (Nat.ne_of_lt (Heap.lt_size e)) (Heap.get?_push_of_some _ e)
      have res := PySem.W.keyedOut_each key ko both
      obtain ⟨ys, r2, h2⟩ := each_out (P := fun y d => (y, d) ∈ xs.zip ds) (res.mono fun _ _ z => z.1)
      have small : ys.length ≤ sizeLine := by rw [Paired.length h2, List.length_mergeSort]; exact ok.len
      exact ⟨rfl, .ref _, _, I3.laid (t' := tk) kp3 (Nat.le_refl _) (o := .lst ys) ⟨small, out, cc, r2, at2⟩, rfl, fin ys _ h2 (I3.hok.fresh (Nat.le_refl _))⟩
  · rw [na]; rfl
  · rw [na]; rfl
end
/-! ### the rules, by values -/
def tDNewT3 : TE3 := fun _ S Q => ∀ p, S p = none → Q (.r p) (put S p (.dt p []))
def gDtk : R3 := fun w u S Q => ∃ a kvs k x, w = .r a ∧ S a = some (.dt a kvs) ∧ u = .d (lt k) ∧ valT kvs k = some x ∧ Q x S
def tDGetT3 (to te tx : TE3) : TE3 := fun τ S Q => to τ S fun w S1 => ∃ a kvs0, w = .r a ∧ S1 a = some (.dt a kvs0) ∧ te τ S1 fun u S2 => tx τ S2 fun z S3 => ∃ kvs k, S3 a = some (.dt a kvs) ∧ u = .d (lt k) ∧ Q ((valT kvs k).getD z) S3
def gSetT : W → W → W → Sto → (Sto → Prop) → Prop := fun w u x S Q => ∃ a kvs k, w = .r a ∧ u = .d (lt k) ∧ S a = some (.dt a kvs) ∧ kvs.length < sizeLine ∧ Q (put S a (.dt a (putT kvs k x)))
def gInT (neg : Bool) : R3 := fun u w S Q => ∃ a kvs k, w = .r a ∧ S a = some (.dt a kvs) ∧ u = .d (lt k) ∧ Q (.bl (xor neg (valT kvs k).isSome)) S
def gListT : RC3 := fun ws S Q => ∃ a kvs, ws = [.r a] ∧ S a = some (.dt a kvs) ∧ Q (.lst (kvs.map fun p => lt p.1)) S
def tSortKeyF3 (good : PyData → Prop) (key : PyData → PyData) (ta : TE3) : TE3 := fun τ S Q => ta τ S fun w S1 => ∃ ds, itemsW S1 w = some ds ∧ KeysOk good key ds ∧ Q (.lst (ds.mergeSort (PySem.W.dataLe false key))) S1
theorem putT_len {kvs : List (List Int × W)} {k : List Int} {w : W} : (putT kvs k w).length ≤ kvs.length + 1 := by
  unfold putT
  split
  · rw [List.length_map]; omega
  · rw [List.length_append]; exact Nat.le_refl _
section
variable {X : Cx} {Ex : WX} {a b o i e f : Expr} {ta tb to te tx : TE3} {pos apos cpos : Pos}
theorem pe3_dnewT : PE X (.Dict [] [] pos) (LE X.K Ex tDNewT3) := pe_imp pe_dnewO fun σ H Q ⟨F, S, τ, Q3, R, Ev, h, k⟩ => fun p hp hz =>
  k F _ _ (.r p) (.ref p) (Sm.refl F) (R.newS (q := .dt p []) hp ⟨X.prog, X.w, [], rfl, hz, Nat.zero_le _, List.nodup_nil, .nil⟩) rfl (h p (R.freeS hp))
theorem pe3_dtk (hu : X.A.units + 1 < cLine) (ha : PE X a (LE X.K Ex ta)) (hb : PE X b (LE X.K Ex tb)) (hs : NoSl b := by intro _ _; rfl) : PE X (.Subscript a b pos) (LE X.K Ex (tOp3 gDtk ta tb)) :=
  pe_imp (pe_dgetO hu ha hb hs) fun σ H Q ⟨F, S, τ, Q3, R, Ev, h, k⟩ => ⟨F, S, τ, _, R, Ev, h, fun F1 S1 H1 w v s1 R1 r1 h1 => ⟨F1, S1, τ, _, R1, Ev.mono s1, h1, fun F2 S2 H2 u y s2 R2 r2 ⟨p, kvs, kk, x, ew, hs, hk, hv, q⟩ => by
    subst ew
    obtain ⟨xs, D, rr⟩ := dat_of R2 hs
    obtain ⟨c, rfl, tc⟩ := key_int R2 r2 hk
    obtain ⟨z, v2, hz, rw2, rv2⟩ := rr.val.2 _ hv
    exact ⟨p, xs, kk, c, z, v2, r1, D, rfl, tc.mono R2.same, hz, rv2, k F2 S2 H2 x v2 (s1.trans s2) R2 rw2 q⟩⟩⟩
theorem pe3_dget2T (hu : X.A.units + 1 < cLine) (ho : PE X o (LE X.K Ex to)) (he : PE X e (LE X.K Ex te)) (hf : PE X f (LE X.K Ex tx)) (m : M2 X o "get" apos e f cpos := by exact ⟨rfl, rfl, rfl, rfl⟩) : PE X (.Call (.Attribute o "get" apos) [e, f] [] cpos) (LE X.K Ex (tDGetT3 to te tx)) :=
  pe_imp (pe_dget2O hu ho he hf m) fun σ H Q ⟨F, S, τ, Q3, R, Ev, h, k⟩ => ⟨F, S, τ, _, R, Ev, h, fun F1 S1 H1 w v s1 R1 r1 ⟨p, kvs0, ew, hS, h1⟩ => by
    subst ew
    obtain ⟨xs0, D0, _⟩ := dat_of R1 hS
    refine ⟨p, xs0, r1, D0, F1, S1, τ, _, R1, Ev.mono s1, h1, fun F2 S2 H2 u y s2 R2 r2 h2 => ⟨F2, S2, τ, _, R2, (Ev.mono s1).mono s2, h2, fun F3 S3 H3 z v3 s3 R3 r3 ⟨kvs, kk, hS3, hk, q⟩ => ?_⟩⟩
    obtain ⟨xs, D, rr⟩ := dat_of R3 hS3
    obtain ⟨c, rfl, tc⟩ := key_int R2 r2 hk
    refine ⟨xs, kk, c, D, rfl, (tc.mono s3.f).mono R3.same, fun hn => ?_, fun p2 hp2 => ?_⟩
    · have e0 : valT kvs kk = none := by
        have := rr.isSome (k := kk)
        rw [hn] at this
        cases e : valT kvs kk with
        | none => rfl
        | some w => rw [e] at this; cases this
      rw [e0] at q
      exact k F3 S3 H3 z v3 (s1.trans (s2.trans s3)) R3 r3 q
    · have := rr.isSome (k := kk)
      rw [hp2] at this
      cases e : valT kvs kk with
      | none => rw [e] at this; cases this
      | some w =>
        obtain ⟨p3, v2, hz, rw2, rv2⟩ := rr.val.2 _ e
        rw [hp2] at hz
        cases hz
        rw [e] at q
        exact ⟨v2, rv2, k F3 S3 H3 w v2 (s1.trans (s2.trans s3)) R3 rw2 q⟩⟩
theorem pg3_subT (hu : X.A.units + 1 < cLine) (ho : PE X o (LE X.K Ex to)) (hi : PE X i (LE X.K Ex te)) (ha : SubTo X o i pos := by intro _; rfl) : PG X (.Subscript o i pos) (LG X.K Ex (gSub3 to te gSetT)) :=
  pg_imp (pg_sub ho hi (set_dictO hu) ha) fun v σ H Q ⟨F, S, τ, w, Q3, R, Ev, r, h, k⟩ => ⟨F, S, τ, _, R, Ev, h, fun F1 S1 H1 ow ov s1 R1 r1 h1 => ⟨F1, S1, τ, _, R1, Ev.mono s1, h1, fun F2 S2 H2 iw iv s2 R2 r2 ⟨p, kvs, kk, e1, e2, hS, hz, h2⟩ => by
    subst e1
    obtain ⟨xs, D, rr⟩ := dat_of R2 hS
    obtain ⟨c, rfl, tc⟩ := key_int R2 r2 e2
    refine ⟨p, xs, kk, c, r1, D, rfl, tc.mono R2.same, by rw [← Paired.length rr]; exact hz, fun u ru nd => ?_⟩
    have rp : RepT X.K F2 (putT kvs kk w) (storedH xs kk c u) := rr.put tc (r.mono (s1.trans s2)) ru
    exact k _ _ _ _ _ (s1.trans s2) (R2.write (q := .dt p (putT kvs kk w)) hS ⟨X.prog, X.w, _, rfl, D.sys, Nat.le_trans putT_len hz, nd, rp⟩) (Ev.mono (s1.trans s2)) h2⟩⟩
theorem l_inT {K : PySem.W.Frag} : OpL K (gInT false) (fun y x H Q => ∃ a xs k b, x = .ref a ∧ DAt K H a xs ∧ y = .ref b ∧ TupN K H b (k.map V.int) ∧ Q (.bl (atKey xs k).isSome) H) := fun F S H w u x y Q3 Q R rw ru ⟨p, kvs, kk, e, hS, hk, q⟩ k => by
  subst e
  obtain ⟨xs, D, rr⟩ := dat_of R hS
  obtain ⟨c, rfl, tc⟩ := key_int R rw hk
  refine ⟨p, xs, kk, c, ru, D, rfl, tc.mono R.same, ?_⟩
  rw [rr.isSome]
  exact k F S H _ _ (Sm.refl F) R mk_bl (by simpa using q)
theorem l_notInT {K : PySem.W.Frag} : OpL K (gInT true) (fun y x H Q => ∃ a xs k b, x = .ref a ∧ DAt K H a xs ∧ y = .ref b ∧ TupN K H b (k.map V.int) ∧ Q (.bl (!(atKey xs k).isSome)) H) := fun F S H w u x y Q3 Q R rw ru ⟨p, kvs, kk, e, hS, hk, q⟩ k => by
  subst e
  obtain ⟨xs, D, rr⟩ := dat_of R hS
  obtain ⟨c, rfl, tc⟩ := key_int R rw hk
  refine ⟨p, xs, kk, c, ru, D, rfl, tc.mono R.same, ?_⟩
  rw [rr.isSome]
  exact k F S H _ _ (Sm.refl F) R mk_bl (by simpa using q)
theorem keys_dp {K : PySem.W.Frag} {F : Fz} {kvs : List (List Int × W)} {xs : List TEnt} (r : RepT K F kvs xs) : DpAll K F.f (xs.map fun x => V.ref x.2.1) (kvs.map fun p => lt p.1) := by
  induction r with
  | nil => exact .nil
  | @cons p q l m z t ih => exact .cons (.tup z.2.1 (dp_ints _)) ih
theorem l_listT0 {K : PySem.W.Frag} : CallL K gListT (fun vs H Q => ∃ a xs, vs = [V.ref a] ∧ DAt K H a xs ∧ ∀ p, H p = none → Q (.ref p) (upd H p (.lst (xs.map fun x => V.ref x.2.1)))) := fun F S H ws vs Q3 Q R r ⟨p, kvs, e, hS, q⟩ k => by
  subst e
  obtain ⟨v, rfl, rv⟩ := ws1 r
  cases (show v = .ref p from rv)
  obtain ⟨xs, D, rr⟩ := dat_of R hS
  refine ⟨p, xs, rfl, D, fun c hc => ?_⟩
  obtain ⟨s3, R3, rw3⟩ := newLst R hc (keys_dp rr)
  exact k _ _ _ _ _ s3 R3 rw3 q
theorem pe3_sortKeyF {nm x : Str} {st : Stmt} {f : Addr} {fd : FuncData} {body : Expr} {rp p p2 kpos : Pos} {k : Nat} {good : PyData → Prop} {key : PyData → PyData} (hr : Room k X.A) (hc : X.calm = true) (hg : Gl X "sorted") (hm : X.mg "sorted" = none) (hf : Gl X nm) (mf : X.mg nm = some (.ref f)) (F : FnP X.K nm st f fd)
    (hst : defBody st = [.Return (some body) rp]) (L : LamP (defScope st) x) (ha : PE X a (LE X.K Ex ta)) (kb : KeyBody X.prog X.w X.mg (defScope st) x body key good) (hbs : Binds X.K fd [x] []) (hd : (nm == ("__debug__" : Str)) = false := by decide)
    (na : starEach [a] X.env = (false, eval a X.env) :: starEach [] X.env := by rfl) : PE X (.Call (.Name "sorted" p) [a] [⟨some "key", .Name nm p2, kpos⟩] pos) (LE X.K Ex (tSortKeyF3 good key ta)) :=
  pe_imp (pe_sortKeyF hr hc hg hm hf mf F hst L ha kb hbs hd (by decide +kernel) na) fun σ H Q ⟨F, S, τ, Q3, R, Ev, h, k⟩ => ⟨F, S, τ, _, R, Ev, h, fun F1 S1 H1 w v s1 R1 r1 ⟨ds, e, ok, qq⟩ => by
    obtain ⟨l, us, rfl, hs, da, _⟩ := items_rep R1 r1 e
    refine ⟨l, us, ds, rfl, hs.imp id And.left, (dpAll_mono R1.same da).q, ok, fun ys p hy hp => ?_⟩
    have dy : DpAll X.K F1.f ys (ds.mergeSort (PySem.W.dataLe false key)) := dpAll_paired (fun v d hm => dpAll_zip da (v, d) hm) hy
    obtain ⟨s3, R3, rw3⟩ := newLst R1 hp dy
    exact k _ _ _ _ _ (s1.trans s3) R3 rw3 qq⟩
end
/-! ### either reading of a row -/
def tOrS3 (t u : TS3) : TS3 := fun D τ S => t D τ S ∨ u D τ S
def tOrE3 (t u : TE3) : TE3 := fun τ S Q => t τ S Q ∨ u τ S Q
theorem ps3_or {X : Cx} {Ex : WX} {st : Stmt} {t u : TS3} (a : PS X st (LS X.K Ex t)) (b : PS X st (LS X.K Ex u)) : PS X st (LS X.K Ex (tOrS3 t u)) := ⟨fun pins s σ H D I ⟨F, S, τ, D3, R, Ev, h, k⟩ =>
  h.elim (fun h => a.run pins s σ H D I ⟨F, S, τ, D3, R, Ev, h, k⟩) fun h => b.run pins s σ H D I ⟨F, S, τ, D3, R, Ev, h, k⟩⟩
theorem pe3_or2 {X : Cx} {Ex : WX} {e : Expr} {t u : TE3} (a : PE X e (LE X.K Ex t)) (b : PE X e (LE X.K Ex u)) : PE X e (LE X.K Ex (tOrE3 t u)) := ⟨fun pins s σ H Q I ⟨F, S, τ, Q3, R, Ev, h, k⟩ =>
  h.elim (fun h => a.run pins s σ H Q I ⟨F, S, τ, Q3, R, Ev, h, k⟩) fun h => b.run pins s σ H Q I ⟨F, S, τ, Q3, R, Ev, h, k⟩⟩
end H3

/-! H3AE: dict comprehensions. -/
namespace H3
open PySem PySem.Spec L2
open PyProof.Rows hiding St
/-! ### {k: x for .. in ..}, keys ints or texts -/
def putKW (kvs : List (Key × W)) (k : Key) (w : W) : List (Key × W) := if (kvs.any fun kv => decide (kv.1 = k)) = true then kvs.map (fun kv => if kv.1 = k then (kv.1, w) else kv) else kvs ++ [(k, w)]
theorem rep_keys {K : PySem.W.Frag} {F : Fz} {fs : List (Key × W)} {gs : List (Key × V)} (r : RepKs K F fs gs) : fs.map (·.1) = gs.map (·.1) := by
  induction r with
  | nil => rfl
  | cons a _ ih => rw [List.map_cons, List.map_cons, a.1, ih]
theorem any_keys {α : Type} (l : List (Key × α)) (k : Key) : (l.any fun kv => decide (kv.1 = k)) = (l.map (·.1)).any fun x => decide (x = k) := by
  rw [List.any_map]; rfl
theorem RepKs.put {K : PySem.W.Frag} {F : Fz} {fs : List (Key × W)} {gs : List (Key × V)} (r : RepKs K F fs gs) (k : Key) {w : W} {v : V} (h : RepW K F w v) : RepKs K F (putKW fs k w) (putK gs k v) := by
  unfold putKW putK
  rw [any_keys, any_keys, rep_keys r]
  by_cases c : ((gs.map (·.1)).any fun x => decide (x = k)) = true
  · rw [if_pos c, if_pos c]
    clear c
    induction r with
    | nil => exact .nil
    | @cons p q l1 l2 a t ih =>
      obtain ⟨x, w0⟩ := p
      obtain ⟨y, v0⟩ := q
      obtain ⟨e, r0⟩ := a
      have e : x = y := e
      subst e
      refine .cons ?_ ih
      by_cases hx : x = k
      · dsimp only
        rw [if_pos hx, if_pos hx]; exact ⟨rfl, h⟩
      · dsimp only
        rw [if_neg hx, if_neg hx]; exact ⟨rfl, r0⟩
  · rw [if_neg c, if_neg c]
    clear c
    induction r with
    | nil => exact .cons ⟨rfl, h⟩ .nil
    | cons a _ ih => exact .cons a ih
theorem rep_klen {K : PySem.W.Frag} {F : Fz} {fs : List (Key × W)} {gs : List (Key × V)} (r : RepKs K F fs gs) : fs.length = gs.length := Paired.length r
def dcGo (g : TG3) (tt : TT3) (tk tv : TE3) (τ0 : S3) (p : Addr) : List W → Sto → (Sto → Prop) → Prop
  | [], S, Q => Q S
  | w :: ws, S, Q => g w τ0 S fun τ2 S2 => tt τ2 S2 fun b S3 => (b = true → tk τ2 S3 fun y S4 => tv τ2 S4 fun z S5 => ∃ kvs k, keyW y = some k ∧ S5 p = some (.dk kvs) ∧ kvs.length < sizeLine ∧ dcGo g tt tk tv τ0 p ws (put S5 p (.dk (putKW kvs k z))) Q) ∧ (b = false → dcGo g tt tk tv τ0 p ws S3 Q)
def tDc3 (s : TI3) (g : TG3) (tt : TT3) (tk tv : TE3) (vs : List Nat) : TE3 := fun τ S Q => s τ S fun ws S1 => ws.length ≤ 1000000 ∧ ∀ p, S1 p = none → dcGo g tt tk tv ⟨wipe3 τ.sl vs, XN⟩ p ws (put S1 p (.dk [])) fun S2 => Q (.r p) S2
theorem le_dc {K : PySem.W.Frag} {Ex : WX} {s : TI3} {g3 : TG3} {g : TG} {tt : TT3} {tk tv : TE3} {vs : List Nat} (lg : LGL K EN g3 g) (wp : Wp g vs) :
    ∀ σ H Q, LE K Ex (tDc3 s g3 tt tk tv vs) σ H Q → tDc (LI K Ex s) g (LT K EN tt) (LE K EN tk) (LE K EN tv) vs σ H Q :=
  fun σ H Q ⟨F, S, τ, Q3, R, Ev, h, k⟩ => ⟨F, S, τ, _, R, Ev, h, fun F1 S1 H1 ws J s1 R1 yl ⟨hz, h1⟩ => by
    intro D hD
    have h1 := h1 D (R1.freeS hD)
    have R1' : Rel K F1 (put S1 D (.dk [])) (upd H1 D (.dK [])) := R1.newS (q := .dk []) hD ⟨[], rfl, .nil⟩
    have e0 : wipe (wipe σ vs) vs = wipe σ vs := by
      have : ∀ us : List Nat, (∀ u ∈ us, u ∈ vs) → wipe (wipe σ us) vs = wipe σ vs := fun us => by
        induction us with
        | nil => intro _; rfl
        | cons u us ih =>
          intro hu
          show wipe ((wipe σ us).set u none) vs = _
          rw [wipe_set (hu u List.mem_cons_self)]
          exact ih fun q hq => hu q (List.mem_cons_of_mem _ hq)
      exact this vs fun _ h => h
    refine ⟨fun i m H' => ∃ F' S', Sm F1 F' ∧ Rel K F' S' H' ∧ m = ws.length - i ∧ i ≤ ws.length ∧ dcGo g3 tt tk tv ⟨wipe3 τ.sl vs, XN⟩ D (ws.drop i) S' (fun S2 => Q3 (.r D) S2), ⟨ws.length, F1, _, Sm.refl F1, R1', rfl, Nat.zero_le _, h1⟩, ?_⟩
    rintro i m H' ⟨F2, S2, s2, R2, rfl, hi, h2⟩
    by_cases hlt : i < ws.length
    · rw [List.drop_eq_getElem_cons hlt] at h2
      refine .inr ⟨yl.go i H' F2 S2 s2.f R2 hlt, fun H3 => ∃ F' S', Sm F1 F' ∧ Rel K F' S' H3 ∧ dcGo g3 tt tk tv ⟨wipe3 τ.sl vs, XN⟩ D (ws.drop (i + 1)) S' (fun S2 => Q3 (.r D) S2), ?_, fun x H3 hy => ?_⟩
      · rintro H3 ⟨F', S', q1, q2, q3⟩
        exact ⟨ws.length - (i + 1), by omega, F', S', q1, q2, rfl, hlt, q3⟩
      · obtain ⟨F3, w, hw, s3, R3, r3⟩ := yl.yld i H' F2 S2 x H3 s2.f R2 hlt hy
        rw [List.getElem?_eq_getElem hlt] at hw
        cases hw
        have Ev3 : EnvR K F3 EN ⟨wipe3 τ.sl vs, XN⟩ (wipe σ vs) := ⟨sle_g (s1.f.trans (s2.f.trans s3.f)) (sl_wipe Ev.sl vs), fun _ _ _ _ _ _ _ _ _ _ _ _ _ _ z => z.elim⟩
        have z := lg F3 S2 ⟨wipe3 τ.sl vs, XN⟩ _ x (wipe σ vs) H3 _ (fun σ2 H2 => LT K EN tt σ2 H2 fun b H3 => if b = true then LE K EN tk σ2 H3 fun y H4 => LE K EN tv σ2 H4 fun z H5 => ∃ kvs k, y = kV k ∧ H5 D = some (.dK kvs) ∧ kvs.length < sizeLine ∧ (∃ F' S', Sm F1 F' ∧ Rel K F' S' (upd H5 D (.dK (putK kvs k z))) ∧ dcGo g3 tt tk tv ⟨wipe3 τ.sl vs, XN⟩ D (ws.drop (i + 1)) S' (fun S2 => Q3 (.r D) S2))
          else ∃ F' S', Sm F1 F' ∧ Rel K F' S' H3 ∧ dcGo g3 tt tk tv ⟨wipe3 τ.sl vs, XN⟩ D (ws.drop (i + 1)) S' (fun S2 => Q3 (.r D) S2)) R3 Ev3 r3 h2
          fun F4 S4 H4 τ4 σ4 s4 R4 Ev4 h4 => ⟨F4, S4, τ4, _, R4, Ev4, h4, fun F5 S5 H5 b s5 R5 ⟨h5, h6⟩ => by
            have sf : Sm F1 F5 := s2.trans (s3.trans (s4.trans s5))
            cases b with
            | true =>
              refine iteT ⟨F5, S5, τ4, _, R5, Ev4.mono s5, h5 rfl, fun F6 S6 H6 y v s6 R6 r6 h7 => ⟨F6, S6, τ4, _, R6, Ev4.mono (s5.trans s6), h7, fun F7 S7 H7 z' v' s7 R7 r7 ⟨kvs, kk, ek, hp, hl, h8⟩ => ?_⟩⟩
              have ey : v = kV kk := key_repW r6 ek
              obtain ⟨_, o, ho, gs, rfl, rr⟩ := R7.st D _ hp
              exact ⟨gs, kk, ey, ho, by rw [← rep_klen rr]; exact hl, F7, _, sf.trans (s6.trans s7), R7.write (q := .dk (putKW kvs kk z')) hp ⟨_, rfl, rr.put kk r7⟩, h8⟩
            | false => exact iteF ⟨F5, S5, sf, R5, h6 rfl⟩⟩
        have z2 := wp _ _ _ _ z
        rw [e0] at z2
        exact z2
    · have e : i = ws.length := by omega
      subst e
      rw [List.drop_length] at h2
      exact .inl ⟨yl.stop _ H' F2 S2 s2.f R2 (Nat.le_refl _), k F2 S2 H' (.r D) _ (s1.trans s2) R2 (show V.ref D = V.ref D from rfl) h2⟩⟩
section
variable {X : Cx} {Ex : WX} {kx vx tg iter : Expr} {ifs : List Expr} {scope : Scope} {own : List (Str × Nat)} {pos : Pos} {s : TI3} {g3 : TG3} {g : TG} {tt : TT3} {tk tv : TE3}
theorem pe3_dc (own : List (Str × Nat)) (hc : X.calm = true) (hN : X.N.Nodup) (hi : PI X tg iter (LI X.K Ex s)) (ok : BlkOk X.N X.env.scope scope own) (lg : LGL X.K EN g3 g) (wp : Wp g (own.map (·.2)))
    (hg : ∀ (s : Shared) (H : Hp) (C : Addr) (cl : List (Str × Addr)) (fp : List Addr), PG (X.blk s H scope (compEnvC scope cl C X.env) fp) tg g)
    (ht : ∀ (s : Shared) (H : Hp) (C : Addr) (cl : List (Str × Addr)) (fp : List Addr), PTs (X.blk s H scope (compEnvC scope cl C X.env) fp) ifs (LT X.K EN tt))
    (hk : ∀ (s : Shared) (H : Hp) (C : Addr) (cl : List (Str × Addr)) (fp : List Addr), PE (X.blk s H scope (compEnvC scope cl C X.env) fp) kx (LE X.K EN tk))
    (he : ∀ (s : Shared) (H : Hp) (C : Addr) (cl : List (Str × Addr)) (fp : List Addr), PE (X.blk s H scope (compEnvC scope cl C X.env) fp) vx (LE X.K EN tv)) (hs : ∀ x, foldedSetIterable iter X.env x = pure x := by intro _; rfl) :
    PE X (.DictComp kx vx [⟨tg, iter, ifs, 0⟩] scope pos) (LE X.K Ex (tDc3 s g3 tt tk tv (own.map (·.2)))) := pe_imp (pe_dc hc hN hi ok hg ht hk he hs) (le_dc lg wp)
end
/-- pairs of a text and data -/
theorem putKW_new {kvs : List (Key × W)} {k : Key} {w : W} (h : k ∉ kvs.map (·.1)) : putKW kvs k w = kvs ++ [(k, w)] := by
  unfold putKW
  rw [if_neg]
  intro c
  rw [any_keys, List.any_eq_true] at c
  obtain ⟨x, hx, e⟩ := c
  exact h (of_decide_eq_true e ▸ hx)
/-! ### i in range(lo, hi), i not in range(lo, hi) -/
theorem op_notin_rng {X : Cx} : OpR X (compareOp .NotIn) (fun x y H Q => ∃ i a lo hi, x = V.int i ∧ y = V.ref a ∧ H a = some (.rng lo hi) ∧ Q (.bl (!decide (lo ≤ i ∧ i < hi))) H) := by
  rintro pins s σ H _ _ v u Q I rx ry ⟨i, d, lo, up, rfl, rfl, mem, q⟩
  obtain ⟨k, rfl⟩ := rx
  cases (show u = Value.ref d from ry)
  obtain ⟨u1, u2, u3, here⟩ := I.hok d _ mem
  rw [← place1] at q
  have ran := q_contains d lo up i u1 u2 u3 k
  show wpAny _ _ (do return Value.bool (!(← contains (Value.ref d) (Value.int i k)))) _ _ s
  exact wpAny_bind (wpAny_contains_slot (T := "range") ⟨_, here, rfl⟩ F.slot_range_contains (call_meets F.slot_range_contains ⟨_, here, rfl⟩ F.entry_range_contains (F.args_range_contains_2 _ _) ran ⟨here, wpAny_truthy_bool (wpAny_pure ⟨.bl _, H, I, rfl, q⟩)⟩))
def tInRg3 (te : TE3) (t : TA3) : TE3 := fun τ S Q => te τ S fun w S1 => t τ S1 fun ws S2 => ∃ i lo hi, w = .int i ∧ ws = [.int lo, .int hi] ∧ Q (.bl (decide (lo ≤ i ∧ i < hi))) S2
def tNotInRg3 (te : TE3) (t : TA3) : TE3 := fun τ S Q => te τ S fun w S1 => t τ S1 fun ws S2 => ∃ i lo hi, w = .int i ∧ ws = [.int lo, .int hi] ∧ Q (.bl (!decide (lo ≤ i ∧ i < hi))) S2
def rRng2 : List V → Hp → VK → Prop := fun vs H Q => ∃ i j, vs = [V.int i, V.int j] ∧ ∀ p, H p = none → Q (.ref p) (upd H p (.rng i j))
section
variable {X : Cx} {Ex : WX} {e a b : Expr} {te : TE3} {t : TA3} {p pos pos' : Pos}
theorem le_inRg {K : PySem.W.Frag} : ∀ σ H Q, LE K Ex (tInRg3 te t) σ H Q → tOp (fun x y H Q => ∃ i a lo hi, x = V.int i ∧ y = V.ref a ∧ H a = some (.rng lo hi) ∧ Q (.bl (decide (lo ≤ i ∧ i < hi))) H) (LE K Ex te) (tCB rRng2 (LA K Ex t)) σ H Q := fun σ H Q ⟨F, S, τ, Q3, R, Ev, h, k⟩ => ⟨F, S, τ, _, R, Ev, h, fun F1 S1 H1 w v s1 R1 r1 h1 => ⟨F1, S1, τ, _, R1, Ev.mono s1, h1, fun F2 S2 H2 ws vs s2 R2 r2 ⟨i, lo, hi, e1, e2, q⟩ => by
    subst e1 e2
    obtain ⟨x, y, rfl, rx, ry⟩ := ws2 r2
    exact ⟨lo, hi, by rw [rep_int rx, rep_int ry], fun d hd => ⟨i, d, lo, hi, rep_int r1, rfl, upd_same, k (F2.new d (.rng lo hi)) S2 _ _ _ (s1.trans (s2.trans (sm_new (R2.freeF hd)))) (R2.newF hd) mk_bl q⟩⟩⟩⟩
theorem pe3_inRg (hg : Gl X "range") (hm : X.mg "range" = none) (he : PE X e (LE X.K Ex te)) (ha : PA X [a, b] (LA X.K Ex t)) (hv : bootBuiltins "range" = some (.type "range") := by decide +kernel)
    (hs : starEach [a, b] X.env = (false, eval a X.env) :: starEach [b] X.env := by rfl) (hpl : (backTo pos' (starEach [b] X.env)).any (·.1) = false := by rfl) (hb : behindInMarks .In (.Call (.Name "range" p) [a, b] [] pos') = false := by rfl) :
    PE X (.Compare e [.In] [.Call (.Name "range" p) [a, b] [] pos'] pos) (LE X.K Ex (tInRg3 te t)) :=
  pe_imp (pe_cmpR op_in_rng he (pe_callTy cr_range2 hg hm hv ha (by decide) (by decide) hs hpl) hb) le_inRg
theorem pt3_inRg (hg : Gl X "range") (hm : X.mg "range" = none) (he : PE X e (LE X.K Ex te)) (ha : PA X [a, b] (LA X.K Ex t)) (hv : bootBuiltins "range" = some (.type "range") := by decide +kernel)
    (hs : starEach [a, b] X.env = (false, eval a X.env) :: starEach [b] X.env := by rfl) (hpl : (backTo pos' (starEach [b] X.env)).any (·.1) = false := by rfl) (hb : behindInMarks .In (.Call (.Name "range" p) [a, b] [] pos') = false := by rfl) :
    PT X (.Compare e [.In] [.Call (.Name "range" p) [a, b] [] pos'] pos) (LT X.K Ex (tB3 (tInRg3 te t))) :=
  pt_imp (pt_cmpR op_in_rng he (pe_callTy cr_range2 hg hm hv ha (by decide) (by decide) hs hpl) hb) fun σ H Q h => le_inRg σ H _ (lt_val σ H Q h)
theorem le_notInRg {K : PySem.W.Frag} : ∀ σ H Q, LE K Ex (tNotInRg3 te t) σ H Q → tOp (fun x y H Q => ∃ i a lo hi, x = V.int i ∧ y = V.ref a ∧ H a = some (.rng lo hi) ∧ Q (.bl (!decide (lo ≤ i ∧ i < hi))) H) (LE K Ex te) (tCB rRng2 (LA K Ex t)) σ H Q := fun σ H Q ⟨F, S, τ, Q3, R, Ev, h, k⟩ => ⟨F, S, τ, _, R, Ev, h, fun F1 S1 H1 w v s1 R1 r1 h1 => ⟨F1, S1, τ, _, R1, Ev.mono s1, h1, fun F2 S2 H2 ws vs s2 R2 r2 ⟨i, lo, hi, e1, e2, q⟩ => by
    subst e1 e2
    obtain ⟨x, y, rfl, rx, ry⟩ := ws2 r2
    exact ⟨lo, hi, by rw [rep_int rx, rep_int ry], fun d hd => ⟨i, d, lo, hi, rep_int r1, rfl, upd_same, k (F2.new d (.rng lo hi)) S2 _ _ _ (s1.trans (s2.trans (sm_new (R2.freeF hd)))) (R2.newF hd) mk_bl q⟩⟩⟩⟩
theorem pe3_notInRg (hg : Gl X "range") (hm : X.mg "range" = none) (he : PE X e (LE X.K Ex te)) (ha : PA X [a, b] (LA X.K Ex t)) (hv : bootBuiltins "range" = some (.type "range") := by decide +kernel)
    (hs : starEach [a, b] X.env = (false, eval a X.env) :: starEach [b] X.env := by rfl) (hpl : (backTo pos' (starEach [b] X.env)).any (·.1) = false := by rfl) (hb : behindInMarks .NotIn (.Call (.Name "range" p) [a, b] [] pos') = false := by rfl) :
    PE X (.Compare e [.NotIn] [.Call (.Name "range" p) [a, b] [] pos'] pos) (LE X.K Ex (tNotInRg3 te t)) :=
  pe_imp (pe_cmpR op_notin_rng he (pe_callTy cr_range2 hg hm hv ha (by decide) (by decide) hs hpl) hb) le_notInRg
theorem pt3_notInRg (hg : Gl X "range") (hm : X.mg "range" = none) (he : PE X e (LE X.K Ex te)) (ha : PA X [a, b] (LA X.K Ex t)) (hv : bootBuiltins "range" = some (.type "range") := by decide +kernel)
    (hs : starEach [a, b] X.env = (false, eval a X.env) :: starEach [b] X.env := by rfl) (hpl : (backTo pos' (starEach [b] X.env)).any (·.1) = false := by rfl) (hb : behindInMarks .NotIn (.Call (.Name "range" p) [a, b] [] pos') = false := by rfl) :
    PT X (.Compare e [.NotIn] [.Call (.Name "range" p) [a, b] [] pos'] pos) (LT X.K Ex (tB3 (tNotInRg3 te t))) :=
  pt_imp (pt_cmpR op_notin_rng he (pe_callTy cr_range2 hg hm hv ha (by decide) (by decide) hs hpl) hb) fun σ H Q h => le_notInRg σ H _ (lt_val σ H Q h)
end
/-! ### for i, c in enumerate(text) -/
def IteS (x : Str) : It :=
  ⟨fun i _ => i < x.cps.size, fun i H v H' => ∃ T c o, v = .ref T ∧ H T = none ∧ NoD o ∧ H' = upd H T (.frz o (.tup [.int (i : Nat), .str ⟨#[c]⟩])) ∧ x.cps[i]? = some c, fun i _ => x.cps.size ≤ i⟩
theorem turn_enS {P : Program} {w : World} {K : PySem.W.Frag} {elts : List Expr} {kk : Nat} {tpos : Pos} (e it : Addr) (x : Str) (t : Tok) :
    Turn P w K (.Tuple elts kk tpos) (IteS x) [e, it] e (fun i h => ((∃ old, IsEnum h e it ((i : Nat) : Int) old) ∧ h.IsStrIter it (strIterType x) x t i) ∧ e ≠ it ∧ i ≤ x.cps.size) where
  mem := List.mem_cons_self
  obj := fun i h ⟨⟨⟨old, he⟩, o, ho, _, hd⟩, _⟩ b hb => by
    rcases List.mem_cons.mp hb with y | z
    · rw [y]; exact ⟨_, he, fun v q => nomatch q⟩
    · rw [List.mem_singleton.mp z]; exact ⟨o, ho, fun v q => by rw [hd] at q; cases q⟩
  keep := fun i h h' ⟨⟨⟨old, he⟩, hi⟩, rest⟩ k => ⟨⟨⟨old, k e (by simp) _ he⟩, let ⟨o, ho, r⟩ := hi; ⟨o, k it (by simp) o ho, r⟩⟩, rest⟩
  item := by
    rintro X rfl rfl rfl calm i pins s σ H E I fp ⟨⟨⟨old, he⟩, hit⟩, ne, _⟩ lt
    have lt : i < x.cps.size := lt
    have eo : e < s.heap.objs.size := Heap.lt_size he
    have io : it < s.heap.objs.size := by
      obtain ⟨_, q, _⟩ := id hit
      exact Heap.lt_size q
    refine wpAny_pyNext_enum_itemD (Draws.text (prog := X.prog) (w := X.w) (A := X.A.in1) (show X.A.in1.handled = none from I.ok.hd calm) it x t) he hit lt ne (by simp [ne]) fun u h1 tk hu out st fresh _ kept => ⟨_, rfl, ?_⟩
    obtain ⟨c, u2, hc, rfl⟩ := hu
    refine wpAny_letOwnedTupleGo_enum (s := { s with heap := h1, toks := tk + 1 }) out fun h2 he2 sb => ?_
    have other : ∀ {b : Addr}, b ≠ e → h2.get? b = h1.get? b := fun nb => sb.2 _ nb
    have pair := (other (Nat.ne_of_gt eo)).trans fresh
    have J : Inv X pins σ (upd H s.heap.objs.size (.frz { cls := .type "tuple", data := .seq #[.int i tk, .str ⟨#[c]⟩ u2] } (.tup [.int (i : Nat), .str ⟨#[c]⟩]))) { s with heap := h2, toks := tk + 1 } :=
      I.turnedNew (ch := [e, it]) (fun b o nb q => by
        have b1 : b ≠ e := fun z => nb (by simp [z])
        have b2 : b ≠ it := fun z => nb (by simp [z])
        rw [other b1]; exact kept b o b1 b2 q) fp (Nat.le_refl _) ⟨pair, by show 2 ≤ sizeLine; decide, [.int i tk, .str ⟨#[c]⟩ u2], .cons ⟨_, rfl⟩ (.cons ⟨_, rfl⟩ .nil), ⟨_, pair, rfl, _, rfl⟩⟩
    refine ⟨.ref s.heap.objs.size, _, J, rfl, ⟨_, c, _, rfl, I.hok.fresh (Nat.le_refl _), ⟨rfl, rfl⟩, rfl, hc⟩, ⟨⟨⟨.str ⟨#[c]⟩ u2, by rw [show ((i + 1 : Nat) : Int) = (i : Int) + 1 by omega]; exact he2⟩, let ⟨o, ho, r⟩ := st; ⟨o, (other (Ne.symm ne)).trans ho, r⟩⟩, ne, lt⟩, fun b hb => ?_⟩
    have bl : b < s.heap.objs.size := by
      rcases List.mem_cons.mp hb with y | z
      · rw [y]; exact eo
      · rw [List.mem_singleton.mp z]; exact io
    rw [upd_ne (Nat.ne_of_lt bl)]
    exact (fp b hb).1
  done := by
    rintro X rfl rfl rfl calm i pins s σ H E I fp ⟨⟨⟨old, he⟩, hit⟩, ne, le⟩ ge
    have all : i = x.cps.size := Nat.le_antisymm le ge
    obtain ⟨f0, f1, f2, f3, f4, f5⟩ := fp it (by simp)
    exact wpAny_pyNext_enum_endD (Draws.text (prog := X.prog) (w := X.w) (A := X.A.in1) (show X.A.in1.handled = none from I.ok.hd calm) it x t) he (all ▸ hit) fun h1 eb => ⟨rfl, I.turned (t' := s.toks) (fun b o hb q => eb b o hb q) f0 f1 f3 f4 f5⟩
  self := fun A i s Q E ⟨⟨⟨_, he⟩, _⟩, _⟩ h => wpAny_pyIter_enum he h
def iEnS (ta : TA) : TI := fun σ H R => ta σ H fun vs H1 => ∃ x, vs = [.str x] ∧ R (IteS x) H1
theorem pi_enS {X : Cx} {e : Expr} {ta : TA} {p pos tpos : Pos} {elts : List Expr} {kk : Nat} (hg : Gl X "enumerate") (hm : X.mg "enumerate" = none) (ha : PA X [e] ta) (hs : starEach [e] X.env = [(false, eval e X.env)] := by rfl) :
    PI X (.Tuple elts kk tpos) (.Call (.Name "enumerate" p) [e] [] pos) (iEnS ta) := by
  constructor
  intro pins s σ H R I h
  refine Call_ (ld_blt I hg hm boot_enumerate (PyProof.Rows.callWith_type1 (thn (ha.run pos pins s σ H _ I h) fun us s1 ⟨vs, H1, J, r1, x, ev, q⟩ => ?_) hs rfl))
  subst ev
  obtain ⟨u, rfl, ru⟩ : ∃ u, us = [u] ∧ RelV (.str x) u := by
    cases r1 with
    | cons z1 z2 => cases z2; exact ⟨_, rfl, z1⟩
  obtain ⟨t, rfl⟩ := ru
  refine call_enumerate_str fun h1 he hit _ kept => wpAny_pyIter_enum he ?_
  refine ⟨_, [s1.heap.objs.size + 1, s1.heap.objs.size], _, _, H1, rfl, J.kept (t' := s1.toks) kept, turn_enS _ _ x t, ⟨⟨⟨.none, he⟩, hit⟩, Nat.succ_ne_self _, Nat.zero_le _⟩, fun b hb => ?_, q⟩
  have old : s1.heap.objs.size ≤ b := by
    rcases List.mem_cons.mp hb with y | z
    · rw [y]; exact Nat.le_succ _
    · rw [List.mem_singleton.mp z]; exact Nat.le_refl _
  exact J.fpOk old (J.hok.fresh old)
def enS (x : Str) : List W := x.cps.toList.zipIdx.map fun p => .tup [.int ((p.2 : Nat) : Int), .str ⟨#[p.1]⟩]
theorem enS_len {x : Str} : (enS x).length = x.cps.size := by rw [enS, List.length_map, List.length_zipIdx, Array.length_toList]
theorem yl_enS {K : PySem.W.Frag} {F : Fz} {x : Str} : YL K F (IteS x) (enS x) := by
  refine ⟨fun i H F' S' s R hi => by rw [enS_len] at hi; exact hi, fun i H F' S' s R hi => by rw [enS_len] at hi; exact hi, ?_⟩
  rintro i H F' S' y H' s R hi ⟨T, c, o, rfl, hT, no, rfl, hx⟩
  have at_ : (enS x)[i]? = some (.tup [.int ((i : Nat) : Int), .str ⟨#[c]⟩]) := by
    unfold enS
    rw [List.getElem?_map, List.getElem?_zipIdx, Array.getElem?_toList, hx]
    simp
  obtain ⟨s2, R2, r2⟩ := newTup (ds := [.int ((i : Nat) : Int), .str ⟨#[c]⟩]) R hT no (.cons (.int _) (.cons (.str _) .nil))
  exact ⟨_, _, at_, s2, R2, r2⟩
def tEnS3 (ta : TA3) : TI3 := fun τ S Q => ta τ S fun ws S1 => ∃ x, ws = [.str x] ∧ Q (enS x) S1
theorem pi3_enumS {X : Cx} {Ex : WX} {e : Expr} {ta : TA3} {p pos tpos : Pos} {elts : List Expr} {kk : Nat} (hg : Gl X "enumerate") (hm : X.mg "enumerate" = none) (ha : PA X [e] (LA X.K Ex ta)) (hs : starEach [e] X.env = [(false, eval e X.env)] := by rfl) :
    PI X (.Tuple elts kk tpos) (.Call (.Name "enumerate" p) [e] [] pos) (LI X.K Ex (tEnS3 ta)) :=
  pi_imp (pi_enS hg hm ha hs) fun σ H R ⟨F, S, τ, Q3, Rl, Ev, h, k⟩ => ⟨F, S, τ, _, Rl, Ev, h, fun F1 S1 H1 ws vs s1 R1 r1 ⟨x, e, q⟩ => by
    subst e
    obtain ⟨v, rfl, rv⟩ := ws1 r1
    exact ⟨x, by rw [rep_str rv], k F1 S1 H1 _ _ s1 R1 yl_enS q⟩⟩
/-! ### x = {k: v for ..} -/
section
variable {X : Cx} {Ex : WX} {kx vx tg iter : Expr} {ifs : List Expr} {scope : Scope} {own : List (Str × Nat)} {pos : Pos}
theorem dc_swaps {gs : List Comprehension} {py : Pos} {y : Str} {l : Nat} {env : Env} (fn : env.scope.kind = .function) (lc : env.scope.names.lookup y = some .local) (ln : (py.line == pos.line) = true)
    (out : (scope.names.any fun (n, k) => n == y && (k == .local || k == .cell)) = false) : swapsWith (.DictComp kx vx gs scope pos) (some (.Name y py)) l env = pure true := by
  have k1 : env.kindOf y = some .local := lc
  have k2 : env.blockKind = .function := by unfold Env.blockKind; rw [fn]; rfl
  unfold swapsWith
  simp only [k2, k1, out, Expr.pos, ln]
  rfl
theorem ps_dc {i : Nat} {y : Str} {py spos : Pos} {wi : TI} {g : TG} {tt : TT} {tk tv : TE} (hc : X.calm = true) (hN : X.N.Nodup) (hy : X.N[i]? = some y) (hyl : X.env.scope.names.lookup y = some .local)
    (hsw : swapsWith (.DictComp kx vx [⟨tg, iter, ifs, 0⟩] scope pos) (some (.Name y py)) spos.line X.env = pure true) (hi : PI X tg iter wi) (ok : BlkOk X.N X.env.scope scope own)
    (hg : ∀ (s : Shared) (H : Hp) C cl fp, PG (X.blk s H scope (compEnvC scope cl C X.env) fp) tg g) (ht : ∀ (s : Shared) (H : Hp) C cl fp, PTs (X.blk s H scope (compEnvC scope cl C X.env) fp) ifs tt)
    (hk : ∀ (s : Shared) (H : Hp) C cl fp, PE (X.blk s H scope (compEnvC scope cl C X.env) fp) kx tk)
    (he : ∀ (s : Shared) (H : Hp) C cl fp, PE (X.blk s H scope (compEnvC scope cl C X.env) fp) vx tv) (hs : ∀ x, foldedSetIterable iter X.env x = pure x := by intro _; rfl) :
    PS X (.Assign [.Name y py] (.DictComp kx vx [⟨tg, iter, ifs, 0⟩] scope pos) spos) (tAsg (tDc wi g tt tk tv (own.map (·.2))) (gName i)) := by
  constructor
  intro pins s σ H D I told
  rw [exec_Assign_Name_used _ _ _ _ hsw]; refine wpAny_bind (wpAny_standAt (wpAny_bind ?_))
  show wpAny _ X.A (do let _ ← comprehension (.DictComp kx vx [⟨tg, iter, ifs, 0⟩] scope pos) scope X.env (firstIterPos [⟨tg, iter, ifs, 0⟩] pos) newDict false (eval iter X.env) (some (assign (.Name y py) X.env))) _ _ s
  have told : tDc wi g tt tk tv (own.map (·.2)) σ H (fun x H1 => gName i x σ H1 D.nx) := told
  refine wpAny_bind (thn (dc_core (Qf := fun _ s' => SP X pins D .next s') hc hN I hi ok hg ht hk he hs told fun d C s' m H' I' q ns f => ?_) fun _ s' hq => wpAny_pure (wpAny_pure hq))
  show wpAny _ _ (assign (.Name y py) X.env (.ref d)) _ _ _
  refine wpAny_assign_Name (store_ok2 (v := V.ref d) I' hN hy (.inl hyl) rfl (fun s2 I2 ⟨a, same, own_⟩ => ?_) (.inr hyl))
  obtain ⟨g0, g1, g2, g3, g4, g5⟩ := f
  have apart : C ≠ a := own_.elim (fun z => by rw [z]; exact g1) fun z e => g4 y a z e.symm
  exact ⟨m, ns.sameBut same apart, fun h3 sb3 => ⟨_, H', I2.turned (t' := s2.toks) (fun b o hb e => (sb3.2 b hb).trans e) g0 g1 g3 g4 g5, q⟩⟩
theorem ps3_setDc (i : Nat) (own : List (Str × Nat)) {y : Str} {py spos : Pos} {s : TI3} {g3 : TG3} {g : TG} {tt : TT3} {tk tv : TE3} (hc : X.calm = true) (hN : X.N.Nodup) (hsw : swapsWith (.DictComp kx vx [⟨tg, iter, ifs, 0⟩] scope pos) (some (.Name y py)) spos.line X.env = pure true) (hi : PI X tg iter (LI X.K Ex s)) (ok : BlkOk X.N X.env.scope scope own) (lg : LGL X.K EN g3 g) (wp : Wp g (own.map (·.2)))
    (hg : ∀ (s : Shared) (H : Hp) C cl fp, PG (X.blk s H scope (compEnvC scope cl C X.env) fp) tg g)
    (ht : ∀ (s : Shared) (H : Hp) C cl fp, PTs (X.blk s H scope (compEnvC scope cl C X.env) fp) ifs (LT X.K EN tt))
    (hk : ∀ (s : Shared) (H : Hp) C cl fp, PE (X.blk s H scope (compEnvC scope cl C X.env) fp) kx (LE X.K EN tk))
    (he : ∀ (s : Shared) (H : Hp) C cl fp, PE (X.blk s H scope (compEnvC scope cl C X.env) fp) vx (LE X.K EN tv)) (hy : X.N[i]? = some y := by rfl) (hyl : X.env.scope.names.lookup y = some .local := by rfl) (hs : ∀ x, foldedSetIterable iter X.env x = pure x := by intro _; rfl) :
    PS X (.Assign [.Name y py] (.DictComp kx vx [⟨tg, iter, ifs, 0⟩] scope pos) spos) (LS X.K Ex (tSet3 i (tDc3 s g3 tt tk tv (own.map (·.2))))) :=
  ps_imp (ps_dc hc hN hy hyl hsw hi ok hg ht hk he hs) fun D σ H ⟨F, S, τ, D3, R, Ev, h, k⟩ => le_dc lg wp σ H _ ⟨F, S, τ, fun w S1 => D3.nx (τ.set i (some w)) S1, R, Ev, h, fun F1 S1 H1 w v s1 R1 r1 h1 => k.nx F1 S1 H1 _ _ s1 R1 ((Ev.mono s1).set r1) h1⟩
end
end H3

namespace Lk53
open PySem PySem.Spec L2 H3
open PyProof.Rows hiding St
def top (i : Nat) : Stmt := PySem.Challenge.pw_handsaway_k53_whole_unis_joined_turned_b.main.body.getD i (.Pass ⟨0, 0, 0, 0⟩)
abbrev s_Counting_eq : Stmt := inCls (top 10) 1
abbrev N_Counting_eq : List Str := ["self", "other"]
abbrev P_Counting_eq : List Str := ["self", "other"]
theorem sc_Counting_eq : FnScope N_Counting_eq P_Counting_eq (defScope s_Counting_eq) := ⟨rfl, rfl, rfl, by decide +kernel, rfl, by decide +kernel, by decide +kernel⟩
abbrev s_Counting_init : Stmt := inCls (top 10) 0
abbrev N_Counting_init : List Str := ["self", "size", "deeds"]
abbrev P_Counting_init : List Str := ["self", "size", "deeds"]
theorem sc_Counting_init : FnScope N_Counting_init P_Counting_init (defScope s_Counting_init) := ⟨rfl, rfl, rfl, by decide +kernel, rfl, by decide +kernel, by decide +kernel⟩
abbrev s_law_sum : Stmt := top 21
abbrev N_law_sum : List Str := ["row", "rows", "column", "at"]
abbrev P_law_sum : List Str := ["row", "rows", "column"]
theorem sc_law_sum : FnScope N_law_sum P_law_sum (defScope s_law_sum) := ⟨rfl, rfl, rfl, by decide +kernel, rfl, by decide +kernel, by decide +kernel⟩
abbrev s_law_after : Stmt := top 22
abbrev N_law_after : List Str := ["one", "other", "rows", "row", "column"]
abbrev P_law_after : List Str := ["one", "other"]
theorem sc_law_after : FnScope N_law_after P_law_after (defScope s_law_after) := ⟨rfl, rfl, rfl, by decide +kernel, rfl, by decide +kernel, by decide +kernel⟩
abbrev s_law_any : Stmt := top 15
abbrev N_law_any : List Str := ["deal", "bound", "rest"]
abbrev P_law_any : List Str := ["deal", "bound"]
theorem sc_law_any : FnScope N_law_any P_law_any (defScope s_law_any) := ⟨rfl, rfl, rfl, by decide +kernel, rfl, by decide +kernel, by decide +kernel⟩
abbrev s_law_still : Stmt := top 23
abbrev N_law_still : List Str := ["size", "at"]
abbrev P_law_still : List Str := ["size"]
theorem sc_law_still : FnScope N_law_still P_law_still (defScope s_law_still) := ⟨rfl, rfl, rfl, by decide +kernel, rfl, by decide +kernel, by decide +kernel⟩
abbrev s_law_corner : Stmt := top 30
abbrev N_law_corner : List Str := ["size", "at", "column", "number", "rows", "row", "one"]
abbrev P_law_corner : List Str := ["size", "at", "column", "number"]
theorem sc_law_corner : FnScope N_law_corner P_law_corner (defScope s_law_corner) := ⟨rfl, rfl, rfl, by decide +kernel, rfl, by decide +kernel, by decide +kernel⟩
abbrev s_law_of : Stmt := top 16
abbrev N_law_of : List Str := ["deal", "some"]
abbrev P_law_of : List Str := ["deal", "some"]
theorem sc_law_of : FnScope N_law_of P_law_of (defScope s_law_of) := ⟨rfl, rfl, rfl, by decide +kernel, rfl, by decide +kernel, by decide +kernel⟩
abbrev s_law_names : Stmt := top 24
abbrev N_law_names : List Str := ["deal", "many", "letters", "at", "base", "place", "row", "pool", "one"]
abbrev P_law_names : List Str := ["deal", "many"]
theorem sc_law_names : FnScope N_law_names P_law_names (defScope s_law_names) := ⟨rfl, rfl, rfl, by decide +kernel, rfl, by decide +kernel, by decide +kernel⟩
abbrev s_law_size_of : Stmt := top 17
abbrev N_law_size_of : List Str := ["deal", "great", "number"]
abbrev P_law_size_of : List Str := ["deal"]
theorem sc_law_size_of : FnScope N_law_size_of P_law_size_of (defScope s_law_size_of) := ⟨rfl, rfl, rfl, by decide +kernel, rfl, by decide +kernel, by decide +kernel⟩
abbrev s_law_uni : Stmt := top 18
abbrev N_law_uni : List Str := ["deal", "size", "rows", "at", "row", "column"]
abbrev P_law_uni : List Str := ["deal", "size"]
theorem sc_law_uni : FnScope N_law_uni P_law_uni (defScope s_law_uni) := ⟨rfl, rfl, rfl, by decide +kernel, rfl, by decide +kernel, by decide +kernel⟩
abbrev s_law_counts : Stmt := top 25
abbrev N_law_counts : List Str := ["deal", "size", "names", "name"]
abbrev P_law_counts : List Str := ["deal", "size"]
theorem sc_law_counts : FnScope N_law_counts P_law_counts (defScope s_law_counts) := ⟨rfl, rfl, rfl, by decide +kernel, rfl, by decide +kernel, by decide +kernel⟩
abbrev s_law_counts_row : Stmt := top 29
abbrev N_law_counts_row : List Str := ["deal", "size", "at"]
abbrev P_law_counts_row : List Str := ["deal", "size"]
theorem sc_law_counts_row : FnScope N_law_counts_row P_law_counts_row (defScope s_law_counts_row) := ⟨rfl, rfl, rfl, by decide +kernel, rfl, by decide +kernel, by decide +kernel⟩
abbrev s_law_deal : Stmt := top 14
abbrev N_law_deal : List Str := ["script", "base", "cells", "mix", "cell"]
abbrev P_law_deal : List Str := ["script", "base"]
theorem sc_law_deal : FnScope N_law_deal P_law_deal (defScope s_law_deal) := ⟨rfl, rfl, rfl, by decide +kernel, rfl, by decide +kernel, by decide +kernel⟩
abbrev s_law_full : Stmt := top 31
abbrev N_law_full : List Str := ["size", "row", "word", "by", "at"]
abbrev P_law_full : List Str := ["size"]
theorem sc_law_full : FnScope N_law_full P_law_full (defScope s_law_full) := ⟨rfl, rfl, rfl, by decide +kernel, rfl, by decide +kernel, by decide +kernel⟩
abbrev s_law_is_int : Stmt := top 19
abbrev N_law_is_int : List Str := ["value"]
abbrev P_law_is_int : List Str := ["value"]
theorem sc_law_is_int : FnScope N_law_is_int P_law_is_int (defScope s_law_is_int) := ⟨rfl, rfl, rfl, by decide +kernel, rfl, by decide +kernel, by decide +kernel⟩
abbrev s_law_is_uni : Stmt := top 20
abbrev N_law_is_uni : List Str := ["value", "at", "row", "one"]
abbrev P_law_is_uni : List Str := ["value"]
theorem sc_law_is_uni : FnScope N_law_is_uni P_law_is_uni (defScope s_law_is_uni) := ⟨rfl, rfl, rfl, by decide +kernel, rfl, by decide +kernel, by decide +kernel⟩
abbrev s_law_log : Stmt := top 28
abbrev N_law_log : List Str := ["deal", "deeds", "who", "most", "names", "row", "turn", "name", "one"]
abbrev P_law_log : List Str := ["deal", "deeds", "who", "most"]
theorem sc_law_log : FnScope N_law_log P_law_log (defScope s_law_log) := ⟨rfl, rfl, rfl, by decide +kernel, rfl, by decide +kernel, by decide +kernel⟩
abbrev s_law_played : Stmt := top 26
abbrev N_law_played : List Str := ["deeds", "size", "log", "lot", "known", "found", "hand", "name"]
abbrev P_law_played : List Str := ["deeds", "size", "log", "lot"]
theorem sc_law_played : FnScope N_law_played P_law_played (defScope s_law_played) := ⟨rfl, rfl, rfl, by decide +kernel, rfl, by decide +kernel, by decide +kernel⟩
abbrev s_law_who : Stmt := top 27
abbrev N_law_who : List Str := ["deal", "many", "turn", "row", "hand"]
abbrev P_law_who : List Str := ["deal", "many"]
theorem sc_law_who : FnScope N_law_who P_law_who (defScope s_law_who) := ⟨rfl, rfl, rfl, by decide +kernel, rfl, by decide +kernel, by decide +kernel⟩
abbrev s_still_uni : Stmt := top 5
abbrev N_still_uni : List Str := ["size", "at", "column"]
abbrev P_still_uni : List Str := ["size"]
theorem sc_still_uni : FnScope N_still_uni P_still_uni (defScope s_still_uni) := ⟨rfl, rfl, rfl, by decide +kernel, rfl, by decide +kernel, by decide +kernel⟩
abbrev s_corner : Stmt := top 9
abbrev N_corner : List Str := ["size", "at", "column", "number", "rows", "row"]
abbrev P_corner : List Str := ["size", "at", "column", "number"]
theorem sc_corner : FnScope N_corner P_corner (defScope s_corner) := ⟨rfl, rfl, rfl, by decide +kernel, rfl, by decide +kernel, by decide +kernel⟩
abbrev s_counts_behind : Stmt := top 6
abbrev N_counts_behind : List Str := ["counts", "uni", "size", "column", "at"]
abbrev P_counts_behind : List Str := ["counts", "uni"]
theorem sc_counts_behind : FnScope N_counts_behind P_counts_behind (defScope s_counts_behind) := ⟨rfl, rfl, rfl, by decide +kernel, rfl, by decide +kernel, by decide +kernel⟩
abbrev s_uni_joined : Stmt := top 7
abbrev N_uni_joined : List Str := ["one", "other", "row"]
abbrev P_uni_joined : List Str := ["one", "other"]
theorem sc_uni_joined : FnScope N_uni_joined P_uni_joined (defScope s_uni_joined) := ⟨rfl, rfl, rfl, by decide +kernel, rfl, by decide +kernel, by decide +kernel⟩
abbrev s_counted : Stmt := top 11
abbrev N_counted : List Str := ["counting", "log", "lot", "unis", "found", "hand", "name", "uni"]
abbrev P_counted : List Str := ["counting", "log", "lot"]
theorem sc_counted : FnScope N_counted P_counted (defScope s_counted) := ⟨rfl, rfl, rfl, by decide +kernel, rfl, by decide +kernel, by decide +kernel⟩
abbrev s_full_counting : Stmt := top 12
abbrev N_full_counting : List Str := ["size", "letters", "lower", "upper", "at", "sign"]
abbrev P_full_counting : List Str := ["size"]
theorem sc_full_counting : FnScope N_full_counting P_full_counting (defScope s_full_counting) := ⟨rfl, rfl, rfl, by decide +kernel, rfl, by decide +kernel, by decide +kernel⟩
abbrev s_is_int : Stmt := top 1
abbrev N_is_int : List Str := ["value"]
abbrev P_is_int : List Str := ["value"]
theorem sc_is_int : FnScope N_is_int P_is_int (defScope s_is_int) := ⟨rfl, rfl, rfl, by decide +kernel, rfl, by decide +kernel, by decide +kernel⟩
abbrev s_is_tuple_of : Stmt := top 2
abbrev N_is_tuple_of : List Str := ["value", "many"]
abbrev P_is_tuple_of : List Str := ["value", "many"]
theorem sc_is_tuple_of : FnScope N_is_tuple_of P_is_tuple_of (defScope s_is_tuple_of) := ⟨rfl, rfl, rfl, by decide +kernel, rfl, by decide +kernel, by decide +kernel⟩
abbrev s_is_uni : Stmt := top 4
abbrev N_is_uni : List Str := ["value", "at", "row", "one"]
abbrev P_is_uni : List Str := ["value"]
theorem sc_is_uni : FnScope N_is_uni P_is_uni (defScope s_is_uni) := ⟨rfl, rfl, rfl, by decide +kernel, rfl, by decide +kernel, by decide +kernel⟩
abbrev s_uni_back : Stmt := top 8
abbrev N_uni_back : List Str := ["one", "rows", "due", "row", "column", "at"]
abbrev P_uni_back : List Str := ["one"]
theorem sc_uni_back : FnScope N_uni_back P_uni_back (defScope s_uni_back) := ⟨rfl, rfl, rfl, by decide +kernel, rfl, by decide +kernel, by decide +kernel⟩
abbrev s_law : Stmt := top 32
abbrev N_law : List Str := ["script", "deal", "turn", "size", "lot", "one", "other", "counts", "due", "back", "at", "full", "deeds", "who", "machine", "log", "column", "number", "hand"]
abbrev P_law : List Str := ["script"]
theorem sc_law : FnScope N_law P_law (defScope s_law) := ⟨rfl, rfl, rfl, by decide +kernel, rfl, by decide +kernel, by decide +kernel⟩
abbrev fileL : Str := PySem.Challenge.pw_handsaway_k53_whole_unis_joined_turned_b.main.file
structure Txt (K : PySem.W.Frag) (mg : Str → Option Value) where
  f_Counting_eq : Addr
  d_Counting_eq : FuncData
  F_Counting_eq : MtP K "__eq__" "Counting.__eq__" s_Counting_eq f_Counting_eq d_Counting_eq
  f_Counting_init : Addr
  d_Counting_init : FuncData
  F_Counting_init : MtP K "__init__" "Counting.__init__" s_Counting_init f_Counting_init d_Counting_init
  f_law_sum : Addr
  d_law_sum : FuncData
  F_law_sum : FnP K "_law_sum" s_law_sum f_law_sum d_law_sum
  m_law_sum : mg "_law_sum" = some (.ref f_law_sum)
  f_law_after : Addr
  d_law_after : FuncData
  F_law_after : FnP K "_law_after" s_law_after f_law_after d_law_after
  m_law_after : mg "_law_after" = some (.ref f_law_after)
  f_law_any : Addr
  d_law_any : FuncData
  F_law_any : FnP K "_law_any" s_law_any f_law_any d_law_any
  m_law_any : mg "_law_any" = some (.ref f_law_any)
  f_law_still : Addr
  d_law_still : FuncData
  F_law_still : FnP K "_law_still" s_law_still f_law_still d_law_still
  m_law_still : mg "_law_still" = some (.ref f_law_still)
  f_law_corner : Addr
  d_law_corner : FuncData
  F_law_corner : FnP K "_law_corner" s_law_corner f_law_corner d_law_corner
  m_law_corner : mg "_law_corner" = some (.ref f_law_corner)
  f_law_of : Addr
  d_law_of : FuncData
  F_law_of : FnP K "_law_of" s_law_of f_law_of d_law_of
  m_law_of : mg "_law_of" = some (.ref f_law_of)
  f_law_names : Addr
  d_law_names : FuncData
  F_law_names : FnP K "_law_names" s_law_names f_law_names d_law_names
  m_law_names : mg "_law_names" = some (.ref f_law_names)
  f_law_size_of : Addr
  d_law_size_of : FuncData
  F_law_size_of : FnP K "_law_size_of" s_law_size_of f_law_size_of d_law_size_of
  m_law_size_of : mg "_law_size_of" = some (.ref f_law_size_of)
  f_law_uni : Addr
  d_law_uni : FuncData
  F_law_uni : FnP K "_law_uni" s_law_uni f_law_uni d_law_uni
  m_law_uni : mg "_law_uni" = some (.ref f_law_uni)
  f_law_counts : Addr
  d_law_counts : FuncData
  F_law_counts : FnP K "_law_counts" s_law_counts f_law_counts d_law_counts
  m_law_counts : mg "_law_counts" = some (.ref f_law_counts)
  f_law_counts_row : Addr
  d_law_counts_row : FuncData
  F_law_counts_row : FnP K "_law_counts_row" s_law_counts_row f_law_counts_row d_law_counts_row
  m_law_counts_row : mg "_law_counts_row" = some (.ref f_law_counts_row)
  f_law_deal : Addr
  d_law_deal : FuncData
  F_law_deal : FnP K "_law_deal" s_law_deal f_law_deal d_law_deal
  m_law_deal : mg "_law_deal" = some (.ref f_law_deal)
  f_law_full : Addr
  d_law_full : FuncData
  F_law_full : FnP K "_law_full" s_law_full f_law_full d_law_full
  m_law_full : mg "_law_full" = some (.ref f_law_full)
  f_law_is_int : Addr
  d_law_is_int : FuncData
  F_law_is_int : FnP K "_law_is_int" s_law_is_int f_law_is_int d_law_is_int
  m_law_is_int : mg "_law_is_int" = some (.ref f_law_is_int)
  f_law_is_uni : Addr
  d_law_is_uni : FuncData
  F_law_is_uni : FnP K "_law_is_uni" s_law_is_uni f_law_is_uni d_law_is_uni
  m_law_is_uni : mg "_law_is_uni" = some (.ref f_law_is_uni)
  f_law_log : Addr
  d_law_log : FuncData
  F_law_log : FnP K "_law_log" s_law_log f_law_log d_law_log
  m_law_log : mg "_law_log" = some (.ref f_law_log)
  f_law_played : Addr
  d_law_played : FuncData
  F_law_played : FnP K "_law_played" s_law_played f_law_played d_law_played
  m_law_played : mg "_law_played" = some (.ref f_law_played)
  f_law_who : Addr
  d_law_who : FuncData
  F_law_who : FnP K "_law_who" s_law_who f_law_who d_law_who
  m_law_who : mg "_law_who" = some (.ref f_law_who)
  f_still_uni : Addr
  d_still_uni : FuncData
  F_still_uni : FnP K "still_uni" s_still_uni f_still_uni d_still_uni
  m_still_uni : mg "still_uni" = some (.ref f_still_uni)
  f_corner : Addr
  d_corner : FuncData
  F_corner : FnP K "corner" s_corner f_corner d_corner
  m_corner : mg "corner" = some (.ref f_corner)
  f_counts_behind : Addr
  d_counts_behind : FuncData
  F_counts_behind : FnP K "counts_behind" s_counts_behind f_counts_behind d_counts_behind
  m_counts_behind : mg "counts_behind" = some (.ref f_counts_behind)
  f_uni_joined : Addr
  d_uni_joined : FuncData
  F_uni_joined : FnP K "uni_joined" s_uni_joined f_uni_joined d_uni_joined
  m_uni_joined : mg "uni_joined" = some (.ref f_uni_joined)
  f_counted : Addr
  d_counted : FuncData
  F_counted : FnP K "counted" s_counted f_counted d_counted
  m_counted : mg "counted" = some (.ref f_counted)
  f_full_counting : Addr
  d_full_counting : FuncData
  F_full_counting : FnP K "full_counting" s_full_counting f_full_counting d_full_counting
  m_full_counting : mg "full_counting" = some (.ref f_full_counting)
  f_is_int : Addr
  d_is_int : FuncData
  F_is_int : FnP K "is_int" s_is_int f_is_int d_is_int
  m_is_int : mg "is_int" = some (.ref f_is_int)
  f_is_tuple_of : Addr
  d_is_tuple_of : FuncData
  F_is_tuple_of : FnP K "is_tuple_of" s_is_tuple_of f_is_tuple_of d_is_tuple_of
  m_is_tuple_of : mg "is_tuple_of" = some (.ref f_is_tuple_of)
  f_is_uni : Addr
  d_is_uni : FuncData
  F_is_uni : FnP K "is_uni" s_is_uni f_is_uni d_is_uni
  m_is_uni : mg "is_uni" = some (.ref f_is_uni)
  f_uni_back : Addr
  d_uni_back : FuncData
  F_uni_back : FnP K "uni_back" s_uni_back f_uni_back d_uni_back
  m_uni_back : mg "uni_back" = some (.ref f_uni_back)
  f_law : Addr
  d_law : FuncData
  F_law : FnP K "law" s_law f_law d_law
  m_law : mg "law" = some (.ref f_law)
  C_Counting : Addr
  mC_Counting : mg "Counting" = some (.ref C_Counting)
  cl_Counting : Cls K C_Counting
  is_Counting : IsF K C_Counting
  mk_Counting : Mk K C_Counting f_Counting_init
  mt_Counting_eq : Meth K C_Counting "__eq__" f_Counting_eq
  na_Counting_size : NoAttr K C_Counting "size"
  na_Counting_deeds : NoAttr K C_Counting "deeds"
  z_bool : mg "bool" = none
  z_isinstance : mg "isinstance" = none
  z_int : mg "int" = none
  z_len : mg "len" = none
  z_tuple : mg "tuple" = none
  z_enumerate : mg "enumerate" = none
  z_any : mg "any" = none
  z_all : mg "all" = none
  z_range : mg "range" = none
  z_sum : mg "sum" = none
  z_list : mg "list" = none
  z_abs : mg "abs" = none
  z_sorted : mg "sorted" = none
  z_dict : mg "dict" = none
  z_repr : mg "repr" = none
theorem b_Counting_eq {K : PySem.W.Frag} {f : Addr} {fd : FuncData} (F : MtP K "__eq__" "Counting.__eq__" s_Counting_eq f fd) : Binds K fd P_Counting_eq [] := F.bindsN fun _ _ _ _ _ _ us hl => match us, hl with | [_, _], _ => rfl
theorem b_Counting_init {K : PySem.W.Frag} {f : Addr} {fd : FuncData} (F : MtP K "__init__" "Counting.__init__" s_Counting_init f fd) : Binds K fd P_Counting_init [] := F.bindsN fun _ _ _ _ _ _ us hl => match us, hl with | [_, _, _], _ => rfl
def gw_Counting_init_0 {α : Type} : List α → List α := fun | [a0, a1] => [a0, a1] | l => l
theorem kb_Counting_init_0 {K : PySem.W.Frag} {f : Addr} {fd : FuncData} (F : MtP K "__init__" "Counting.__init__" s_Counting_init f fd) : KwTo1 fd P_Counting_init ["size", "deeds"] gw_Counting_init_0 where
  to := fun s v ws hl => by
    obtain ⟨_, _, dV, _, _, _, _, _, _, _, rfl, _, _, dfl, _⟩ := F.ex
    rcases dfl with ⟨_, rfl⟩ | ⟨no, _⟩
    · match ws, hl with
      | [a0, a1], _ => exact .of_eq rfl
    · exact absurd rfl no
  rel := fun {zs ws} hl r => by
    match zs, ws, hl, r with
    | [_, _], [_, _], _, .cons r0 (.cons r1 .nil) => exact .cons r0 (.cons r1 .nil)
theorem kw_Counting_init_0 (K : PySem.W.Frag) (F : Fz) (ws : List W) (vs : List V) (hl : ws.length = ["size", "deeds"].length) (r : RepWs K F ws vs) : RepWs K F (gw_Counting_init_0 ws) (gw_Counting_init_0 vs) := by
  match ws, vs, hl, r with
  | [_, _], [_, _], _, .cons r0 (.cons r1 .nil) => exact .cons r0 (.cons r1 .nil)
theorem b_law_sum {K : PySem.W.Frag} {f : Addr} {fd : FuncData} (F : FnP K "_law_sum" s_law_sum f fd) : Binds K fd P_law_sum [] := F.bindsN fun _ _ _ _ _ _ us hl => match us, hl with | [_, _, _], _ => rfl
theorem b_law_after {K : PySem.W.Frag} {f : Addr} {fd : FuncData} (F : FnP K "_law_after" s_law_after f fd) : Binds K fd P_law_after [] := F.bindsN fun _ _ _ _ _ _ us hl => match us, hl with | [_, _], _ => rfl
theorem b_law_any {K : PySem.W.Frag} {f : Addr} {fd : FuncData} (F : FnP K "_law_any" s_law_any f fd) : Binds K fd P_law_any [] := F.bindsN fun _ _ _ _ _ _ us hl => match us, hl with | [_, _], _ => rfl
theorem b_law_still {K : PySem.W.Frag} {f : Addr} {fd : FuncData} (F : FnP K "_law_still" s_law_still f fd) : Binds K fd P_law_still [] := F.bindsN fun _ _ _ _ _ _ us hl => match us, hl with | [_], _ => rfl
theorem b_law_corner {K : PySem.W.Frag} {f : Addr} {fd : FuncData} (F : FnP K "_law_corner" s_law_corner f fd) : Binds K fd P_law_corner [] := F.bindsN fun _ _ _ _ _ _ us hl => match us, hl with | [_, _, _, _], _ => rfl
theorem b_law_of {K : PySem.W.Frag} {f : Addr} {fd : FuncData} (F : FnP K "_law_of" s_law_of f fd) : Binds K fd P_law_of [] := F.bindsN fun _ _ _ _ _ _ us hl => match us, hl with | [_, _], _ => rfl
theorem b_law_names {K : PySem.W.Frag} {f : Addr} {fd : FuncData} (F : FnP K "_law_names" s_law_names f fd) : Binds K fd P_law_names [] := F.bindsN fun _ _ _ _ _ _ us hl => match us, hl with | [_, _], _ => rfl
theorem b_law_size_of {K : PySem.W.Frag} {f : Addr} {fd : FuncData} (F : FnP K "_law_size_of" s_law_size_of f fd) : Binds K fd P_law_size_of [] := F.bindsN fun _ _ _ _ _ _ us hl => match us, hl with | [_], _ => rfl
theorem b_law_uni {K : PySem.W.Frag} {f : Addr} {fd : FuncData} (F : FnP K "_law_uni" s_law_uni f fd) : Binds K fd P_law_uni [] := F.bindsN fun _ _ _ _ _ _ us hl => match us, hl with | [_, _], _ => rfl
theorem b_law_counts {K : PySem.W.Frag} {f : Addr} {fd : FuncData} (F : FnP K "_law_counts" s_law_counts f fd) : Binds K fd P_law_counts [] := F.bindsN fun _ _ _ _ _ _ us hl => match us, hl with | [_, _], _ => rfl
theorem b_law_counts_row {K : PySem.W.Frag} {f : Addr} {fd : FuncData} (F : FnP K "_law_counts_row" s_law_counts_row f fd) : Binds K fd P_law_counts_row [] := F.bindsN fun _ _ _ _ _ _ us hl => match us, hl with | [_, _], _ => rfl
theorem b_law_deal {K : PySem.W.Frag} {f : Addr} {fd : FuncData} (F : FnP K "_law_deal" s_law_deal f fd) : Binds K fd P_law_deal [] := F.bindsN fun _ _ _ _ _ _ us hl => match us, hl with | [_, _], _ => rfl
theorem b_law_full {K : PySem.W.Frag} {f : Addr} {fd : FuncData} (F : FnP K "_law_full" s_law_full f fd) : Binds K fd P_law_full [] := F.bindsN fun _ _ _ _ _ _ us hl => match us, hl with | [_], _ => rfl
theorem b_law_is_int {K : PySem.W.Frag} {f : Addr} {fd : FuncData} (F : FnP K "_law_is_int" s_law_is_int f fd) : Binds K fd P_law_is_int [] := F.bindsN fun _ _ _ _ _ _ us hl => match us, hl with | [_], _ => rfl
theorem b_law_is_uni {K : PySem.W.Frag} {f : Addr} {fd : FuncData} (F : FnP K "_law_is_uni" s_law_is_uni f fd) : Binds K fd P_law_is_uni [] := F.bindsN fun _ _ _ _ _ _ us hl => match us, hl with | [_], _ => rfl
theorem b_law_log {K : PySem.W.Frag} {f : Addr} {fd : FuncData} (F : FnP K "_law_log" s_law_log f fd) : Binds K fd P_law_log [] := F.bindsN fun _ _ _ _ _ _ us hl => match us, hl with | [_, _, _, _], _ => rfl
theorem b_law_played {K : PySem.W.Frag} {f : Addr} {fd : FuncData} (F : FnP K "_law_played" s_law_played f fd) : Binds K fd P_law_played [] := F.bindsN fun _ _ _ _ _ _ us hl => match us, hl with | [_, _, _, _], _ => rfl
theorem b_law_who {K : PySem.W.Frag} {f : Addr} {fd : FuncData} (F : FnP K "_law_who" s_law_who f fd) : Binds K fd P_law_who [] := F.bindsN fun _ _ _ _ _ _ us hl => match us, hl with | [_, _], _ => rfl
theorem b_still_uni {K : PySem.W.Frag} {f : Addr} {fd : FuncData} (F : FnP K "still_uni" s_still_uni f fd) : Binds K fd P_still_uni [] := F.bindsN fun _ _ _ _ _ _ us hl => match us, hl with | [_], _ => rfl
def gw_still_uni_0 {α : Type} : List α → List α := fun | [a0] => [a0] | l => l
theorem kb_still_uni_0 {K : PySem.W.Frag} {f : Addr} {fd : FuncData} (F : FnP K "still_uni" s_still_uni f fd) : KwTo fd P_still_uni ["size"] gw_still_uni_0 where
  to := fun s ws hl => by
    obtain ⟨_, _, dV, _, _, _, _, _, _, _, rfl, _, _, dfl, _⟩ := F.ex
    rcases dfl with ⟨_, rfl⟩ | ⟨no, _⟩
    · match ws, hl with
      | [a0], _ => exact .of_eq rfl
    · exact absurd rfl no
  rel := fun {zs ws} hl r => by
    match zs, ws, hl, r with
    | [_], [_], _, .cons r0 .nil => exact .cons r0 .nil
theorem kw_still_uni_0 (K : PySem.W.Frag) (F : Fz) (ws : List W) (vs : List V) (hl : ws.length = ["size"].length) (r : RepWs K F ws vs) : RepWs K F (gw_still_uni_0 ws) (gw_still_uni_0 vs) := by
  match ws, vs, hl, r with
  | [_], [_], _, .cons r0 .nil => exact .cons r0 .nil
theorem b_corner {K : PySem.W.Frag} {f : Addr} {fd : FuncData} (F : FnP K "corner" s_corner f fd) : Binds K fd P_corner [] := F.bindsN fun _ _ _ _ _ _ us hl => match us, hl with | [_, _, _, _], _ => rfl
def gw_corner_0 {α : Type} : List α → List α := fun | [a0, a1, a2, a3] => [a0, a1, a2, a3] | l => l
theorem kb_corner_0 {K : PySem.W.Frag} {f : Addr} {fd : FuncData} (F : FnP K "corner" s_corner f fd) : KwTo fd P_corner ["size", "at", "column", "number"] gw_corner_0 where
  to := fun s ws hl => by
    obtain ⟨_, _, dV, _, _, _, _, _, _, _, rfl, _, _, dfl, _⟩ := F.ex
    rcases dfl with ⟨_, rfl⟩ | ⟨no, _⟩
    · match ws, hl with
      | [a0, a1, a2, a3], _ => exact .of_eq rfl
    · exact absurd rfl no
  rel := fun {zs ws} hl r => by
    match zs, ws, hl, r with
    | [_, _, _, _], [_, _, _, _], _, .cons r0 (.cons r1 (.cons r2 (.cons r3 .nil))) => exact .cons r0 (.cons r1 (.cons r2 (.cons r3 .nil)))
theorem kw_corner_0 (K : PySem.W.Frag) (F : Fz) (ws : List W) (vs : List V) (hl : ws.length = ["size", "at", "column", "number"].length) (r : RepWs K F ws vs) : RepWs K F (gw_corner_0 ws) (gw_corner_0 vs) := by
  match ws, vs, hl, r with
  | [_, _, _, _], [_, _, _, _], _, .cons r0 (.cons r1 (.cons r2 (.cons r3 .nil))) => exact .cons r0 (.cons r1 (.cons r2 (.cons r3 .nil)))
theorem b_counts_behind {K : PySem.W.Frag} {f : Addr} {fd : FuncData} (F : FnP K "counts_behind" s_counts_behind f fd) : Binds K fd P_counts_behind [] := F.bindsN fun _ _ _ _ _ _ us hl => match us, hl with | [_, _], _ => rfl
def gw_counts_behind_0 {α : Type} : List α → List α := fun | [a0, a1] => [a0, a1] | l => l
theorem kb_counts_behind_0 {K : PySem.W.Frag} {f : Addr} {fd : FuncData} (F : FnP K "counts_behind" s_counts_behind f fd) : KwTo fd P_counts_behind ["counts", "uni"] gw_counts_behind_0 where
  to := fun s ws hl => by
    obtain ⟨_, _, dV, _, _, _, _, _, _, _, rfl, _, _, dfl, _⟩ := F.ex
    rcases dfl with ⟨_, rfl⟩ | ⟨no, _⟩
    · match ws, hl with
      | [a0, a1], _ => exact .of_eq rfl
    · exact absurd rfl no
  rel := fun {zs ws} hl r => by
    match zs, ws, hl, r with
    | [_, _], [_, _], _, .cons r0 (.cons r1 .nil) => exact .cons r0 (.cons r1 .nil)
theorem kw_counts_behind_0 (K : PySem.W.Frag) (F : Fz) (ws : List W) (vs : List V) (hl : ws.length = ["counts", "uni"].length) (r : RepWs K F ws vs) : RepWs K F (gw_counts_behind_0 ws) (gw_counts_behind_0 vs) := by
  match ws, vs, hl, r with
  | [_, _], [_, _], _, .cons r0 (.cons r1 .nil) => exact .cons r0 (.cons r1 .nil)
theorem b_uni_joined {K : PySem.W.Frag} {f : Addr} {fd : FuncData} (F : FnP K "uni_joined" s_uni_joined f fd) : Binds K fd P_uni_joined [] := F.bindsN fun _ _ _ _ _ _ us hl => match us, hl with | [_, _], _ => rfl
def gw_uni_joined_0 {α : Type} : List α → List α := fun | [a0, a1] => [a0, a1] | l => l
theorem kb_uni_joined_0 {K : PySem.W.Frag} {f : Addr} {fd : FuncData} (F : FnP K "uni_joined" s_uni_joined f fd) : KwTo fd P_uni_joined ["one", "other"] gw_uni_joined_0 where
  to := fun s ws hl => by
    obtain ⟨_, _, dV, _, _, _, _, _, _, _, rfl, _, _, dfl, _⟩ := F.ex
    rcases dfl with ⟨_, rfl⟩ | ⟨no, _⟩
    · match ws, hl with
      | [a0, a1], _ => exact .of_eq rfl
    · exact absurd rfl no
  rel := fun {zs ws} hl r => by
    match zs, ws, hl, r with
    | [_, _], [_, _], _, .cons r0 (.cons r1 .nil) => exact .cons r0 (.cons r1 .nil)
theorem kw_uni_joined_0 (K : PySem.W.Frag) (F : Fz) (ws : List W) (vs : List V) (hl : ws.length = ["one", "other"].length) (r : RepWs K F ws vs) : RepWs K F (gw_uni_joined_0 ws) (gw_uni_joined_0 vs) := by
  match ws, vs, hl, r with
  | [_, _], [_, _], _, .cons r0 (.cons r1 .nil) => exact .cons r0 (.cons r1 .nil)
theorem b_counted {K : PySem.W.Frag} {f : Addr} {fd : FuncData} (F : FnP K "counted" s_counted f fd) : Binds K fd P_counted [] := F.bindsN fun _ _ _ _ _ _ us hl => match us, hl with | [_, _, _], _ => rfl
def gw_counted_0 {α : Type} : List α → List α := fun | [a0, a1, a2] => [a0, a1, a2] | l => l
theorem kb_counted_0 {K : PySem.W.Frag} {f : Addr} {fd : FuncData} (F : FnP K "counted" s_counted f fd) : KwTo fd P_counted ["counting", "log", "lot"] gw_counted_0 where
  to := fun s ws hl => by
    obtain ⟨_, _, dV, _, _, _, _, _, _, _, rfl, _, _, dfl, _⟩ := F.ex
    rcases dfl with ⟨_, rfl⟩ | ⟨no, _⟩
    · match ws, hl with
      | [a0, a1, a2], _ => exact .of_eq rfl
    · exact absurd rfl no
  rel := fun {zs ws} hl r => by
    match zs, ws, hl, r with
    | [_, _, _], [_, _, _], _, .cons r0 (.cons r1 (.cons r2 .nil)) => exact .cons r0 (.cons r1 (.cons r2 .nil))
theorem kw_counted_0 (K : PySem.W.Frag) (F : Fz) (ws : List W) (vs : List V) (hl : ws.length = ["counting", "log", "lot"].length) (r : RepWs K F ws vs) : RepWs K F (gw_counted_0 ws) (gw_counted_0 vs) := by
  match ws, vs, hl, r with
  | [_, _, _], [_, _, _], _, .cons r0 (.cons r1 (.cons r2 .nil)) => exact .cons r0 (.cons r1 (.cons r2 .nil))
theorem b_full_counting {K : PySem.W.Frag} {f : Addr} {fd : FuncData} (F : FnP K "full_counting" s_full_counting f fd) : Binds K fd P_full_counting [] := F.bindsN fun _ _ _ _ _ _ us hl => match us, hl with | [_], _ => rfl
def gw_full_counting_0 {α : Type} : List α → List α := fun | [a0] => [a0] | l => l
theorem kb_full_counting_0 {K : PySem.W.Frag} {f : Addr} {fd : FuncData} (F : FnP K "full_counting" s_full_counting f fd) : KwTo fd P_full_counting ["size"] gw_full_counting_0 where
  to := fun s ws hl => by
    obtain ⟨_, _, dV, _, _, _, _, _, _, _, rfl, _, _, dfl, _⟩ := F.ex
    rcases dfl with ⟨_, rfl⟩ | ⟨no, _⟩
    · match ws, hl with
      | [a0], _ => exact .of_eq rfl
    · exact absurd rfl no
  rel := fun {zs ws} hl r => by
    match zs, ws, hl, r with
    | [_], [_], _, .cons r0 .nil => exact .cons r0 .nil
theorem kw_full_counting_0 (K : PySem.W.Frag) (F : Fz) (ws : List W) (vs : List V) (hl : ws.length = ["size"].length) (r : RepWs K F ws vs) : RepWs K F (gw_full_counting_0 ws) (gw_full_counting_0 vs) := by
  match ws, vs, hl, r with
  | [_], [_], _, .cons r0 .nil => exact .cons r0 .nil
theorem b_is_int {K : PySem.W.Frag} {f : Addr} {fd : FuncData} (F : FnP K "is_int" s_is_int f fd) : Binds K fd P_is_int [] := F.bindsN fun _ _ _ _ _ _ us hl => match us, hl with | [_], _ => rfl
theorem b_is_tuple_of {K : PySem.W.Frag} {f : Addr} {fd : FuncData} (F : FnP K "is_tuple_of" s_is_tuple_of f fd) : Binds K fd P_is_tuple_of [] := F.bindsN fun _ _ _ _ _ _ us hl => match us, hl with | [_, _], _ => rfl
theorem b_is_uni {K : PySem.W.Frag} {f : Addr} {fd : FuncData} (F : FnP K "is_uni" s_is_uni f fd) : Binds K fd P_is_uni [] := F.bindsN fun _ _ _ _ _ _ us hl => match us, hl with | [_], _ => rfl
theorem b_uni_back {K : PySem.W.Frag} {f : Addr} {fd : FuncData} (F : FnP K "uni_back" s_uni_back f fd) : Binds K fd P_uni_back [] := F.bindsN fun _ _ _ _ _ _ us hl => match us, hl with | [_], _ => rfl
def gw_uni_back_0 {α : Type} : List α → List α := fun | [a0] => [a0] | l => l
theorem kb_uni_back_0 {K : PySem.W.Frag} {f : Addr} {fd : FuncData} (F : FnP K "uni_back" s_uni_back f fd) : KwTo fd P_uni_back ["one"] gw_uni_back_0 where
  to := fun s ws hl => by
    obtain ⟨_, _, dV, _, _, _, _, _, _, _, rfl, _, _, dfl, _⟩ := F.ex
    rcases dfl with ⟨_, rfl⟩ | ⟨no, _⟩
    · match ws, hl with
      | [a0], _ => exact .of_eq rfl
    · exact absurd rfl no
  rel := fun {zs ws} hl r => by
    match zs, ws, hl, r with
    | [_], [_], _, .cons r0 .nil => exact .cons r0 .nil
theorem kw_uni_back_0 (K : PySem.W.Frag) (F : Fz) (ws : List W) (vs : List V) (hl : ws.length = ["one"].length) (r : RepWs K F ws vs) : RepWs K F (gw_uni_back_0 ws) (gw_uni_back_0 vs) := by
  match ws, vs, hl, r with
  | [_], [_], _, .cons r0 .nil => exact .cons r0 .nil
theorem b_law {K : PySem.W.Frag} {f : Addr} {fd : FuncData} (F : FnP K "law" s_law f fd) : Binds K fd P_law [] := F.bindsN fun _ _ _ _ _ _ us hl => match us, hl with | [_], _ => rfl
def dd_Counting_eq : He.DefD := ⟨("Counting", some "__eq__"), "__eq__", "Counting.__eq__", defArgs s_Counting_eq, defBody s_Counting_eq, defScope s_Counting_eq, [], []⟩
def dd_Counting_init : He.DefD := ⟨("Counting", some "__init__"), "__init__", "Counting.__init__", defArgs s_Counting_init, defBody s_Counting_init, defScope s_Counting_init, [], []⟩
def dd_law_sum : He.DefD := ⟨("_law_sum", none), "_law_sum", "_law_sum", defArgs s_law_sum, defBody s_law_sum, defScope s_law_sum, [], []⟩
def dd_law_after : He.DefD := ⟨("_law_after", none), "_law_after", "_law_after", defArgs s_law_after, defBody s_law_after, defScope s_law_after, [], []⟩
def dd_law_any : He.DefD := ⟨("_law_any", none), "_law_any", "_law_any", defArgs s_law_any, defBody s_law_any, defScope s_law_any, [], []⟩
def dd_law_still : He.DefD := ⟨("_law_still", none), "_law_still", "_law_still", defArgs s_law_still, defBody s_law_still, defScope s_law_still, [], []⟩
def dd_law_corner : He.DefD := ⟨("_law_corner", none), "_law_corner", "_law_corner", defArgs s_law_corner, defBody s_law_corner, defScope s_law_corner, [], []⟩
def dd_law_of : He.DefD := ⟨("_law_of", none), "_law_of", "_law_of", defArgs s_law_of, defBody s_law_of, defScope s_law_of, [], []⟩
def dd_law_names : He.DefD := ⟨("_law_names", none), "_law_names", "_law_names", defArgs s_law_names, defBody s_law_names, defScope s_law_names, [], []⟩
def dd_law_size_of : He.DefD := ⟨("_law_size_of", none), "_law_size_of", "_law_size_of", defArgs s_law_size_of, defBody s_law_size_of, defScope s_law_size_of, [], []⟩
def dd_law_uni : He.DefD := ⟨("_law_uni", none), "_law_uni", "_law_uni", defArgs s_law_uni, defBody s_law_uni, defScope s_law_uni, [], []⟩
def dd_law_counts : He.DefD := ⟨("_law_counts", none), "_law_counts", "_law_counts", defArgs s_law_counts, defBody s_law_counts, defScope s_law_counts, [], []⟩
def dd_law_counts_row : He.DefD := ⟨("_law_counts_row", none), "_law_counts_row", "_law_counts_row", defArgs s_law_counts_row, defBody s_law_counts_row, defScope s_law_counts_row, [], []⟩
def dd_law_deal : He.DefD := ⟨("_law_deal", none), "_law_deal", "_law_deal", defArgs s_law_deal, defBody s_law_deal, defScope s_law_deal, [], []⟩
def dd_law_full : He.DefD := ⟨("_law_full", none), "_law_full", "_law_full", defArgs s_law_full, defBody s_law_full, defScope s_law_full, [], []⟩
def dd_law_is_int : He.DefD := ⟨("_law_is_int", none), "_law_is_int", "_law_is_int", defArgs s_law_is_int, defBody s_law_is_int, defScope s_law_is_int, [], []⟩
def dd_law_is_uni : He.DefD := ⟨("_law_is_uni", none), "_law_is_uni", "_law_is_uni", defArgs s_law_is_uni, defBody s_law_is_uni, defScope s_law_is_uni, [], []⟩
def dd_law_log : He.DefD := ⟨("_law_log", none), "_law_log", "_law_log", defArgs s_law_log, defBody s_law_log, defScope s_law_log, [], []⟩
def dd_law_played : He.DefD := ⟨("_law_played", none), "_law_played", "_law_played", defArgs s_law_played, defBody s_law_played, defScope s_law_played, [], []⟩
def dd_law_who : He.DefD := ⟨("_law_who", none), "_law_who", "_law_who", defArgs s_law_who, defBody s_law_who, defScope s_law_who, [], []⟩
def dd_still_uni : He.DefD := ⟨("still_uni", none), "still_uni", "still_uni", defArgs s_still_uni, defBody s_still_uni, defScope s_still_uni, [], []⟩
def dd_corner : He.DefD := ⟨("corner", none), "corner", "corner", defArgs s_corner, defBody s_corner, defScope s_corner, [], []⟩
def dd_counts_behind : He.DefD := ⟨("counts_behind", none), "counts_behind", "counts_behind", defArgs s_counts_behind, defBody s_counts_behind, defScope s_counts_behind, [], []⟩
def dd_uni_joined : He.DefD := ⟨("uni_joined", none), "uni_joined", "uni_joined", defArgs s_uni_joined, defBody s_uni_joined, defScope s_uni_joined, [], []⟩
def dd_counted : He.DefD := ⟨("counted", none), "counted", "counted", defArgs s_counted, defBody s_counted, defScope s_counted, [], []⟩
def dd_full_counting : He.DefD := ⟨("full_counting", none), "full_counting", "full_counting", defArgs s_full_counting, defBody s_full_counting, defScope s_full_counting, [], []⟩
def dd_is_int : He.DefD := ⟨("is_int", none), "is_int", "is_int", defArgs s_is_int, defBody s_is_int, defScope s_is_int, [], []⟩
def dd_is_tuple_of : He.DefD := ⟨("is_tuple_of", none), "is_tuple_of", "is_tuple_of", defArgs s_is_tuple_of, defBody s_is_tuple_of, defScope s_is_tuple_of, [], []⟩
def dd_is_uni : He.DefD := ⟨("is_uni", none), "is_uni", "is_uni", defArgs s_is_uni, defBody s_is_uni, defScope s_is_uni, [], []⟩
def dd_uni_back : He.DefD := ⟨("uni_back", none), "uni_back", "uni_back", defArgs s_uni_back, defBody s_uni_back, defScope s_uni_back, [], []⟩
def dd_law : He.DefD := ⟨("law", none), "law", "law", defArgs s_law, defBody s_law, defScope s_law, [], []⟩
def fnl : List He.DefD := [dd_Counting_eq, dd_Counting_init, dd_law_sum, dd_law_after, dd_law_any, dd_law_still, dd_law_corner, dd_law_of, dd_law_names, dd_law_size_of, dd_law_uni, dd_law_counts, dd_law_counts_row, dd_law_deal, dd_law_full, dd_law_is_int, dd_law_is_uni, dd_law_log, dd_law_played, dd_law_who, dd_still_uni, dd_corner, dd_counts_behind, dd_uni_joined, dd_counted, dd_full_counting, dd_is_int, dd_is_tuple_of, dd_is_uni, dd_uni_back, dd_law]
def fal : List He.Fa := [.glo "_law_sum", .glo "_law_after", .glo "_law_any", .glo "_law_still", .glo "_law_corner", .glo "_law_of", .glo "_law_names", .glo "_law_size_of", .glo "_law_uni", .glo "_law_counts", .glo "_law_counts_row", .glo "_law_deal", .glo "_law_full", .glo "_law_is_int", .glo "_law_is_uni", .glo "_law_log", .glo "_law_played", .glo "_law_who", .glo "still_uni", .glo "corner", .glo "counts_behind", .glo "uni_joined", .glo "counted", .glo "full_counting", .glo "is_int", .glo "is_tuple_of", .glo "is_uni", .glo "uni_back", .glo "law", .free "bool", .free "isinstance", .free "int", .free "len", .free "tuple", .free "enumerate", .free "any", .free "all", .free "range", .free "sum", .free "list", .free "abs", .free "sorted", .free "dict", .free "repr", .glo "Counting", .cls "Counting", .mkr "Counting", .meth "Counting" "__eq__", .noat "Counting" "size", .noat "Counting" "deeds"]
abbrev R : PySem.W.OpenRow := PySem.W.OpenLaw.row PySem.Challenge.rw_handsaway_k53_whole_unis_joined_turned_b
def tnl : List (Str × Option Str) := []
def qsl : List (Option Str) := []
def erl : List ErrD := []
def btl : BltL := []
def ktl : KitL := []
def tyl : List (Str × String × Bool) := []
def isl : List Str := ["Counting"]
def ctl : CtL := []
abbrev hk : PySem.W.Hook := hookZ 4 fal fnl tnl erl ktl btl ctl isl tyl
def ob (s : PySem.W.SharedT) : AlZ := obsZ 4 fal fnl tnl erl ktl btl ctl isl tyl (HandSHeadRun.getT s)
theorem seen_eq (sh : PySem.W.SharedT) : ob sh = hk.obs sh.abs := obsZ_eq (HandSHeadRun.getT_eq sh)
def loose : List PySem.Str := [("is_int" : PySem.Str), ("is_tuple_of" : PySem.Str), ("is_uni" : PySem.Str), ("still_uni" : PySem.Str), ("counts_behind" : PySem.Str), ("uni_joined" : PySem.Str), ("uni_back" : PySem.Str), ("corner" : PySem.Str), ("counted" : PySem.Str), ("full_counting" : PySem.Str), ("_law_deal" : PySem.Str), ("_law_any" : PySem.Str), ("_law_of" : PySem.Str), ("_law_size_of" : PySem.Str), ("_law_uni" : PySem.Str), ("_law_is_int" : PySem.Str), ("_law_is_uni" : PySem.Str), ("_law_sum" : PySem.Str), ("_law_after" : PySem.Str), ("_law_still" : PySem.Str), ("_law_names" : PySem.Str), ("_law_counts" : PySem.Str), ("_law_played" : PySem.Str), ("_law_who" : PySem.Str), ("_law_log" : PySem.Str), ("_law_counts_row" : PySem.Str), ("_law_corner" : PySem.Str), ("_law_full" : PySem.Str), ("Counting" : PySem.Str)]
theorem run (w : World) : HandSHeadRun.RunEq R (PySem.W.view R.prog [32]) hk ob 20000 loose w := by
  intro os
  kernel_rfl
end Lk53

namespace Lk53
open PySem PySem.Spec L2 H3
open PyProof.Rows hiding St
/-! the draws of this law: other numbers, the same law -/
def rb_law_deal_0 : TS3 := (tSet3 3 (tOp3 gMod (tCB3 gInt (tCons3 (tOp3 gAdd (tOp3 gAdd (tOp3 gMul (tVar3 3) (tC3 (.int 48271))) (tOp3 gMod (tVar3 4) (tC3 (.int 2147483563)))) (tC3 (.int 53))) tNil3)) (tC3 (.int 2147483647))))
def rd_law_deal : TS3 := (tSeq3 (tSet3 2 (tLcD3 (tSeqI3 (tSl3 gSlL (tVar3 0) tNoP3 (tPart3 (tC3 (.int 63))))) (gName3 4) tYes3 (tCB3 gAbs (tCons3 (tCB3 gInt (tCons3 (tVar3 4) tNil3)) tNil3)) [4])) (tSeq3 (tSet3 3 (tOp3 gAdd (tOp3 gMul (tC3 (.int 52363)) (tVar3 1)) (tC3 (.int 977)))) (tSeq3 (tFor3 (tSeqI3 (tVar3 2)) (gName3 4) rb_law_deal_0) (tRet3 (tLstM3 (tCons3 (tRevM3 (tLcD3 (tSeqI3 (tVar3 2)) (gName3 4) (tB3 (tOp3 gGe (tVar3 4) (tOp3 gPow (tC3 (.int 10)) (tC3 (.int 18))))) (tVar3 4) [4])) (tCons3 (tVar3 3) tNil3)))))))
theorem sem_law_deal : ∀ ws S Q E, sp_law_deal ws S Q E → rd_law_deal (DQ Q) (start3 5 ws E) S := fun ws S Q E ⟨ns, b, e, hl, hQ⟩ => by
  subst e
  refine ⟨_, rfl, _, rfl, ns.map PyData.int, rfl, _, .inl rfl, ?_, ?_⟩
  · rw [List.length_map]
    have z := cutG_none_len (ns.map PyData.int) (some 63)
    rw [List.length_map] at z
    omega
  rw [cutG_map, mw_ints]
  have hcl := cutG_none_len ns (some 63)
  refine lcGo_map (fun w => match w with | .d (.int i) => .int (if i < 0 then -i else i) | w => w) ?_ ?_
  · intro w hw A a
    obtain ⟨i, hi, rfl⟩ := List.mem_map.mp hw
    exact ⟨_, rfl, i, rfl, i, rfl, a⟩
  · refine ⟨((cutG ns none (some 63)).map fun i => if i < 0 then -i else i).map PyData.int, by rw [List.map_map, List.map_map, List.map_map]; rfl, ?_⟩
    generalize hcs : ((cutG ns none (some 63)).map fun i => if i < 0 then -i else i) = cs
    have hcsl : cs.length ≤ 63 := by rw [← hcs, List.length_map]; omega
    refine ⟨_, rfl, _, _, rfl, rfl, .inl ⟨by decide, by decide⟩, _, _, rfl, rfl, _, rfl, _, .inl rfl, ?_⟩
    refine forGo_inv (fun _ τ S' => S' = S ∧ ∃ m w, τ.sl = [some (.lst (ns.map PyData.int)), some (.int b), some (.lst (cs.map PyData.int)), some (.int m), w]) ⟨rfl, _, _, rfl⟩ ?_ ?_
    · rintro i w ⟨sl, ex⟩ S' hw ⟨rfl, m, w4, e⟩
      subst e
      rw [mw_ints, List.getElem?_map] at hw
      obtain ⟨n, hn, rfl⟩ : ∃ n, cs[i]? = some n ∧ W.int n = w := by
        cases h : cs[i]? with
        | none => rw [h] at hw; cases hw
        | some n => rw [h] at hw; exact ⟨n, rfl, Option.some.inj hw⟩
      exact ⟨_, rfl, _, _, rfl, rfl, .inr ⟨by decide, by decide⟩, _, rfl, _, _, rfl, rfl, (show (0 : Int) < 2147483563 by decide), _, _, rfl, rfl, _, _, rfl, rfl, _, rfl, _, _, rfl, rfl, (show (0 : Int) < 2147483647 by decide), rfl, _, _, rfl⟩
    · rintro ⟨sl, ex⟩ S' ⟨rfl, m, w4, e⟩
      subst e
      refine ⟨_, rfl, _, .inl rfl, by rw [List.length_map, List.length_map]; omega, ?_⟩
      rw [mw_ints]
      refine lcGo_pure (fun w => match w with | .d (.int i) => decide ((10 : Int) ^ (18 : Int).toNat ≤ i) | _ => false) id ?_ ?_ ?_
      · intro w hw A a
        obtain ⟨i, hi, rfl⟩ := List.mem_map.mp hw
        exact ⟨_, rfl, _, _, rfl, rfl, ⟨by decide, by decide, by decide⟩, _, _, rfl, rfl, _, rfl, a⟩
      · intro w hw hp A a
        exact ⟨_, rfl, a⟩
      · have e : ([] ++ ((cs.map W.int).filter fun w => match w with | .d (.int i) => decide ((10 : Int) ^ (18 : Int).toNat ≤ i) | _ => false).map id) = ((cs.filter fun i => decide ((10 : Int) ^ (18 : Int).toNat ≤ i)).map PyData.int).map W.d := by
          rw [List.nil_append, List.map_id, List.filter_map, List.map_map]; rfl
        refine ⟨_, e, _, ⟨_, rfl, rfl⟩, fun p hp => ?_⟩
        generalize hgs : (cs.filter fun i => decide ((10 : Int) ^ (18 : Int).toNat ≤ i)) = gs
        have hgl : gs.length ≤ 63 := by rw [← hgs]; exact Nat.le_trans (List.length_filter_le _ _) hcsl
        refine ⟨_, rfl, (show 2 ≤ 1000 by decide), fun q hq => ⟨_, Sub.refl _, ?_⟩⟩
        have hqp : p ≠ q := by rintro rfl; rw [put_same] at hq; cases hq
        refine hQ q p _ (by rw [← hq, put_ne hqp.symm]) hp ((Upto.put (Upto.refl) (by simp)).put (by simp)) ⟨hqp.symm, ⟨_, put_same⟩, gs.reverse, by rw [List.length_reverse]; exact hgl, ?_⟩
        rw [put_ne hqp, put_same, mw_ints, List.map_reverse]
def rd_law_any : TS3 := (tSeq3 (tWhile3 (tAnd3 (tB3 (tOp3 gNe (tOp3 gIx (tVar3 0) (tC3 (.int 0))) (tLstD3 tNil3))) (tB3 (tOp3 gEq (tOp3 gIx (tOp3 gIx (tVar3 0) (tC3 (.int 0))) (tNeg3 (tC3 (.int 1)))) (tC3 (.int 0))))) (tDrop3 (tBM03 gPop (tOp3 gIx (tVar3 0) (tC3 (.int 0)))))) (tSeq3 (tIf3 (tB3 (tOp3 gNe (tOp3 gIx (tVar3 0) (tC3 (.int 0))) (tLstD3 tNil3))) (tSeq3 (tSet3 2 (tCB3 gInt (tCons3 (tBM03 gPop (tOp3 gIx (tVar3 0) (tC3 (.int 0)))) tNil3))) (tSeq3 (tDrop3 (tBM3 gAppend (tOp3 gIx (tVar3 0) (tC3 (.int 0))) (tCons3 (tOp3 gDiv (tVar3 2) (tVar3 1)) tNil3))) (tRet3 (tOp3 gMod (tVar3 2) (tVar3 1))))) tNext3) (tSeq3 (tAsg3 (tOp3 gMod (tCB3 gInt (tCons3 (tOp3 gAdd (tOp3 gMul (tOp3 gIx (tVar3 0) (tC3 (.int 1))) (tC3 (.int 48271))) (tC3 (.int 79))) tNil3)) (tC3 (.int 2147483647))) (gSub3 (tVar3 0) (tC3 (.int 1)) gSetL)) (tRet3 (tOp3 gMod (tCB3 gInt (tCons3 (tOp3 gDiv (tOp3 gIx (tVar3 0) (tC3 (.int 1))) (tC3 (.int 64))) tNil3)) (tVar3 1))))))
theorem sem_law_any : ∀ ws S Q E, sp_law_any ws S Q E → rd_law_any (DQ Q) (start3 3 ws E) S := fun ws S Q E ⟨dl, d1, b, e, hb, hb2, hD, hQ⟩ => by
  subst e
  refine ⟨fun k τ S' => τ.sl = [some (.r dl), some (.int b), none] ∧ Upto [dl, d1] S S' ∧ Deal S' dl d1 ∧ ∃ ns : List Int, ns.length = k ∧ S' d1 = some (.lst (ns.map W.int)), ?_, ?_⟩
  · obtain ⟨ns, _, h⟩ := hD.low
    exact ⟨_, rfl, Upto.refl, hD, ns, rfl, h⟩
  rintro k ⟨sl, ex⟩ S' ⟨e, u, hD', ns, hk, h1⟩
  subst e
  obtain ⟨ne, ⟨m, ht⟩, ns', hl', h1'⟩ := id hD'
  rw [h1] at h1'
  have hl : ns.length ≤ 63 := by
    have z : ns.map W.int = ns'.map W.int := by injection (Option.some.inj h1')
    have z2 := congrArg List.length z
    rw [List.length_map, List.length_map] at z2
    omega
  have i0 : ixW S' 0 (.r dl) = some (.r d1) := by rw [ixW_r ht]; rfl
  have i1 : ixW S' 1 (.r dl) = some (.int m) := by rw [ixW_r ht]; rfl
  have vw : viewW S' (.r d1) = some (.list (ns.map PyData.int)) := view_lst (by rw [mw_ints]; exact h1)
  refine ⟨_, rfl, _, _, rfl, i0, [], rfl, by decide, .inr ⟨_, _, vw, rfl, shaped_intsL ns, shaped_intsL [], _, rfl, fun hc => ?_, fun hc => ?_⟩⟩
  · rw [eqv_nil] at hc
    have hn : ns ≠ [] := by simpa using hc
    have hpos : 0 < ns.length := List.length_pos_iff.mpr hn
    have hlast : (ns.map W.int)[(ns.map W.int).length - 1]? = some (.int (ns[ns.length - 1])) := by
      rw [List.length_map, List.getElem?_map, List.getElem?_eq_getElem (by omega)]; rfl
    have il : ixW S' (-1) (.r d1) = some (.int (ns[ns.length - 1])) := by rw [ixW_r h1]; exact atI_last hlast
    refine ⟨_, rfl, _, _, rfl, i0, _, rfl, _, _, rfl, il, .inr ⟨_, _, rfl, rfl, rfl, rfl, _, rfl, fun hz => ?_, fun hz => ?_⟩⟩
    · refine ⟨fun τ2 S2 => ∃ m', m' < k ∧ τ2.sl = [some (.r dl), some (.int b), none] ∧ Upto [dl, d1] S S2 ∧ Deal S2 dl d1 ∧ ∃ ns : List Int, ns.length = m' ∧ S2 d1 = some (.lst (ns.map W.int)), fun τ2 S2 h => h, ?_⟩
      refine ⟨_, rfl, _, _, rfl, i0, isLst_r h1, d1, _, _, rfl, rfl, h1, hlast, ns.length - 1, by omega, rfl, u.put (by simp), ⟨ne, ⟨m, by rw [put_ne ne]; exact ht⟩, ns.dropLast, by rw [List.length_dropLast]; omega, by rw [put_same, List.map_dropLast]⟩, ns.dropLast, by rw [List.length_dropLast], by rw [put_same, List.map_dropLast]⟩
    · -- the last is not 0
      refine ⟨_, rfl, _, _, rfl, i0, [], rfl, by decide, .inr ⟨_, _, vw, rfl, shaped_intsL ns, shaped_intsL [], _, rfl, fun _ => ?_, fun hc2 => ?_⟩⟩
      · generalize hx : ns[ns.length - 1] = x at *
        refine ⟨_, rfl, _, _, rfl, i0, isLst_r h1, d1, _, _, rfl, rfl, h1, hlast, x, rfl, ?_⟩
        have h2 : put S' d1 (.lst (ns.map W.int).dropLast) d1 = some (.lst (ns.map W.int).dropLast) := put_same
        have i2 : ixW (put S' d1 (.lst (ns.map W.int).dropLast)) 0 (.r dl) = some (.r d1) := by rw [ixW_r (by rw [put_ne ne]; exact ht)]; rfl
        refine ⟨_, rfl, _, _, rfl, i2, isLst_r h2, _, rfl, _, rfl, _, _, rfl, rfl, ⟨hb, hb2⟩, d1, _, _, rfl, rfl, h2, ?_, ?_⟩
        · rw [List.length_dropLast, List.length_map]; exact Nat.lt_of_le_of_lt (show ns.length - 1 ≤ 63 by omega) (by decide)
        refine ⟨_, rfl, _, rfl, _, _, rfl, rfl, hb, _, Sub.refl _, hQ _ _ (Int.emod_nonneg _ (by omega)) (Int.emod_lt_of_pos _ hb) ((u.put (by simp)).put (by simp)) ⟨ne, ⟨m, by rw [put_ne ne, put_ne ne]; exact ht⟩, ns.dropLast ++ [x / b], ?_, ?_⟩⟩
        · rw [List.length_append, List.length_dropLast, List.length_singleton]; omega
        · rw [put_same, List.map_append, List.map_dropLast]; rfl
      · rw [eqv_nil, hc] at hc2; cases hc2
  · -- nothing is left
    rw [eqv_nil] at hc
    refine ⟨fun z => (nomatch z), fun _ => ?_⟩
    refine ⟨_, rfl, _, _, rfl, i0, [], rfl, by decide, .inr ⟨_, _, vw, rfl, shaped_intsL ns, shaped_intsL [], _, rfl, fun hc2 => ?_, fun _ => ?_⟩⟩
    · rw [eqv_nil, hc] at hc2; cases hc2
    · have t2 : put S' dl (.lst ([W.r d1, W.int m].set 1 (.int ((m * 48271 + 79) % 2147483647)))) dl = some (.lst [.r d1, .int ((m * 48271 + 79) % 2147483647)]) := put_same
      have i2 : ixW (put S' dl (.lst ([W.r d1, W.int m].set 1 (.int ((m * 48271 + 79) % 2147483647))))) 1 (.r dl) = some (.int ((m * 48271 + 79) % 2147483647)) := by rw [ixW_r t2]; rfl
      refine ⟨_, rfl, _, _, rfl, i1, _, _, rfl, rfl, .inr ⟨by decide, by decide⟩, _, _, rfl, rfl, _, rfl, _, _, rfl, rfl, (show (0 : Int) < 2147483647 by decide), _, rfl, dl, _, _, 1, rfl, rfl, ht, rfl, ?_⟩
      exact ⟨_, rfl, _, _, rfl, i2, _, _, rfl, rfl, ⟨by decide, by decide⟩, _, rfl, _, rfl, _, _, rfl, rfl, hb, _, Sub.refl _, hQ _ _ (Int.emod_nonneg _ (by omega)) (Int.emod_lt_of_pos _ hb) (u.put (by simp)) ⟨ne, ⟨_, t2⟩, ns, hl, by rw [put_ne ne.symm]; exact h1⟩⟩

/-! places -/
theorem ix_tupD {S : Sto} {ds : List PyData} {i : Nat} {d : PyData} (h : ds[i]? = some d) : ixW S ((i : Nat) : Int) (.tup ds) = some (.d d) := by
  show (some (ds.map W.d)).bind (fun ws => atI ws _) = _
  exact H3.atI_nat (by rw [List.getElem?_map, h]; rfl)
theorem ix_lstD {S : Sto} {ds : List PyData} {i : Nat} {x : PyData} (h : ds[i]? = some x) : ixW S (i : Int) (.lst ds) = some (.d x) := by
  show atI (ds.map W.d) (i : Int) = _
  exact H3.atI_nat (by rw [List.getElem?_map, h]; rfl)
theorem ix_sto {S : Sto} {a : Addr} {ws : List W} {i : Nat} {w : W} (h : S a = some (.lst ws)) (hw : ws[i]? = some w) : ixW S ((i : Nat) : Int) (.r a) = some w := by
  rw [ixW_r h]; exact H3.atI_nat hw
theorem look1 {a : Addr} {b : Bool} : List.lookup a [(a, b)] = some b := by rw [List.lookup_cons, beq_self_eq_true]

/-! numbers drawn -/
theorem memI {P : Int → Prop} {ks : List Int} {d : PyData} (h : ∀ k ∈ ks, P k) (hd : d ∈ ks.map PyData.int) : ∃ k, d = .int k ∧ P k := by
  obtain ⟨k, hk, rfl⟩ := List.mem_map.mp hd
  exact ⟨k, rfl, h k hk⟩
theorem law_any_nat {dl d1 : Addr} {b : Nat} {S : Sto} {Q : K3} {E : X3} (hD : Deal S dl d1) (h0 : 0 < b) (hb : b < 1000) (q : ∀ (r : Nat) S', r < b → Upto [dl, d1] S S' → Deal S' dl d1 → Q (.int (r : Nat)) S') : sp_law_any [.r dl, .int (b : Nat)] S Q E :=
  law_any_lt hD (by omega) (Int.lt_trans (show (b : Int) < 1000 by omega) (by decide)) fun r S' r0 r1 u hD' => by
    have z := q r.toNat S' (by omega) u hD'
    rw [Int.toNat_of_nonneg r0] at z
    exact z
theorem drawnL {α : Type} (f : α → PyData) (P : α → Prop) {dl d1 : Addr} {i : Nat} {te : TE3} {τ0 : S3} {S : Sto} {Q : List W → Sto → Prop} {ws : List W} (hD : Deal S dl d1)
    (step : ∀ (w : W) (S2 : Sto) (K : K3), w ∈ ws → Upto [dl, d1] S S2 → Deal S2 dl d1 → (∀ a S3, P a → Upto [dl, d1] S2 S3 → Deal S3 dl d1 → K (.d (f a)) S3) → te (τ0.set i (some w)) S2 K)
    (hd : ∀ (as : List α) S', as.length = ws.length → (∀ a ∈ as, P a) → Upto [dl, d1] S S' → Deal S' dl d1 → Q (as.map fun a => W.d (f a)) S') :
    lcGo (gName3 i) tYes3 te τ0 ws [] S Q := by
  refine lcGo_run (fun k acc S' => Deal S' dl d1 ∧ Upto [dl, d1] S S' ∧ ∃ as : List α, acc = (as.map fun a => W.d (f a)) ∧ as.length = k ∧ ∀ a ∈ as, P a) ⟨hD, Upto.refl, [], rfl, rfl, fun n hn => nomatch hn⟩ ?_ ?_
  · rintro k w acc S3 K hw ⟨hD3, u3, as, rfl, l3, b3⟩ hK
    refine ⟨fun _ => step w S3 _ (List.mem_of_getElem? hw) u3 hD3 fun a S4 pa u4 hD4 => hK _ _ ⟨hD4, u3.trans u4, as ++ [a], by rw [List.map_append]; rfl, by rw [List.length_append, l3]; rfl, fun b hb => ?_⟩, fun c => nomatch c⟩
    rcases List.mem_append.mp hb with h | h
    · exact b3 b h
    · rw [List.mem_singleton.mp h]; exact pa
  · rintro acc S3 ⟨hD3, u3, as, rfl, l3, b3⟩
    exact hd as S3 l3 b3 u3 hD3
theorem cm2 {i j : Int} (h0 : 0 ≤ i) (h1 : i < 1000) : CMul i j := .inl ⟨Int.lt_of_lt_of_le (show -((2 : Int) ^ 64) < 0 by decide) h0, Int.lt_trans h1 (by decide)⟩

/-! unis, plainly -/
abbrev Mx := Nat → Nat → Int
def sm : Nat → (Nat → Int) → Int
  | 0, _ => 0
  | n + 1, f => sm n f + f n
theorem sm_list (n : Nat) (f : Nat → Int) : ((List.range n).map f).sum = sm n f := by
  induction n with
  | zero => rfl
  | succ n ih =>
    rw [List.range_succ, List.map_append, List.sum_append, ih]
    show _ + (f n + 0) = _ + f n
    rw [Int.add_zero]
theorem sm_congr {n : Nat} {f g : Nat → Int} (h : ∀ k, k < n → f k = g k) : sm n f = sm n g := by
  induction n with
  | zero => rfl
  | succ n ih =>
    show sm n f + f n = sm n g + g n
    rw [ih fun k hk => h k (by omega), h n (by omega)]
theorem sm_zero (n : Nat) : sm n (fun _ => 0) = 0 := by
  induction n with
  | zero => rfl
  | succ n ih => show sm n _ + 0 = 0; rw [ih]; rfl
theorem sm_add (n : Nat) (f g : Nat → Int) : sm n (fun k => f k + g k) = sm n f + sm n g := by
  induction n with
  | zero => rfl
  | succ n ih =>
    show sm n _ + (f n + g n) = (sm n f + f n) + (sm n g + g n)
    rw [ih]; omega
theorem sm_left (n : Nat) (c : Int) (f : Nat → Int) : sm n (fun k => c * f k) = c * sm n f := by
  induction n with
  | zero => show (0 : Int) = c * 0; rw [Int.mul_zero]
  | succ n ih =>
    show sm n _ + c * f n = c * (sm n f + f n)
    rw [ih, Int.mul_add]
theorem sm_right (n : Nat) (c : Int) (f : Nat → Int) : sm n (fun k => f k * c) = sm n f * c := by
  induction n with
  | zero => show (0 : Int) = 0 * c; rw [Int.zero_mul]
  | succ n ih =>
    show sm n _ + f n * c = (sm n f + f n) * c
    rw [ih, Int.add_mul]
theorem sm_swap (n m : Nat) (f : Nat → Nat → Int) : sm n (fun k => sm m (fun l => f k l)) = sm m (fun l => sm n (fun k => f k l)) := by
  induction n with
  | zero => exact (sm_zero m).symm
  | succ n ih =>
    show sm n _ + sm m (fun l => f n l) = _
    rw [ih, ← sm_add]; rfl
theorem sm_one {n i : Nat} (h : i < n) (f : Nat → Int) : sm n (fun k => (if i = k then 1 else 0) * f k) = f i := by
  induction n with
  | zero => omega
  | succ n ih =>
    show sm n _ + (if i = n then 1 else 0) * f n = f i
    by_cases e : i = n
    · subst e
      rw [if_pos rfl, Int.one_mul, sm_congr (g := fun _ => 0) fun k hk => by rw [if_neg (by omega), Int.zero_mul], sm_zero, Int.zero_add]
    · rw [if_neg e, ih (by omega), Int.zero_mul, Int.add_zero]
theorem sm_one' {n j : Nat} (h : j < n) (f : Nat → Int) : sm n (fun k => f k * (if k = j then 1 else 0)) = f j := by
  rw [← sm_one h f]
  refine sm_congr fun k _ => ?_
  rw [Int.mul_comm]
  by_cases e : k = j
  · rw [if_pos e]; rw [if_pos e.symm]
  · rw [if_neg e, if_neg fun z => e z.symm]
/-- only places up to c count -/
theorem sm_cut {n c : Nat} (h : c ≤ n) {f : Nat → Int} (z : ∀ k, c ≤ k → k < n → f k = 0) : sm n f = sm c f := by
  induction n with
  | zero => rw [show c = 0 by omega]
  | succ n ih =>
    by_cases e : c = n + 1
    · rw [e]
    · show sm n f + f n = _
      rw [z n (by omega) (by omega), Int.add_zero]
      exact ih (by omega) fun k h1 h2 => z k h1 (by omega)
def mulM (n : Nat) (A B : Mx) : Mx := fun i j => sm n fun k => A i k * B k j
def oneM : Mx := fun i j => if i = j then 1 else 0
def EqM (n : Nat) (A B : Mx) : Prop := ∀ i j, i < n → j < n → A i j = B i j
theorem EqM.symm {n : Nat} {A B : Mx} (h : EqM n A B) : EqM n B A := fun i j hi hj => (h i j hi hj).symm
theorem EqM.trans {n : Nat} {A B C : Mx} (h : EqM n A B) (g : EqM n B C) : EqM n A C := fun i j hi hj => (h i j hi hj).trans (g i j hi hj)
theorem mul_congr {n : Nat} {A A' B B' : Mx} (h : EqM n A A') (g : EqM n B B') : EqM n (mulM n A B) (mulM n A' B') := fun i j hi hj => sm_congr fun k hk => by rw [h i k hi hk, g k j hk hj]
theorem mul_assoc (n : Nat) (A B C : Mx) : EqM n (mulM n (mulM n A B) C) (mulM n A (mulM n B C)) := fun i j hi hj => by
  show sm n (fun k => sm n (fun l => A i l * B l k) * C k j) = sm n (fun l => A i l * sm n (fun k => B l k * C k j))
  have e1 : sm n (fun k => sm n (fun l => A i l * B l k) * C k j) = sm n (fun k => sm n (fun l => A i l * B l k * C k j)) := sm_congr fun k _ => (sm_right n (C k j) _).symm
  have e2 : sm n (fun l => A i l * sm n (fun k => B l k * C k j)) = sm n (fun l => sm n (fun k => A i l * (B l k * C k j))) := sm_congr fun l _ => (sm_left n (A i l) _).symm
  rw [e1, e2, sm_swap]
  exact sm_congr fun l _ => sm_congr fun k _ => Int.mul_assoc ..
theorem one_mul (n : Nat) (A : Mx) : EqM n (mulM n oneM A) A := fun i j hi hj => sm_one hi fun k => A k j
theorem mul_one (n : Nat) (A : Mx) : EqM n (mulM n A oneM) A := fun i j hi hj => sm_one' hj fun k => A i k
structure Uni (n : Nat) (A : Mx) : Prop where
  dg : ∀ i, i < n → A i i = 1
  lo : ∀ i j, i < n → j < i → A i j = 0
theorem one_uni (n : Nat) : Uni n oneM := ⟨fun i _ => if_pos rfl, fun i j _ h => if_neg (by omega)⟩
theorem mul_uni {n : Nat} {A B : Mx} (h : Uni n A) (g : Uni n B) : Uni n (mulM n A B) := by
  refine ⟨fun i hi => ?_, fun i j hi hj => ?_⟩
  · show sm n (fun k => A i k * B k i) = 1
    rw [sm_congr (g := fun k => (if i = k then 1 else 0) * B k i) fun k hk => ?_, sm_one hi, g.dg i hi]
    by_cases e : i = k
    · rw [← e, h.dg i hi, if_pos rfl]
    · rw [if_neg e]
      rcases Nat.lt_or_gt_of_ne e with z | z
      · rw [g.lo k i hk z, Int.mul_zero, Int.mul_zero]
      · rw [h.lo i k hi z, Int.zero_mul]
  · show sm n (fun k => A i k * B k j) = 0
    rw [sm_congr (g := fun _ => 0) fun k hk => ?_, sm_zero]
    by_cases z : k < i
    · rw [h.lo i k hi z, Int.zero_mul]
    · rw [g.lo k j hk (by omega), Int.mul_zero]
/-! the back -/
def bkR (A : Mx) (r : Nat) : Nat → List Int
  | 0 => []
  | c + 1 => bkR A r c ++ [oneM r c - sm c fun k => (bkR A r c).getD k 0 * A k c]
theorem bkR_len (A : Mx) (r : Nat) : ∀ c, (bkR A r c).length = c
  | 0 => rfl
  | c + 1 => by
    show (bkR A r c ++ [_]).length = _
    rw [List.length_append, bkR_len A r c]; rfl
def backM (A : Mx) : Mx := fun r c => (bkR A r (c + 1)).getD c 0
theorem bkR_get (A : Mx) (r : Nat) : ∀ (m k : Nat), k < m → (bkR A r m).getD k 0 = backM A r k
  | 0, k, h => by omega
  | m + 1, k, h => by
    by_cases e : k = m
    · rw [e]; rfl
    · show (bkR A r m ++ [_]).getD k 0 = _
      rw [← bkR_get A r m k (by omega), List.getD_eq_getElem?_getD, List.getD_eq_getElem?_getD, List.getElem?_append_left (by rw [bkR_len]; omega)]
theorem back_eq (A : Mx) (r c : Nat) : backM A r c = oneM r c - sm c fun k => backM A r k * A k c := by
  show (bkR A r c ++ [_]).getD c 0 = _
  rw [List.getD_eq_getElem?_getD, List.getElem?_append_right (by rw [bkR_len]; omega), bkR_len, Nat.sub_self]
  show oneM r c - _ = _
  rw [sm_congr fun k hk => by rw [bkR_get A r c k hk]]
theorem back_row (A : Mx) (r c : Nat) : bkR A r c = (List.range c).map fun k => backM A r k := by
  refine List.ext_getElem? fun k => ?_; by_cases h : k < c
  · rw [List.getElem?_map, List.getElem?_range h]
    show _ = some (backM A r k)
    rw [← bkR_get A r c k h, List.getD_eq_getElem?_getD, List.getElem?_eq_getElem (by rw [bkR_len]; exact h)]; rfl
  · rw [List.getElem?_eq_none (by rw [bkR_len]; omega), List.getElem?_eq_none (by rw [List.length_map, List.length_range]; omega)]
theorem back_mul {n : Nat} {A : Mx} (h : Uni n A) : EqM n (mulM n (backM A) A) oneM := fun i j hi hj => by
  show sm n (fun k => backM A i k * A k j) = oneM i j
  rw [sm_cut (c := j + 1) (by omega) fun k h1 h2 => by rw [h.lo k j h2 (by omega), Int.mul_zero]]
  show sm j (fun k => backM A i k * A k j) + backM A i j * A j j = _
  rw [h.dg j hj, Int.mul_one, back_eq A i j]; omega
theorem back_lo (A : Mx) (r : Nat) : ∀ c, c < r → backM A r c = 0 := fun c => by
  induction c using Nat.strongRecOn with
  | _ c ih =>
    intro h
    rw [back_eq, sm_congr (g := fun _ => 0) fun k hk => by rw [ih k hk (by omega), Int.zero_mul], sm_zero]
    show (if r = c then (1 : Int) else 0) - 0 = 0
    rw [if_neg (by omega)]; rfl
theorem back_uni (n : Nat) (A : Mx) : Uni n (backM A) := by
  refine ⟨fun i _ => ?_, fun i j _ h => back_lo A i j h⟩
  rw [back_eq, sm_congr (g := fun _ => 0) fun k hk => by rw [back_lo A i k hk, Int.zero_mul], sm_zero]
  show (if i = i then (1 : Int) else 0) - 0 = 1
  rw [if_pos rfl]; rfl
theorem mul_back {n : Nat} {A : Mx} (h : Uni n A) : EqM n (mulM n A (backM A)) oneM := by
  have x := back_mul h
  have y := back_mul (back_uni n A)
  -- Y = Y (X A) = (Y X) A = A
  have e : EqM n (backM (backM A)) A := ((mul_one n _).symm.trans (mul_congr (fun _ _ _ _ => rfl) x.symm)).trans (((mul_assoc n _ _ _).symm).trans ((mul_congr y (fun _ _ _ _ => rfl)).trans (one_mul n A)))
  exact (mul_congr e.symm fun _ _ _ _ => rfl).trans y
theorem back_unique {n : Nat} {A Z : Mx} (h : Uni n A) (z : EqM n (mulM n Z A) oneM) : EqM n Z (backM A) :=
  ((mul_one n Z).symm.trans (mul_congr (fun _ _ _ _ => rfl) (mul_back h).symm)).trans (((mul_assoc n _ _ _).symm).trans ((mul_congr z fun _ _ _ _ => rfl).trans (one_mul n _)))
theorem back_of_mul {n : Nat} {A B : Mx} (h : Uni n A) (g : Uni n B) : EqM n (mulM n (backM B) (backM A)) (backM (mulM n A B)) := by
  refine back_unique (mul_uni h g) ?_
  have e1 : EqM n (mulM n (mulM n (backM B) (backM A)) (mulM n A B)) (mulM n (backM B) (mulM n (backM A) (mulM n A B))) := mul_assoc n _ _ _
  have e2 : EqM n (mulM n (backM A) (mulM n A B)) B := ((mul_assoc n _ _ _).symm).trans ((mul_congr (back_mul h) fun _ _ _ _ => rfl).trans (one_mul n B))
  exact e1.trans ((mul_congr (fun _ _ _ _ => rfl) e2).trans (back_mul g))
/-! how great -/
def Wt (n Q : Nat) (A : Mx) : Prop := ∀ i j, i ≤ j → j < n → (A i j).natAbs ≤ Q ^ (j - i)
def ns : Nat → (Nat → Nat) → Nat
  | 0, _ => 0
  | n + 1, f => ns n f + f n
theorem sm_abs (n : Nat) (f : Nat → Int) : (sm n f).natAbs ≤ ns n fun k => (f k).natAbs := by
  induction n with
  | zero => exact Nat.le_refl _
  | succ n ih =>
    show (sm n f + f n).natAbs ≤ ns n _ + (f n).natAbs
    have := Int.natAbs_add_le (sm n f) (f n)
    omega
theorem ns_le {n : Nat} {f g : Nat → Nat} (h : ∀ k, k < n → f k ≤ g k) : ns n f ≤ ns n g := by
  induction n with
  | zero => exact Nat.le_refl _
  | succ n ih =>
    have a := ih fun k hk => h k (by omega)
    have b := h n (by omega)
    show ns n f + f n ≤ ns n g + g n
    omega
theorem ns_mul (n c : Nat) (f : Nat → Nat) : ns n (fun k => c * f k) = c * ns n f := by
  induction n with
  | zero => rfl
  | succ n ih => show ns n _ + c * f n = c * (ns n f + f n); rw [ih, Nat.mul_add]
theorem geo (Q P : Nat) : ∀ d, ns (d + 1) (fun k => Q ^ k * P ^ (d - k)) ≤ (Q + P) ^ d
  | 0 => by show 0 + 1 * 1 ≤ 1; decide
  | d + 1 => by
    have ih := geo Q P d
    show ns (d + 1) (fun k => Q ^ k * P ^ (d + 1 - k)) + Q ^ (d + 1) * P ^ (d + 1 - (d + 1)) ≤ _
    have e : ns (d + 1) (fun k => Q ^ k * P ^ (d + 1 - k)) ≤ P * ns (d + 1) (fun k => Q ^ k * P ^ (d - k)) := by
      rw [← ns_mul]
      refine ns_le fun k hk => ?_
      rw [show d + 1 - k = (d - k) + 1 by omega, Nat.pow_succ]
      exact Nat.le_of_eq (by ac_rfl)
    rw [Nat.sub_self, Nat.pow_zero, Nat.mul_one, Nat.pow_succ (Q + P), Nat.mul_add]
    have a : P * ns (d + 1) (fun k => Q ^ k * P ^ (d - k)) ≤ (Q + P) ^ d * P := by rw [Nat.mul_comm]; exact Nat.mul_le_mul_right _ ih
    have b : Q ^ (d + 1) ≤ (Q + P) ^ d * Q := by
      rw [Nat.pow_succ]
      exact Nat.mul_le_mul_right _ (Nat.pow_le_pow_left (by omega) _)
    omega
theorem ns_shift (i d : Nat) (f : Nat → Nat) (z : ∀ k, k < i → f k = 0) : ns (i + d) f = ns d fun k => f (i + k) := by
  induction d with
  | zero =>
    show ns i f = 0
    have : ns i f ≤ ns i fun _ => 0 := ns_le fun k hk => by rw [z k hk]; exact Nat.le_refl _
    have e : ∀ m, ns m (fun _ => 0) = 0 := fun m => by
      induction m with
      | zero => rfl
      | succ m ih => show ns m _ + 0 = 0; rw [ih]
    rw [e] at this; omega
  | succ d ih => show ns (i + d) f + f (i + d) = ns d _ + f (i + d); rw [ih]
theorem mul_wt {n Q P : Nat} {A B : Mx} (h : Uni n A) (g : Uni n B) (a : Wt n Q A) (b : Wt n P B) : Wt n (Q + P) (mulM n A B) := fun i j hij hj => by
  show (sm n fun k => A i k * B k j).natAbs ≤ _
  rw [sm_cut (c := j + 1) (by omega) fun k h1 h2 => by rw [g.lo k j h2 (by omega), Int.mul_zero]]
  refine Nat.le_trans (sm_abs _ _) ?_
  rw [show j + 1 = i + ((j - i) + 1) by omega, ns_shift i _ _ fun k hk => by rw [h.lo i k (by omega) hk, Int.zero_mul]; rfl]
  refine Nat.le_trans (ns_le fun k hk => ?_) (geo Q P (j - i))
  rw [Int.natAbs_mul]
  have x := a i (i + k) (by omega) (by omega)
  have y := b (i + k) j (by omega) (by omega)
  rw [show i + k - i = k by omega] at x
  rw [show j - (i + k) = j - i - k by omega] at y
  exact Nat.mul_le_mul x y
theorem one_wt (n Q : Nat) : Wt n Q oneM := fun i j hij hj => by
  show (if i = j then (1 : Int) else 0).natAbs ≤ _
  by_cases e : i = j
  · rw [if_pos e, e, Nat.sub_self]; exact Nat.le_refl _
  · rw [if_neg e]; exact Nat.zero_le _
theorem wt_mono {n Q P : Nat} {A : Mx} (h : Wt n Q A) (q : Q ≤ P) : Wt n P A := fun i j a b => Nat.le_trans (h i j a b) (Nat.pow_le_pow_left q _)
theorem geo2 (P : Nat) : ∀ d, ns d (fun k => (2 * P) ^ k * P ^ (d - k)) + P ^ d = (2 * P) ^ d
  | 0 => rfl
  | d + 1 => by
    have ih := geo2 P d
    show ns d (fun k => (2 * P) ^ k * P ^ (d + 1 - k)) + (2 * P) ^ d * P ^ (d + 1 - d) + P ^ (d + 1) = _
    have e : ns d (fun k => (2 * P) ^ k * P ^ (d + 1 - k)) = P * ns d (fun k => (2 * P) ^ k * P ^ (d - k)) := by
      rw [← ns_mul]
      have : ∀ m, m ≤ d → ns m (fun k => (2 * P) ^ k * P ^ (d + 1 - k)) = ns m (fun k => P * ((2 * P) ^ k * P ^ (d - k))) := fun m => by
        induction m with
        | zero => intro _; rfl
        | succ m im =>
          intro hm
          show ns m _ + (2 * P) ^ m * P ^ (d + 1 - m) = ns m _ + P * ((2 * P) ^ m * P ^ (d - m))
          rw [im (by omega), show d + 1 - m = (d - m) + 1 by omega, Nat.pow_succ P]
          congr 1
          ac_rfl
      exact this d (Nat.le_refl _)
    rw [e, show d + 1 - d = 1 by omega, Nat.pow_one, Nat.pow_succ P, Nat.pow_succ (2 * P)]
    have f : P * ns d (fun k => (2 * P) ^ k * P ^ (d - k)) + P ^ d * P = (2 * P) ^ d * P := by rw [← ih, Nat.add_mul, Nat.mul_comm P]
    have g : (2 * P) ^ d * (2 * P) = (2 * P) ^ d * P + (2 * P) ^ d * P := by rw [Nat.two_mul, Nat.mul_add]
    omega
theorem back_wt {n P : Nat} {A : Mx} (h : Uni n A) (a : Wt n P A) : Wt n (2 * P) (backM A) := fun i j => by
  induction j using Nat.strongRecOn with
  | _ j ih =>
    intro hij hj
    by_cases e : i = j
    · subst e
      rw [(back_uni n A).dg i hj, Nat.sub_self]; exact Nat.le_refl _
    rw [back_eq]
    show ((if i = j then (1 : Int) else 0) - _).natAbs ≤ _
    rw [if_neg e, Int.zero_sub, Int.natAbs_neg]
    refine Nat.le_trans (sm_abs _ _) ?_
    have ej : j = i + (j - i) := by omega
    rw [show ns j (fun k => (backM A i k * A k j).natAbs) = ns (i + (j - i)) (fun k => (backM A i k * A k j).natAbs) by rw [← ej], ns_shift i _ _ fun k hk => by rw [back_lo A i k hk, Int.zero_mul]; rfl]
    refine Nat.le_trans (ns_le (g := fun k => (2 * P) ^ k * P ^ (j - i - k)) fun k hk => ?_) (by have := geo2 P (j - i); omega)
    rw [Int.natAbs_mul]
    have x := ih (i + k) (by omega) (by omega) (by omega)
    have y := a (i + k) j (by omega) (by omega)
    rw [show i + k - i = k by omega] at x
    rw [show j - (i + k) = j - i - k by omega] at y
    exact Nat.mul_le_mul x y

/-! unis in the program -/
def vec (n : Nat) (v : Nat → Int) : List Int := (List.range n).map v
def umD (n : Nat) (A : Mx) : PyData := .tuple ((List.range n).map fun i => lt (vec n (A i)))
def Low (n : Nat) (A : Mx) : Prop := ∀ i j, i < n → j < n → (A i j).natAbs < 10 ^ 60
theorem vec_len {n : Nat} {v : Nat → Int} : (vec n v).length = n := by unfold vec; rw [List.length_map, List.length_range]
theorem vec_at {n k : Nat} (h : k < n) (v : Nat → Int) : ((vec n v).map PyData.int)[k]? = some (.int (v k)) := by
  unfold vec
  rw [List.getElem?_map, List.getElem?_map, List.getElem?_range h]; rfl
theorem um_at {n k : Nat} (h : k < n) (A : Mx) : ((List.range n).map fun i => lt (vec n (A i)))[k]? = some (lt (vec n (A k))) := by
  rw [List.getElem?_map, List.getElem?_range h]; rfl
theorem ix_um {S : Sto} {n k : Nat} (h : k < n) (A : Mx) : ixW S ((k : Nat) : Int) (.d (umD n A)) = some (.d (lt (vec n (A k)))) := ix_tupD (um_at h A)
theorem ix_vec {S : Sto} {n k : Nat} (h : k < n) (v : Nat → Int) : ixW S ((k : Nat) : Int) (.d (lt (vec n v))) = some (.int (v k)) := ix_tupD (vec_at h v)
theorem len_um {S : Sto} {n : Nat} {A : Mx} : lenW S (.d (umD n A)) = some n := len_tp.trans (by rw [List.length_map, List.length_range])
theorem vec_congr {n : Nat} {v u : Nat → Int} (h : ∀ k, k < n → v k = u k) : vec n v = vec n u := List.map_congr_left fun k hk => h k (List.mem_range.mp hk)
theorem um_congr {n : Nat} {A B : Mx} (h : EqM n A B) : umD n A = umD n B := by
  unfold umD
  rw [List.map_congr_left fun i hi => by rw [vec_congr fun j hj => h i j (List.mem_range.mp hi) hj]]
theorem wmul {x y : Int} (hx : x.natAbs < 10 ^ 60) (hy : y.natAbs < 10 ^ 60) : CMulW x y := wide_mul (a := 200) (b := 200) (Nat.lt_of_lt_of_le hx (by decide)) (Nat.lt_of_lt_of_le hy (by decide)) (by decide) (by decide) (by decide)
theorem lcRg {i n : Nat} {te : TE3} {τ0 : S3} {S : Sto} {Q : List W → Sto → Prop} (h : Nat → W) (he : ∀ k, k < n → ∀ A : K3, A (h k) S → te (τ0.set i (some (.int (k : Nat)))) S A) (q : Q ((List.range n).map h) S) : lcGo (gName3 i) tYes3 te τ0 (rgW 0 (n : Int).toNat) [] S Q := by
  rw [rgW_nat]
  exact lcGo_mapG (fun k : Nat => W.int (k : Nat)) h (fun k hk A a => he k (List.mem_range.mp hk) A a) (by rw [List.nil_append]; exact q)
theorem rg4 {n : Nat} (h : n ≤ 4) : (rgW 0 (n : Int).toNat).length ≤ 1000000 := by rw [rgW_len]; omega
def sq_counts_behind : Sp3 := fun ws S Q _ => ∃ (n : Nat) (v : Nat → Int) (A : Mx) (w : W), ws = [w, .d (umD n A)] ∧ n ≤ 4 ∧ Tis w ((vec n v).map PyData.int) ∧ (∀ k, k < n → (v k).natAbs < 10 ^ 60) ∧ Low n A ∧ Q (.d (lt (vec n fun j => sm n fun k => v k * A k j))) S
def sp_counts_behind : Sp3 := fun ws S Q E => Bx (sq_counts_behind ws S Q E)
theorem len_counts_behind : ∀ ws S Q E, sp_counts_behind ws S Q E → ws.length = 2 := fun ws S Q E ⟨⟨n, v, A, w, e, _⟩⟩ => by rw [e]; rfl
def rd_counts_behind : TS3 := (tSeq3 (tSet3 2 (tCB3 gLen (tCons3 (tVar3 1) tNil3))) (tRet3 (tCB3 gTuple (tCons3 (tLcD3 (tRgI1 (tCons3 (tVar3 2) tNil3)) (gName3 3) tYes3 (tCB3 gSum (tCons3 (tLcD3 (tRgI1 (tCons3 (tVar3 2) tNil3)) (gName3 4) tYes3 (tOp3 gMulW (tOp3 gIx (tVar3 0) (tVar3 4)) (tOp3 gIx (tOp3 gIx (tVar3 1) (tVar3 4)) (tVar3 3))) [4]) tNil3)) [3]) tNil3))))
theorem ix_tis {S : Sto} {w : W} {n k : Nat} {v : Nat → Int} (h : Tis w ((vec n v).map PyData.int)) (hk : k < n) : ixW S ((k : Nat) : Int) w = some (.int (v k)) := by
  rcases h with rfl | rfl
  · exact ix_lstD (vec_at hk v)
  · exact ix_tupD (vec_at hk v)
theorem sem_counts_behind : ∀ ws S Q E, sp_counts_behind ws S Q E → rd_counts_behind (DQ Q) (start3 5 ws E) S := fun ws S Q E ⟨⟨n, v, A, w, e, n4, hw, lv, la, q⟩⟩ => by
  subst e
  refine ⟨_, rfl, _, n, rfl, len_um, ?_⟩
  refine ⟨_, rfl, (n : Int), rfl, ⟨by omega, by omega⟩, rg4 n4, lcRg (fun j => .int (sm n fun k => v k * A k j)) (fun j hj Z a => ?_) ?_⟩
  · refine ⟨_, rfl, (n : Int), rfl, ⟨by omega, by omega⟩, rg4 n4, lcRg (fun k => .int (v k * A k j)) (fun k hk Z a => ?_) ?_⟩
    · exact ⟨_, rfl, _, rfl, _, _, rfl, ix_tis hw hk, _, rfl, _, rfl, _, _, rfl, ix_um hk A, _, rfl, _, _, rfl, ix_vec hj _, _, _, rfl, rfl, wmul (lv k hk) (la k j hk hj), a⟩
    · refine ⟨((List.range n).map fun k => v k * A k j).map PyData.int, by rw [List.map_map, List.map_map]; rfl, _, (List.range n).map fun k => v k * A k j, rfl, rfl, ?_⟩
      rw [sm_list]; exact a
  · exact ⟨(vec n fun j => sm n fun k => v k * A k j).map PyData.int, by unfold vec; rw [List.map_map, List.map_map]; rfl, _, _, rfl, rfl, S, Sub.refl _, q⟩
def sq_uni_joined : Sp3 := fun ws S Q _ => ∃ (n : Nat) (A B : Mx), ws = [.d (umD n A), .d (umD n B)] ∧ n ≤ 4 ∧ Low n A ∧ Low n B ∧ Q (.d (umD n (mulM n A B))) S
def sp_uni_joined : Sp3 := fun ws S Q E => Bx (sq_uni_joined ws S Q E)
theorem len_uni_joined : ∀ ws S Q E, sp_uni_joined ws S Q E → ws.length = 2 := fun ws S Q E ⟨⟨n, A, B, e, _⟩⟩ => by rw [e]; rfl
def rd_uni_joined : TS3 := (tRet3 (tCB3 gTuple (tCons3 (tLcD3 (tSeqI3 (tVar3 0)) (gName3 2) tYes3 (tCall3 sp_counts_behind (tCons3 (tVar3 2) (tCons3 (tVar3 1) tNil3))) [2]) tNil3)))
theorem sem_uni_joined : ∀ ws S Q E, sp_uni_joined ws S Q E → rd_uni_joined (DQ Q) (start3 3 ws E) S := fun ws S Q E ⟨⟨n, A, B, e, n4, la, lb, q⟩⟩ => by
  subst e
  refine ⟨_, rfl, _, .inr rfl, by rw [List.length_map, List.length_map, List.length_range]; omega, ?_⟩
  rw [List.map_map (g := W.d)]
  refine lcGo_mapG (W.d ∘ fun i => lt (vec n (A i))) (fun i => W.d (lt (vec n (mulM n A B i)))) (fun i hi Z a => ⟨_, rfl, _, rfl, ⟨⟨n, A i, B, _, rfl, n4, .inr rfl, fun k hk => la i k (List.mem_range.mp hi) hk, lb, a⟩⟩⟩) ?_
  exact ⟨(List.range n).map fun i => lt (vec n (mulM n A B i)), by rw [List.nil_append, List.map_map]; rfl, _, _, rfl, rfl, S, Sub.refl _, q⟩
def sq_still_uni : Sp3 := fun ws S Q _ => ∃ n : Nat, ws = [.int (n : Nat)] ∧ n ≤ 4 ∧ Q (.d (umD n oneM)) S
def sp_still_uni : Sp3 := fun ws S Q E => Bx (sq_still_uni ws S Q E)
theorem len_still_uni : ∀ ws S Q E, sp_still_uni ws S Q E → ws.length = 1 := fun ws S Q E ⟨⟨n, e, _⟩⟩ => by rw [e]; rfl
def rd_still_uni : TS3 := (tRet3 (tCB3 gTuple (tCons3 (tLcD3 (tRgI1 (tCons3 (tVar3 0) tNil3)) (gName3 1) tYes3 (tCB3 gTuple (tCons3 (tLcD3 (tRgI1 (tCons3 (tVar3 0) tNil3)) (gName3 2) tYes3 (tIfE3 (tB3 (tOp3 gEq (tVar3 1) (tVar3 2))) (tC3 (.int 1)) (tC3 (.int 0))) [2]) tNil3)) [1]) tNil3)))
theorem sem_still_uni : ∀ ws S Q E, sp_still_uni ws S Q E → rd_still_uni (DQ Q) (start3 3 ws E) S := fun ws S Q E ⟨⟨n, e, n4, q⟩⟩ => by
  subst e
  refine ⟨_, rfl, (n : Int), rfl, ⟨by omega, by omega⟩, rg4 n4, lcRg (fun i => W.d (lt (vec n (oneM i)))) (fun i hi Z a => ?_) ?_⟩
  · refine ⟨_, rfl, (n : Int), rfl, ⟨by omega, by omega⟩, rg4 n4, lcRg (fun j => .int (oneM i j)) (fun j hj Z a => ⟨_, rfl, _, rfl, .inr ⟨_, _, rfl, rfl, rfl, rfl, _, rfl, fun c => ?_, fun c => ?_⟩⟩) ?_⟩
    · rw [eqv_int] at c
      have c := of_decide_eq_true c
      have e : oneM i j = 1 := if_pos (by omega)
      rw [e] at a; exact a
    · rw [eqv_int] at c
      have c := of_decide_eq_false c
      have e : oneM i j = 0 := if_neg (by omega)
      rw [e] at a; exact a
    · exact ⟨(vec n (oneM i)).map PyData.int, by unfold vec; rw [List.map_map, List.map_map]; rfl, _, _, rfl, rfl, a⟩
  · exact ⟨(List.range n).map fun i => lt (vec n (oneM i)), by rw [List.map_map]; rfl, _, _, rfl, rfl, S, Sub.refl _, q⟩
def sq_law_sum : Sp3 := fun ws S Q _ => ∃ (n : Nat) (v : Nat → Int) (A : Mx) (j : Nat), ws = [.d (lt (vec n v)), .d (umD n A), .int (j : Nat)] ∧ n ≤ 4 ∧ j < n ∧ (∀ k, k < n → (v k).natAbs < 10 ^ 60) ∧ Low n A ∧ Q (.int (sm n fun k => v k * A k j)) S
def sp_law_sum : Sp3 := fun ws S Q E => Bx (sq_law_sum ws S Q E)
theorem len_law_sum : ∀ ws S Q E, sp_law_sum ws S Q E → ws.length = 3 := fun ws S Q E ⟨⟨n, v, A, j, e, _⟩⟩ => by rw [e]; rfl
def rd_law_sum : TS3 := (tRet3 (tCB3 gSum (tCons3 (tLcD3 (tRgI1 (tCons3 (tCB3 gLen (tCons3 (tVar3 1) tNil3)) tNil3)) (gName3 3) tYes3 (tOp3 gMulW (tOp3 gIx (tVar3 0) (tVar3 3)) (tOp3 gIx (tOp3 gIx (tVar3 1) (tVar3 3)) (tVar3 2))) [3]) tNil3)))
theorem sem_law_sum : ∀ ws S Q E, sp_law_sum ws S Q E → rd_law_sum (DQ Q) (start3 4 ws E) S := fun ws S Q E ⟨⟨n, v, A, j, e, n4, hj, lv, la, q⟩⟩ => by
  subst e
  refine ⟨_, rfl, _, n, rfl, len_um, (n : Int), rfl, ⟨by omega, by omega⟩, rg4 n4, lcRg (fun k => .int (v k * A k j)) (fun k hk Z a => ?_) ?_⟩
  · exact ⟨_, rfl, _, rfl, _, _, rfl, ix_vec hk v, _, rfl, _, rfl, _, _, rfl, ix_um hk A, _, rfl, _, _, rfl, ix_vec hj _, _, _, rfl, rfl, wmul (lv k hk) (la k j hk hj), a⟩
  · refine ⟨((List.range n).map fun k => v k * A k j).map PyData.int, by rw [List.map_map, List.map_map]; rfl, _, (List.range n).map fun k => v k * A k j, rfl, rfl, S, Sub.refl _, ?_⟩
    rw [sm_list]; exact q
def sq_law_after : Sp3 := fun ws S Q _ => ∃ (n : Nat) (A B : Mx), ws = [.d (umD n A), .d (umD n B)] ∧ n ≤ 4 ∧ Low n A ∧ Low n B ∧ Q (.d (umD n (mulM n A B))) S
def sp_law_after : Sp3 := fun ws S Q E => Bx (sq_law_after ws S Q E)
theorem len_law_after : ∀ ws S Q E, sp_law_after ws S Q E → ws.length = 2 := fun ws S Q E ⟨⟨n, A, B, e, _⟩⟩ => by rw [e]; rfl
def rb_law_after_0 : TS3 := (tDrop3 (tBM3 gAppend (tVar3 2) (tCons3 (tCB3 gTuple (tCons3 (tLcD3 (tRgI1 (tCons3 (tCB3 gLen (tCons3 (tVar3 1) tNil3)) tNil3)) (gName3 4) tYes3 (tCall3 sp_law_sum (tCons3 (tVar3 3) (tCons3 (tVar3 1) (tCons3 (tVar3 4) tNil3)))) [4]) tNil3)) tNil3)))
def rd_law_after : TS3 := (tSeq3 (tSet3 2 (tLstM3 tNil3)) (tSeq3 (tFor3 (tSeqI3 (tVar3 0)) (gName3 3) rb_law_after_0) (tRet3 (tCB3 gTuple (tCons3 (tVar3 2) tNil3)))))
theorem sem_law_after : ∀ ws S Q E, sp_law_after ws S Q E → rd_law_after (DQ Q) (start3 5 ws E) S := fun ws S Q E ⟨⟨n, A, B, e, n4, la, lb, q⟩⟩ => by
  subst e
  refine ⟨by decide, fun p hp => ?_⟩
  have hp : S p = none := hp
  refine ⟨_, rfl, _, .inr rfl, ?_⟩
  rw [List.map_map]
  refine forGo_inv (fun i τ S' => S' = put S p (.lst (((List.range i).map fun i => lt (vec n (mulM n A B i))).map W.d)) ∧ ∃ v3 v4, τ = ⟨[some (.d (umD n A)), some (.d (umD n B)), some (.r p), v3, v4], (start3 5 [.d (umD n A), .d (umD n B)] E).ex⟩) ⟨rfl, _, _, rfl⟩ ?_ ?_
  · rintro i w τ S' hw ⟨rfl, v3, v4, rfl⟩
    obtain ⟨k, hk, rfl⟩ := get_map hw
    obtain ⟨hi, e⟩ := List.getElem?_eq_some_iff.mp hk
    rw [List.length_range] at hi
    rw [List.getElem_range] at e
    subst e
    refine ⟨_, rfl, isLst_r put_same, _, rfl, _, n, rfl, len_um, (n : Int), rfl, ⟨by omega, by omega⟩, rg4 n4, lcRg (fun j => .int (mulM n A B i j)) (fun j hj Z a => ⟨_, rfl, _, rfl, _, rfl, ⟨⟨n, A i, B, j, rfl, n4, hj, fun k hk => la i k hi hk, lb, a⟩⟩⟩) ?_⟩
    refine ⟨(vec n (mulM n A B i)).map PyData.int, by unfold vec; rw [List.map_map, List.map_map]; rfl, _, _, rfl, rfl, p, _, _, rfl, rfl, put_same, by rw [List.length_map, List.length_map, List.length_range, sizeLine_eq]; omega, ?_, _, _, rfl⟩
    rw [put_put, List.range_succ, List.map_append (l₂ := [i]), List.map_append (f := W.d)]; rfl
  · rintro τ S' ⟨rfl, v3, v4, rfl⟩
    rw [List.length_map, List.length_range]; refine ⟨_, rfl, _, (List.range n).map fun i => lt (vec n (mulM n A B i)), rfl, itemsW_r put_same, S, Sub.new hp, q⟩

/-! lists of ints that are made -/
def MkL (t : TE3) (τ : S3) (xs : List Int) : Prop := ∀ (S : Sto) (K : K3), (∀ p S', Sub S S' → S p = none → S' p = some (.lst (xs.map W.int)) → K (.r p) S') → t τ S K
theorem mk_one {τ : S3} {i : Int} : MkL (tLstM3 (tCons3 (tC3 (.int i)) tNil3)) τ [i] := fun S K q => ⟨(show 1 ≤ 1000 by decide), fun p hp => q p _ (Sub.new hp) hp put_same⟩
theorem rep_ints (k : Nat) (i : Int) : (List.replicate k ([i].map W.int)).flatten = (List.replicate k i).map W.int := by
  induction k with
  | zero => rfl
  | succ k ih => rw [List.replicate_succ, List.replicate_succ, List.flatten_cons, ih]; rfl
theorem mk_rep {τ : S3} {i : Int} {k : Nat} {t u : TE3} (hk : k ≤ 1000) (ht : MkL t τ [i]) (hu : ∀ S' (A : K3), A (.int (k : Nat)) S' → u τ S' A) : MkL (tOp3 gRepM t u) τ (List.replicate k i) := fun S K q => by
  refine ht S _ fun a S1 s1 n1 h1 => hu S1 _ ⟨a, (k : Nat), _, rfl, rfl, h1, by omega, by omega, ?_, fun p hp => q p _ (s1.trans (Sub.new hp)) ?_ ?_⟩
  · rw [sizeLine_eq]
    show 1 * _ ≤ _
    omega
  · cases e : S p with
    | none => rfl
    | some o => rw [s1 p o e] at hp; cases hp
  · rw [put_same, show ((k : Nat) : Int).toNat = k by omega, rep_ints]
theorem mk_cat {τ : S3} {xs ys : List Int} {t u : TE3} (hl : xs.length + ys.length ≤ 1000) (ht : MkL t τ xs) (hu : MkL u τ ys) : MkL (tOp3 gCatM t u) τ (xs ++ ys) := fun S K q => by
  refine ht S _ fun a S1 s1 n1 h1 => hu S1 _ fun b S2 s2 n2 h2 => ⟨a, b, _, _, rfl, rfl, s2 a _ h1, h2, ?_, fun p hp => q p _ ((s1.trans s2).trans (Sub.new hp)) ?_ ?_⟩
  · rw [List.length_map, List.length_map, sizeLine_eq]; omega
  · cases e : S p with
    | none => rfl
    | some o => rw [s2 p _ (s1 p o e)] at hp; cases hp
  · rw [put_same, List.map_append]
theorem one_row {n i : Nat} (h : i < n) : List.replicate i (0 : Int) ++ [1] ++ List.replicate (n - 1 - i) 0 = vec n (oneM i) := by
  refine List.ext_getElem? fun k => ?_; by_cases hk : k < n
  · unfold vec
    rw [List.getElem?_map, List.getElem?_range hk]
    show _ = some (if i = k then (1 : Int) else 0)
    rcases Nat.lt_trichotomy k i with z | z | z
    · rw [List.append_assoc, List.getElem?_append_left (by rw [List.length_replicate]; exact z), List.getElem?_replicate, if_pos z, if_neg (by omega)]
    · rw [List.append_assoc, List.getElem?_append_right (by rw [List.length_replicate]; omega), List.length_replicate, z, Nat.sub_self, if_pos rfl]; rfl
    · rw [List.getElem?_append_right (by rw [List.length_append, List.length_replicate]; show i + 1 ≤ k; omega), List.length_append, List.length_replicate, List.getElem?_replicate, if_pos (by show k - (i + 1) < _; omega), if_neg (by omega)]
  · rw [List.getElem?_eq_none (by rw [List.length_append, List.length_append, List.length_replicate, List.length_replicate]; show i + 1 + _ ≤ k; omega), List.getElem?_eq_none (by rw [vec_len]; omega)]
def sq_law_still : Sp3 := fun ws S Q _ => ∃ n : Nat, ws = [.int (n : Nat)] ∧ n ≤ 4 ∧ Q (.d (umD n oneM)) S
def sp_law_still : Sp3 := fun ws S Q E => Bx (sq_law_still ws S Q E)
theorem len_law_still : ∀ ws S Q E, sp_law_still ws S Q E → ws.length = 1 := fun ws S Q E ⟨⟨n, e, _⟩⟩ => by rw [e]; rfl
def rd_law_still : TS3 := (tRet3 (tCB3 gTuple (tCons3 (tLcD3 (tRgI1 (tCons3 (tVar3 0) tNil3)) (gName3 1) tYes3 (tCB3 gTuple (tCons3 (tOp3 gCatM (tOp3 gCatM (tOp3 gRepM (tLstM3 (tCons3 (tC3 (.int 0)) tNil3)) (tVar3 1)) (tLstM3 (tCons3 (tC3 (.int 1)) tNil3))) (tOp3 gRepM (tLstM3 (tCons3 (tC3 (.int 0)) tNil3)) (tOp3 gSub (tOp3 gSub (tVar3 0) (tC3 (.int 1))) (tVar3 1)))) tNil3)) [1]) tNil3)))
theorem sem_law_still : ∀ ws S Q E, sp_law_still ws S Q E → rd_law_still (DQ Q) (start3 2 ws E) S := fun ws S Q E ⟨⟨n, e, n4, q⟩⟩ => by
  subst e
  refine ⟨_, rfl, (n : Int), rfl, ⟨by omega, by omega⟩, rg4 n4, ?_⟩
  rw [rgW_nat]
  refine lcGo_run (fun i acc S' => Sub S S' ∧ acc = (List.range i).map fun k => W.d (lt (vec n (oneM k)))) ⟨Sub.refl _, rfl⟩ ?_ ?_
  · rintro i w acc S2 K hw ⟨s2, rfl⟩ hK
    obtain ⟨k, hk, rfl⟩ := get_map hw
    obtain ⟨hi, e⟩ := List.getElem?_eq_some_iff.mp hk
    rw [List.length_range] at hi
    rw [List.getElem_range] at e
    subst e
    refine ⟨fun _ => ?_, fun z => nomatch z⟩
    refine mk_cat (xs := List.replicate i 0 ++ [1]) (ys := List.replicate (n - 1 - i) 0) (by rw [List.length_append, List.length_replicate, List.length_replicate]; show i + 1 + _ ≤ _; omega) (mk_cat (xs := List.replicate i 0) (ys := [1]) (by rw [List.length_replicate]; show i + 1 ≤ _; omega) (mk_rep (k := i) (by omega) mk_one fun S' A a => ⟨_, rfl, a⟩) mk_one)
      (mk_rep (k := n - 1 - i) (by omega) mk_one fun S' A a => ⟨_, rfl, _, _, rfl, rfl, _, rfl, _, _, rfl, rfl, ?_⟩) S2 _ fun p S3 s3 _ h3 => ?_
    · refine ⟨_, (vec n (oneM i)).map PyData.int, rfl, itemsW_r (by rw [h3, one_row hi, List.map_map]; rfl), hK _ _ ⟨s2.trans s3, ?_⟩⟩
      rw [List.range_succ, List.map_append]; rfl
    · show A (.int (((n : Nat) : Int) - 1 - ((i : Nat) : Int))) _
      rw [show ((n : Nat) : Int) - 1 - ((i : Nat) : Int) = ((n - 1 - i : Nat) : Int) by omega]; exact a
  · rintro acc S2 ⟨s2, rfl⟩
    rw [List.length_map, List.length_range]; exact ⟨(List.range n).map fun i => lt (vec n (oneM i)), by rw [List.map_map]; rfl, _, _, rfl, rfl, S, s2, q⟩
theorem sub_wr {S S' : Sto} {p : Addr} {o : SO} (s : Sub S S') (h : S p = none) : Sub S (put S' p o) := fun c x e => by
  have : c ≠ p := fun z => by rw [z, h] at e; cases e
  rw [put_ne this]; exact s c x e
theorem sub_no {S S' : Sto} {p : Addr} (s : Sub S S') (h : S' p = none) : S p = none := by
  cases e : S p with
  | none => rfl
  | some o => rw [s p o e] at h; cases h
theorem bkR_succ (A : Mx) (r c : Nat) : bkR A r (c + 1) = bkR A r c ++ [backM A r c] := by rw [back_row, back_row, List.range_succ, List.map_append]; rfl
def sq_uni_back : Sp3 := fun ws S Q _ => ∃ (n : Nat) (A : Mx), ws = [.d (umD n A)] ∧ n ≤ 4 ∧ Low n A ∧ Low n (backM A) ∧ Q (.d (umD n (backM A))) S
def sp_uni_back : Sp3 := fun ws S Q E => Bx (sq_uni_back ws S Q E)
theorem len_uni_back : ∀ ws S Q E, sp_uni_back ws S Q E → ws.length = 1 := fun ws S Q E ⟨⟨n, A, e, _⟩⟩ => by rw [e]; rfl
def rb_uni_back_0 : TS3 := (tDrop3 (tBM3 gAppend (tVar3 3) (tCons3 (tOp3 gSub (tOp3 gIx (tVar3 2) (tVar3 4)) (tCB3 gSum (tCons3 (tLcD3 (tRgI1 (tCons3 (tVar3 4) tNil3)) (gName3 5) tYes3 (tOp3 gMulW (tOp3 gIx (tVar3 3) (tVar3 5)) (tOp3 gIx (tOp3 gIx (tVar3 0) (tVar3 5)) (tVar3 4))) [5]) tNil3))) tNil3)))
def rb_uni_back_1 : TS3 := (tSeq3 (tSet3 3 (tLstM3 tNil3)) (tSeq3 (tFor3 (tRgI1 (tCons3 (tCB3 gLen (tCons3 (tVar3 0) tNil3)) tNil3)) (gName3 4) rb_uni_back_0) (tDrop3 (tBM3 gAppend (tVar3 1) (tCons3 (tCB3 gTuple (tCons3 (tVar3 3) tNil3)) tNil3)))))
def rd_uni_back : TS3 := (tSeq3 (tSet3 1 (tLstM3 tNil3)) (tSeq3 (tFor3 (tSeqI3 (tCall3 sp_still_uni (tCons3 (tCB3 gLen (tCons3 (tVar3 0) tNil3)) tNil3))) (gName3 2) rb_uni_back_1) (tRet3 (tCB3 gTuple (tCons3 (tVar3 1) tNil3)))))
theorem sem_uni_back : ∀ ws S Q E, sp_uni_back ws S Q E → rd_uni_back (DQ Q) (start3 6 ws E) S := fun ws S Q E ⟨⟨n, A, e, n4, la, lb, q⟩⟩ => by
  subst e
  refine ⟨by decide, fun p hp => ?_⟩
  have hp : S p = none := hp
  refine ⟨_, rfl, _, n, rfl, len_um, ⟨⟨n, rfl, n4, _, .inr rfl, ?_⟩⟩⟩
  rw [List.map_map]
  refine forGo_inv (fun i τ S' => (∃ v2 v3 v4 v5, τ = ⟨[some (.d (umD n A)), some (.r p), v2, v3, v4, v5], (start3 6 [.d (umD n A)] E).ex⟩) ∧ Sub S S' ∧ S' p = some (.lst (((List.range i).map fun r => lt (vec n (backM A r))).map W.d))) ⟨⟨_, _, _, _, rfl⟩, Sub.new hp, put_same⟩ ?_ ?_
  · rintro r w τ S1 hw ⟨⟨v2, v3, v4, v5, rfl⟩, s1, h1⟩
    obtain ⟨k, hk, rfl⟩ := get_map hw
    obtain ⟨hr, e⟩ := List.getElem?_eq_some_iff.mp hk
    rw [List.length_range] at hr
    rw [List.getElem_range] at e
    subst e
    refine ⟨by decide, fun l hl => ?_⟩
    have hl : S1 l = none := hl
    have pl : p ≠ l := fun z => by rw [← z, h1] at hl; cases hl
    refine ⟨_, rfl, _, n, rfl, len_um, (n : Int), rfl, ⟨by omega, by omega⟩, ?_⟩
    rw [rgW_nat]
    refine forGo_inv (fun c τ S' => (∃ v4 v5, τ = ⟨[some (.d (umD n A)), some (.r p), some (.d (lt (vec n (oneM r)))), some (.r l), v4, v5], (start3 6 [.d (umD n A)] E).ex⟩) ∧ S' = put S1 l (.lst ((bkR A r c).map W.int))) ⟨⟨_, _, rfl⟩, rfl⟩ ?_ ?_
    · rintro c w τ S2 hw ⟨⟨v4, v5, rfl⟩, rfl⟩
      obtain ⟨k, hk, rfl⟩ := get_map hw
      obtain ⟨hc, e⟩ := List.getElem?_eq_some_iff.mp hk
      rw [List.length_range] at hc
      rw [List.getElem_range] at e
      subst e
      refine ⟨_, rfl, isLst_r put_same, _, rfl, _, rfl, _, _, rfl, ix_vec hc _, _, rfl, (c : Int), rfl, ⟨by omega, by omega⟩, rg4 (by omega), lcRg (fun k => .int (backM A r k * A k c)) (fun k hk Z a => ?_) ?_⟩
      · have at_ : ((bkR A r c).map W.int)[k]? = some (.int (backM A r k)) := by
          rw [back_row, List.getElem?_map, List.getElem?_map, List.getElem?_range hk]; rfl
        exact ⟨_, rfl, _, rfl, _, _, rfl, ix_sto put_same at_, _, rfl, _, rfl, _, _, rfl, ix_um (by omega) A, _, rfl, _, _, rfl, ix_vec hc _, _, _, rfl, rfl, wmul (lb r k hr (by omega)) (la k c (by omega) hc), a⟩
      · refine ⟨((List.range c).map fun k => backM A r k * A k c).map PyData.int, by rw [List.map_map, List.map_map]; rfl, _, (List.range c).map fun k => backM A r k * A k c, rfl, rfl, _, _, rfl, rfl, l, _, _, rfl, rfl, put_same, by rw [List.length_map, bkR_len, sizeLine_eq]; omega, ⟨_, _, rfl⟩, ?_⟩
        show put (put S1 l _) l (.lst ((bkR A r c).map W.int ++ [W.int (oneM r c - ((List.range c).map fun k => backM A r k * A k c).sum)])) = _
        rw [put_put, sm_list, ← back_eq, bkR_succ, List.map_append]; rfl
    · rintro τ S2 ⟨⟨v4, v5, rfl⟩, rfl⟩
      rw [List.length_map, List.length_range]; refine ⟨_, rfl, isLst_r ((put_ne pl).trans h1), _, rfl, _, (vec n (backM A r)).map PyData.int, rfl, itemsW_r (by rw [put_same, back_row]; unfold vec; rw [List.map_map (f := PyData.int)]; rfl), p, _, _, rfl, rfl, (put_ne pl).trans h1, by rw [List.length_map, List.length_map, List.length_range, sizeLine_eq]; omega, ⟨_, _, _, _, rfl⟩, sub_wr (sub_wr s1 (sub_no s1 hl)) hp, ?_⟩
      rw [put_same, List.range_succ, List.map_append (l₂ := [r]), List.map_append (f := W.d)]; rfl
  · rintro τ S1 ⟨⟨v2, v3, v4, v5, rfl⟩, s1, h1⟩
    rw [List.length_map, List.length_range] at h1
    exact ⟨_, rfl, _, (List.range n).map fun i => lt (vec n (backM A i)), rfl, itemsW_r h1, S, s1, q⟩

/-! sizes -/
theorem pow_ok (k : Int) (h : 0 ≤ k ∧ k ≤ 1000000) : CPow 10 k := ⟨h.1, h.2, by decide⟩
def sq_law_size_of : Sp3 := fun ws S Q _ => ∃ dl d1 : Addr, ws = [.r dl] ∧ Deal S dl d1 ∧ ∀ (n : Int) S', n.natAbs ≤ 10 ^ 12 → Upto [dl, d1] S S' → Deal S' dl d1 → Q (.int n) S'
def sp_law_size_of : Sp3 := fun ws S Q E => Bx (sq_law_size_of ws S Q E)
theorem len_law_size_of : ∀ ws S Q E, sp_law_size_of ws S Q E → ws.length = 1 := fun ws S Q E ⟨⟨dl, d1, e, _⟩⟩ => by rw [e]; rfl
def rd_law_size_of : TS3 := (tSeq3 (tSet3 1 (tCall3 sp_law_of (tCons3 (tVar3 0) (tCons3 (tLstD3 (tCons3 (tOp3 gPow (tC3 (.int 10)) (tC3 (.int 6))) (tCons3 (tOp3 gPow (tC3 (.int 10)) (tC3 (.int 12))) tNil3))) tNil3)))) (tSeq3 (tSet3 2 (tCall3 sp_law_of (tCons3 (tVar3 0) (tCons3 (tLstD3 (tCons3 (tC3 (.int 0)) (tCons3 (tC3 (.int 0)) (tCons3 (tC3 (.int 1)) (tCons3 (tC3 (.int 1)) (tCons3 (tC3 (.int 2)) (tCons3 (tC3 (.int 3)) (tCons3 (tCall3 sp_law_any (tCons3 (tVar3 0) (tCons3 (tC3 (.int 10)) tNil3))) (tCons3 (tCall3 sp_law_any (tCons3 (tVar3 0) (tCons3 (tVar3 1) tNil3))) tNil3))))))))) tNil3)))) (tRet3 (tIfE3 (tB3 (tOp3 gEq (tCall3 sp_law_any (tCons3 (tVar3 0) (tCons3 (tC3 (.int 2)) tNil3))) (tC3 (.int 0)))) (tOp3 gSub (tC3 (.int 0)) (tVar3 2)) (tVar3 2)))))
theorem sem_law_size_of : ∀ ws S Q E, sp_law_size_of ws S Q E → rd_law_size_of (DQ Q) (start3 3 ws E) S := fun ws S Q E ⟨⟨dl, d1, e, hD, hQ⟩⟩ => by
  subst e
  refine ⟨_, rfl, _, _, rfl, rfl, pow_ok 6 (by decide), _, _, rfl, rfl, pow_ok 12 (by decide), [.int (10 ^ 6), .int (10 ^ 12)], rfl, (show 2 ≤ 1000 by decide), ?_⟩
  refine law_of_list hD (fun z => nomatch z) (show 2 < 2 ^ 60 by decide) fun g hg S1 u1 hD1 => ?_
  obtain ⟨b, rfl, b0, b1⟩ : ∃ b : Int, g = .int b ∧ 0 < b ∧ b ≤ 10 ^ 12 := by
    simp only [List.mem_cons, List.not_mem_nil, or_false] at hg
    rcases hg with rfl | rfl
    · exact ⟨_, rfl, by decide, by decide⟩
    · exact ⟨_, rfl, by decide, by decide⟩
  refine ⟨_, rfl, _, rfl, law_any_nat (b := 10) hD1 (by decide) (by decide) fun r S2 hr u2 hD2 => ?_⟩
  refine ⟨_, rfl, _, rfl, law_any_lt hD2 b0 (Int.lt_of_le_of_lt b1 (by decide)) fun r2 S3 h0 h1 u3 hD3 => ?_⟩
  refine ⟨[.int 0, .int 0, .int 1, .int 1, .int 2, .int 3, .int (r : Nat), .int r2], rfl, (show 8 ≤ 1000 by decide), law_of_list hD3 (fun z => nomatch z) (show 8 < 2 ^ 60 by decide) fun d hd S4 u4 hD4 => ?_⟩
  have e12 : (10 : Nat) ^ 12 = 1000000000000 := by decide
  have e12' : (10 : Int) ^ 12 = 1000000000000 := by decide
  obtain ⟨n, rfl, hn⟩ : ∃ n : Int, d = .int n ∧ n.natAbs ≤ 10 ^ 12 := by
    simp only [List.mem_cons, List.not_mem_nil, or_false] at hd
    rcases hd with rfl | rfl | rfl | rfl | rfl | rfl | rfl | rfl <;> exact ⟨_, rfl, by omega⟩
  have u04 := ((u1.trans u2).trans u3).trans u4
  refine ⟨_, rfl, law_any_nat (b := 2) hD4 (by decide) (by decide) fun r3 S5 hr3 u5 hD5 => .inr ⟨_, _, rfl, rfl, rfl, rfl, _, rfl, fun c => ⟨_, rfl, _, _, rfl, rfl, S5, Sub.refl _, hQ _ S5 ?_ (u04.trans u5) hD5⟩, fun c => ⟨_, rfl, S5, Sub.refl _, hQ n S5 hn (u04.trans u5) hD5⟩⟩⟩
  rw [Int.zero_sub, Int.natAbs_neg]; exact hn

/-! unis drawn -/
structure RowOk (n r : Nat) (L : List Int) : Prop where
  len : L.length = n
  lo : ∀ k, k < r → L.getD k 0 = 0
  dg : L.getD r 0 = 1
  few : ∀ k, (L.getD k 0).natAbs ≤ 10 ^ 12
def mxOf (R : List (List Int)) : Mx := fun i j => (R.getD i []).getD j 0
theorem vec_of {n : Nat} {L : List Int} (h : L.length = n) : vec n (fun k => L.getD k 0) = L := by
  refine List.ext_getElem? fun k => ?_; unfold vec
  by_cases hk : k < n
  · rw [List.getElem?_map, List.getElem?_range hk, List.getElem?_eq_getElem (by omega)]
    show some (L.getD k 0) = _
    rw [List.getD_eq_getElem?_getD, List.getElem?_eq_getElem (by omega)]; rfl
  · rw [List.getElem?_eq_none (by rw [List.length_map, List.length_range]; omega), List.getElem?_eq_none (by omega)]
theorem um_of {n : Nat} {R : List (List Int)} (hR : R.length = n) (h : ∀ i, i < n → (R.getD i []).length = n) : umD n (mxOf R) = .tuple (R.map lt) := by
  unfold umD
  refine congrArg PyData.tuple (List.ext_getElem? fun i => ?_)
  by_cases hi : i < n
  · rw [List.getElem?_map, List.getElem?_range hi, List.getElem?_map, List.getElem?_eq_getElem (by omega)]
    show some (lt (vec n (fun k => (R.getD i []).getD k 0))) = _
    rw [vec_of (h i hi), List.getD_eq_getElem?_getD, List.getElem?_eq_getElem (by omega)]; rfl
  · rw [List.getElem?_eq_none (by rw [List.length_map, List.length_range]; omega), List.getElem?_eq_none (by rw [List.length_map]; omega)]
theorem rows_uni {n : Nat} {R : List (List Int)} (hn : n ≤ 4) (h : ∀ i, i < n → RowOk n i (R.getD i [])) : Uni n (mxOf R) ∧ Wt n (10 ^ 12) (mxOf R) := by
  refine ⟨⟨fun i hi => (h i hi).dg, fun i j hi hj => (h i hi).lo j hj⟩, fun i j hij hj => ?_⟩
  by_cases e : i = j
  · subst e
    show ((R.getD i []).getD i 0).natAbs ≤ _
    rw [(h i hj).dg, Nat.sub_self]; exact Nat.le_refl _
  · refine Nat.le_trans ((h i (by omega)).few j) ?_
    exact Nat.le_trans (Nat.le_of_eq (Nat.pow_one _).symm) (Nat.pow_le_pow_right (by decide) (by omega))
theorem row_start {n r : Nat} (hr : r < n) {xs : List Int} (hx : xs.length = n - (r + 1)) (few : ∀ x ∈ xs, x.natAbs ≤ 10 ^ 12) : RowOk n r (List.replicate r 0 ++ [1] ++ xs) := by
  have get : ∀ k, (List.replicate r (0 : Int) ++ [1] ++ xs).getD k 0 = if k < r then 0 else if k = r then 1 else xs.getD (k - (r + 1)) 0 := fun k => by
    rw [List.getD_eq_getElem?_getD]; by_cases a : k < r
    · rw [if_pos a, List.append_assoc, List.getElem?_append_left (by rw [List.length_replicate]; exact a), List.getElem?_replicate, if_pos a]; rfl
    · rw [if_neg a]
      by_cases b : k = r
      · rw [if_pos b, List.append_assoc, List.getElem?_append_right (by rw [List.length_replicate]; omega), List.length_replicate, b, Nat.sub_self]; rfl
      · rw [if_neg b, List.getElem?_append_right (by rw [List.length_append, List.length_replicate]; show r + 1 ≤ k; omega), List.length_append, List.length_replicate, ← List.getD_eq_getElem?_getD]; rfl
  refine ⟨by rw [List.length_append, List.length_append, List.length_replicate, hx]; show r + 1 + _ = _; omega, fun k hk => by rw [get, if_pos hk], by rw [get, if_neg (by omega), if_pos rfl], fun k => ?_⟩
  rw [get]
  split
  · exact Nat.zero_le _
  · split
    · exact (show Int.natAbs 1 ≤ _ by decide)
    · rw [List.getD_eq_getElem?_getD]; cases e : xs[k - (r + 1)]? with
      | none => exact Nat.zero_le _
      | some x => exact few x (List.mem_of_getElem? e)
def sq_law_uni : Sp3 := fun ws S Q _ => ∃ (dl d1 : Addr) (n : Nat), ws = [.r dl, .int (n : Nat)] ∧ n ≤ 4 ∧ Deal S dl d1 ∧ ∀ (A : Mx) S', Uni n A → Wt n (10 ^ 12) A → Upto [dl, d1] S S' → Deal S' dl d1 → Q (.d (umD n A)) S'
def sp_law_uni : Sp3 := fun ws S Q E => Bx (sq_law_uni ws S Q E)
theorem len_law_uni : ∀ ws S Q E, sp_law_uni ws S Q E → ws.length = 2 := fun ws S Q E ⟨⟨dl, d1, n, e, _⟩⟩ => by rw [e]; rfl
def rb_law_uni_0 : TS3 := (tDrop3 (tBM3 gAppend (tVar3 4) (tCons3 (tCall3 sp_law_size_of (tCons3 (tVar3 0) tNil3)) tNil3)))
def rb_law_uni_1 : TS3 := (tSeq3 (tSet3 4 (tOp3 gCatM (tOp3 gRepM (tLstM3 (tCons3 (tC3 (.int 0)) tNil3)) (tVar3 3)) (tLstM3 (tCons3 (tC3 (.int 1)) tNil3)))) (tSeq3 (tFor3 (tRgI2 (tCons3 (tOp3 gAdd (tVar3 3) (tC3 (.int 1))) (tCons3 (tVar3 1) tNil3))) (gName3 5) rb_law_uni_0) (tDrop3 (tBM3 gAppend (tVar3 2) (tCons3 (tCB3 gTuple (tCons3 (tVar3 4) tNil3)) tNil3)))))
def rd_law_uni : TS3 := (tSeq3 (tSet3 2 (tLstM3 tNil3)) (tSeq3 (tFor3 (tRgI1 (tCons3 (tVar3 1) tNil3)) (gName3 3) rb_law_uni_1) (tRet3 (tCB3 gTuple (tCons3 (tVar3 2) tNil3)))))
theorem sem_law_uni : ∀ ws S Q E, sp_law_uni ws S Q E → rd_law_uni (DQ Q) (start3 6 ws E) S := fun ws S Q E ⟨⟨dl, d1, n, e, n4, hD, hQ⟩⟩ => by
  subst e
  refine ⟨by decide, fun p hp => ?_⟩
  have hp : S p = none := hp
  obtain ⟨p1, p2⟩ := hD.free hp
  refine ⟨_, rfl, (n : Int), rfl, ⟨by omega, by omega⟩, ?_⟩
  rw [rgW_nat]
  refine forGo_inv (fun i τ S' => (∃ v3 v4 v5, τ = ⟨[some (.r dl), some (.int (n : Nat)), some (.r p), v3, v4, v5], (start3 6 [.r dl, .int (n : Nat)] E).ex⟩) ∧ Deal S' dl d1 ∧ Kp [dl, d1] S S' ∧ ∃ R : List (List Int), R.length = i ∧ (∀ k, k < i → RowOk n k (R.getD k [])) ∧ S' p = some (.lst ((R.map lt).map W.d))) ⟨⟨_, _, _, rfl⟩, hD.other p1 p2, Upto.refl.kp.wr hp, [], rfl, (fun k h => by omega), put_same⟩ ?_ ?_
  · rintro r w τ S1 hw ⟨⟨v3, v4, v5, rfl⟩, hD1, k1, R, lR, okR, h1⟩
    obtain ⟨k, hk, rfl⟩ := get_map hw
    obtain ⟨hr, e⟩ := List.getElem?_eq_some_iff.mp hk
    rw [List.length_range] at hr
    rw [List.getElem_range] at e
    subst e
    refine mk_cat (xs := List.replicate r 0) (ys := [1]) (by rw [List.length_replicate]; show r + 1 ≤ _; omega) (mk_rep (k := r) (by omega) mk_one fun S' A a => ⟨_, rfl, a⟩) mk_one S1 _ fun l S2 s2 nl h2 => ?_
    have pl : p ≠ l := fun z => by rw [← z, h1] at nl; cases nl
    obtain ⟨l1, l2⟩ := hD1.free nl
    have hD2 : Deal S2 dl d1 := by
      obtain ⟨ne, ⟨m, t⟩, ⟨ns, hl, lo⟩⟩ := hD1
      exact ⟨ne, ⟨m, s2 _ _ t⟩, ⟨ns, hl, s2 _ _ lo⟩⟩
    have k2 : Kp [dl, d1] S S2 := fun c o hc e => s2 c o (k1 c o hc e)
    have l0 : S l = none := k1.none nl (by simp [l1, l2])
    refine ⟨_, rfl, _, _, rfl, rfl, _, rfl, ((r : Nat) : Int) + 1, (n : Int), rfl, ⟨by omega, by omega⟩, ?_⟩
    rw [show ((n : Nat) : Int) - (((r : Nat) : Int) + 1) = ((n - (r + 1) : Nat) : Int) by omega, show (((n - (r + 1) : Nat) : Int)).toNat = n - (r + 1) by omega]
    refine forGo_inv (fun c τ S' => (∃ v5, τ = ⟨[some (.r dl), some (.int (n : Nat)), some (.r p), some (.int (r : Nat)), some (.r l), v5], (start3 6 [.r dl, .int (n : Nat)] E).ex⟩) ∧ Deal S' dl d1 ∧ Kp [dl, d1] S S' ∧ S' p = some (.lst ((R.map lt).map W.d)) ∧ ∃ xs : List Int, xs.length = c ∧ (∀ x ∈ xs, x.natAbs ≤ 10 ^ 12) ∧ S' l = some (.lst ((List.replicate r 0 ++ [1] ++ xs).map W.int))) ⟨⟨_, rfl⟩, hD2, k2, s2 _ _ h1, [], rfl, (fun x hx => by cases hx), by rw [List.append_nil]; exact h2⟩ ?_ ?_
    · rintro c w τ S3 hw ⟨⟨v5, rfl⟩, hD3, k3, h3, xs, lx, fx, hl⟩
      have hc := (rgW_at hw).1
      refine ⟨_, rfl, isLst_r hl, _, rfl, ⟨⟨dl, d1, rfl, hD3, fun y S4 hy u4 hD4 => ?_⟩⟩⟩
      have hl4 := (u4 l (by simp [l1, l2])).trans hl
      have hp4 := (u4 p (by simp [p1, p2])).trans h3
      refine ⟨l, _, _, rfl, rfl, hl4, by rw [List.length_map, List.length_append, List.length_append, List.length_replicate, lx, sizeLine_eq]; show r + 1 + c < _; omega, ⟨_, rfl⟩, hD4.other l1 l2, (k3.trans u4.kp).wr l0, (put_ne pl).trans hp4, xs ++ [y], by rw [List.length_append, lx]; rfl, fun x hx => ?_, ?_⟩
      · rcases List.mem_append.mp hx with z | z
        · exact fx x z
        · rw [List.mem_singleton.mp z]; exact hy
      · rw [put_same, ← List.append_assoc, List.map_append (l₂ := [y])]; rfl
    · rintro τ S3 ⟨⟨v5, rfl⟩, hD3, k3, h3, xs, lx, fx, hl⟩
      rw [rgW_len] at lx
      have row := row_start hr lx fx
      refine ⟨_, rfl, isLst_r h3, _, rfl, _, (List.replicate r 0 ++ [1] ++ xs).map PyData.int, rfl, itemsW_r (by rw [hl, List.map_map]; rfl), p, _, _, rfl, rfl, h3, by rw [List.length_map, List.length_map, lR, sizeLine_eq]; omega, ⟨_, _, _, rfl⟩, hD3.other p1 p2, k3.wr hp, R ++ [List.replicate r 0 ++ [1] ++ xs], by rw [List.length_append, lR]; rfl, fun k hk => ?_, ?_⟩
      · rw [List.getD_eq_getElem?_getD]; by_cases z : k < r
        · rw [List.getElem?_append_left (by omega), ← List.getD_eq_getElem?_getD]; exact okR k z
        · rw [List.getElem?_append_right (by omega), show k - R.length = 0 by omega, show k = r by omega]; exact row
      · rw [put_same, List.map_append (f := lt), List.map_append (f := W.d)]; rfl
  · rintro τ S1 ⟨⟨v3, v4, v5, rfl⟩, hD1, k1, R, lR, okR, h1⟩
    rw [List.length_map, List.length_range] at lR okR
    obtain ⟨un, wt⟩ := rows_uni n4 okR
    have q := hQ (mxOf R) _ un wt (two_upto (S' := S1)) (two_deal hD1)
    rw [um_of lR fun i hi => (okR i hi).len] at q
    exact ⟨_, rfl, _, R.map lt, rfl, itemsW_r h1, two dl d1 S S1, two_sub k1, q⟩
def sq_law_counts_row : Sp3 := fun ws S Q _ => ∃ (dl d1 : Addr) (n : Nat), ws = [.r dl, .int (n : Nat)] ∧ n ≤ 4 ∧ Deal S dl d1 ∧ ∀ (v : Nat → Int) S', (∀ k, k < n → (v k).natAbs ≤ 10 ^ 12) → Upto [dl, d1] S S' → Deal S' dl d1 → Q (.d (lt (vec n v))) S'
def sp_law_counts_row : Sp3 := fun ws S Q E => Bx (sq_law_counts_row ws S Q E)
theorem len_law_counts_row : ∀ ws S Q E, sp_law_counts_row ws S Q E → ws.length = 2 := fun ws S Q E ⟨⟨dl, d1, n, e, _⟩⟩ => by rw [e]; rfl
def rd_law_counts_row : TS3 := (tRet3 (tCB3 gTuple (tCons3 (tLcD3 (tRgI1 (tCons3 (tVar3 1) tNil3)) (gName3 2) tYes3 (tCall3 sp_law_size_of (tCons3 (tVar3 0) tNil3)) [2]) tNil3)))
theorem sem_law_counts_row : ∀ ws S Q E, sp_law_counts_row ws S Q E → rd_law_counts_row (DQ Q) (start3 3 ws E) S := fun ws S Q E ⟨⟨dl, d1, n, e, n4, hD, hQ⟩⟩ => by
  subst e
  refine ⟨_, rfl, (n : Int), rfl, ⟨by omega, by omega⟩, rg4 n4, ?_⟩
  refine drawnL PyData.int (fun x : Int => x.natAbs ≤ 10 ^ 12) hD (fun w S2 K hw u2 hD2 q => ⟨_, rfl, ⟨⟨dl, d1, rfl, hD2, fun y S3 hy u3 hD3 => q y S3 hy u3 hD3⟩⟩⟩) fun as S3 la fa u3 hD3 => ?_
  rw [rgW_len, show ((n : Nat) : Int).toNat = n by omega] at la
  have q := hQ (fun k => as.getD k 0) S3 (fun k hk => by
    rw [List.getD_eq_getElem?_getD, List.getElem?_eq_getElem (by omega)]
    exact fa _ (List.getElem_mem _)) u3 hD3
  rw [vec_of la] at q
  exact ⟨as.map PyData.int, by rw [List.map_map]; rfl, _, _, rfl, rfl, S3, Sub.refl _, q⟩

/-! counting machines, and what logs count -/
def P12 : Nat := 10 ^ 12
def dsD (n : Nat) (D : List (Str × Mx)) : List PyData := D.map fun d => .tuple [.str d.1, umD n d.2]
def kvU (n : Nat) (D : List (Str × Mx)) : List (Key × PyData) := D.map fun d => (.inr d.1, umD n d.2)
def kvW (n : Nat) (D : List (Str × Mx)) : List (Key × W) := D.map fun d => (.inr d.1, W.d (umD n d.2))
def CoAt (tb : Nat → Addr) (S : Sto) (m : Addr) (n : Int) (ds : PyData) : Prop := S m = some (.ins (tb 0) [("size", .int n), ("deeds", .d ds)])
theorem putW_ne {f g : Str} {a b : W} {r : List (Str × W)} (h : g ≠ f) : putW f a ((g, b) :: r) = (g, b) :: putW f a r := if_neg h
def sq_Counting_init (tb : Nat → Addr) : Sp3 := fun ws S Q _ => ∃ (a : Addr) (n : Int) (d : PyData), ws = [.r a, .int n, .d d] ∧ S a = some (.ins (tb 0) []) ∧ Q .non (put S a (.ins (tb 0) [("size", .int n), ("deeds", .d d)]))
def sp_Counting_init (tb : Nat → Addr) : Sp3 := fun ws S Q E => Bx (sq_Counting_init tb ws S Q E)
theorem len_Counting_init (tb : Nat → Addr) : ∀ ws S Q E, sp_Counting_init tb ws S Q E → ws.length = 3 := fun ws S Q E ⟨⟨a, n, d, e, _⟩⟩ => by rw [e]; rfl
def rd_Counting_init (tb : Nat → Addr) : TS3 := (tSeq3 (sFld3 (tb 0) "size" (tVar3 0) (tVar3 1)) (sFld3 (tb 0) "deeds" (tVar3 0) (tVar3 2)))
theorem sem_Counting_init (tb : Nat → Addr) : ∀ ws S Q E, sp_Counting_init tb ws S Q E → rd_Counting_init tb (DQ Q) (start3 3 ws E) S := fun ws S Q E ⟨⟨a, n, d, e, ha, q⟩⟩ => by
  subst e
  refine ⟨_, rfl, _, rfl, a, [], rfl, ha, (show 0 < 1000 by decide), ?_⟩
  refine ⟨_, rfl, _, rfl, a, [("size", .int n)], rfl, put_same, (show 1 < 1000 by decide), ?_⟩
  rw [putW_ne (by decide), put_put]
  exact ⟨_, Sub.refl _, q⟩
def sq_Counting_eq (tb : Nat → Addr) : Sp3 := fun ws S Q _ => (∃ (a : Addr) (ds : List PyData), ws = [.r a, .d (.tuple ds)] ∧ (PyData.tuple ds).canLay0 = true ∧ Q (.bl false) S) ∨
  ∃ (a b : Addr) (n m : Int) (d e : PyData), ws = [.r a, .r b] ∧ CoAt tb S a n d ∧ CoAt tb S b m e ∧ SeqAt.shaped d = true ∧ SeqAt.shaped e = true ∧ Q (.bl (decide (n = m) && PyData.eqv d e)) S
def sp_Counting_eq (tb : Nat → Addr) : Sp3 := fun ws S Q E => Bx (sq_Counting_eq tb ws S Q E)
theorem len_Counting_eq (tb : Nat → Addr) : ∀ ws S Q E, sp_Counting_eq tb ws S Q E → ws.length = 2 := fun ws S Q E ⟨h⟩ => by
  rcases h with ⟨a, ds, e, _⟩ | ⟨a, b, n, m, d, e, e1, _⟩
  · rw [e]; rfl
  · rw [e1]; rfl
def rd_Counting_eq (tb : Nat → Addr) : TS3 := (tRet3 (tAndV3 (tCB3 (gIsO [(tb 0, true)] (tb 0)) (tCons3 (tVar3 1) (tCons3 (tC3 (.r (tb 0))) tNil3))) (tAndV3 (tOp3 gEq (tFld3 (tb 0) "size" (tVar3 0)) (tFld3 (tb 0) "size" (tVar3 1))) (tOp3 gEq (tFld3 (tb 0) "deeds" (tVar3 0)) (tFld3 (tb 0) "deeds" (tVar3 1))))))
theorem sem_Counting_eq (tb : Nat → Addr) : ∀ ws S Q E, sp_Counting_eq tb ws S Q E → rd_Counting_eq tb (DQ Q) (start3 2 ws E) S := fun ws S Q E ⟨h⟩ => by
  rcases h with ⟨a, ds, e, lay, q⟩ | ⟨a, b, n, m, d, e, e1, ha, hb, s1, s2, q⟩
  · subst e
    exact ⟨_, rfl, _, rfl, .inl ⟨.tuple ds, rfl, lay, _, rfl, fun z => (nomatch z), fun _ => ⟨S, Sub.refl _, q⟩⟩⟩
  · subst e1
    refine ⟨_, rfl, _, rfl, .inr ⟨b, _, _, true, rfl, hb, look1, _, rfl, fun _ => ?_, fun z => (nomatch z)⟩⟩
    refine ⟨_, rfl, a, _, _, rfl, ha, rfl, _, rfl, b, _, _, rfl, hb, rfl, .inr ⟨_, _, rfl, rfl, rfl, rfl, _, rfl, fun c => ?_, fun c => ⟨S, Sub.refl _, ?_⟩⟩⟩
    · rw [eqv_int] at c
      rw [c, Bool.true_and] at q
      exact ⟨_, rfl, a, _, _, rfl, ha, rfl, _, rfl, b, _, _, rfl, hb, rfl, .inr ⟨_, _, rfl, rfl, s1, s2, S, Sub.refl _, q⟩⟩
    · rw [eqv_int] at c
      rw [c, Bool.false_and] at q
      exact q
/-- what the hands of a lot count -/
abbrev En := Int × Str
def enD (e : En) : PyData := .tuple [.int e.1, .str e.2]
def plM (n : Nat) (D : List (Str × Mx)) (T : List Int) (L : List En) : Mx := L.foldl (fun A e => if e.1 ∈ T then mulM n A ((D.lookup e.2).getD oneM) else A) oneM
theorem plM_snoc (n : Nat) (D : List (Str × Mx)) (T : List Int) (L : List En) (e : En) : plM n D T (L ++ [e]) = if e.1 ∈ T then mulM n (plM n D T L) ((D.lookup e.2).getD oneM) else plM n D T L := by unfold plM; rw [List.foldl_append]; rfl
structure DOk (n : Nat) (D : List (Str × Mx)) : Prop where
  nd : (D.map (·.1)).Nodup
  un : ∀ d ∈ D, Uni n d.2 ∧ Wt n P12 d.2
theorem look_in {D : List (Str × Mx)} {x : Str} {A : Mx} (h : D.lookup x = some A) : (x, A) ∈ D := by
  induction D with
  | nil => cases h
  | cons d D ih =>
    obtain ⟨y, B⟩ := d
    rw [List.lookup_cons] at h
    by_cases e : x = y
    · subst e
      rw [beq_self_eq_true] at h
      cases h
      exact List.mem_cons_self
    · rw [beq_eq_false_iff_ne.mpr e] at h
      exact .tail _ (ih h)
theorem kvW_val {n : Nat} {D : List (Str × Mx)} {x : Str} {A : Mx} (h : D.lookup x = some A) : valW (kvW n D) (.inr x) = some (.d (umD n A)) := by
  induction D with
  | nil => cases h
  | cons d D ih =>
    obtain ⟨y, B⟩ := d
    rw [List.lookup_cons] at h
    by_cases e : x = y
    · subst e
      rw [beq_self_eq_true] at h
      cases h
      simp [valW, kvW]
    · rw [beq_eq_false_iff_ne.mpr e] at h
      have := ih h
      unfold valW at this ⊢
      unfold kvW at this ⊢
      rw [List.map_cons, List.find?_cons_of_neg (by simpa using fun z => e z.symm)]
      exact this
theorem plM_ok {n : Nat} {D : List (Str × Mx)} (ok : DOk n D) (T : List Int) : ∀ (k : Nat) (L : List En), L.length = k → (∀ e ∈ L, ∃ A, D.lookup e.2 = some A) → Uni n (plM n D T L) ∧ Wt n (k * P12) (plM n D T L)
  | 0, L, hl, _ => by
    rw [List.eq_nil_of_length_eq_zero hl]; exact ⟨one_uni n, one_wt n _⟩
  | k + 1, L, hl, hL => by
    obtain ⟨M, e, rfl⟩ : ∃ M e, L = M ++ [e] := ⟨L.dropLast, L.getLast (by intro z; rw [z] at hl; cases hl), (List.dropLast_concat_getLast _).symm⟩
    rw [List.length_append] at hl
    have hl : M.length + 1 = k + 1 := hl
    obtain ⟨u, w⟩ := plM_ok ok T k M (by omega) fun x hx => hL x (List.mem_append_left _ hx)
    obtain ⟨A, hA⟩ := hL e (by simp)
    obtain ⟨uA, wA⟩ := ok.un _ (look_in hA)
    rw [plM_snoc, hA]
    split
    · refine ⟨mul_uni u uA, ?_⟩
      rw [Nat.succ_mul]
      exact mul_wt u uA w wA
    · exact ⟨u, wt_mono w (Nat.mul_le_mul_right _ (by omega))⟩
theorem low_of {n Q : Nat} {A : Mx} (n4 : n ≤ 4) (u : Uni n A) (w : Wt n Q A) (q : Q ≤ 10 ^ 14) : Low n A := fun i j hi hj => by
  by_cases c : j < i
  · rw [u.lo i j hi c]; decide
  · refine Nat.lt_of_le_of_lt (w i j (by omega) hj) (Nat.lt_of_le_of_lt (Nat.pow_le_pow_left q _) (Nat.lt_of_le_of_lt (Nat.pow_le_pow_right (show 0 < 10 ^ 14 by decide) (show j - i ≤ 3 by omega)) (by decide)))
theorem dc_pairs {n : Nat} {p : Addr} {τ0 : S3} {Q : Sto → Prop} {w0 w1 w2 w3 w4 w5 v6 v7 : Option W} (hτ : τ0 = ⟨[w0, w1, w2, w3, w4, w5, v6, v7], XN⟩) : ∀ (D pre : List (Str × Mx)) (S : Sto), ((pre ++ D).map (·.1)).Nodup → (pre ++ D).length ≤ 1000 → Q (put S p (.dk (kvW n (pre ++ D)))) →
    dcGo (gTup3 2 (gCons3 (gName3 6) (gCons3 (gName3 7) gNil3))) tYes3 (tVar3 6) (tVar3 7) τ0 p ((dsD n D).map W.d) (put S p (.dk (kvW n pre))) Q
  | [], pre, S, _, _, q => by
    rw [List.append_nil] at q; exact q
  | d :: D, pre, S, nd, few, q => by
    subst hτ
    rw [show pre ++ d :: D = (pre ++ [d]) ++ D by rw [List.append_assoc]; rfl] at nd few q
    refine ⟨[.str d.1, umD n d.2], rfl, rfl, _, _, rfl, _, _, rfl, rfl, fun _ => ⟨_, rfl, _, rfl, kvW n pre, .inr d.1, rfl, put_same, ?_, ?_⟩, fun z => nomatch z⟩
    · unfold kvW
      rw [List.length_map, sizeLine_eq]; rw [List.length_append, List.length_append] at few
      omega
    · rw [put_put, putKW_new, show kvW n pre ++ [(Sum.inr d.1, W.d (umD n d.2))] = kvW n (pre ++ [d]) by unfold kvW; rw [List.map_append]; rfl]
      · exact dc_pairs rfl D (pre ++ [d]) S nd few q
      · intro z
        obtain ⟨e, he, ee⟩ := List.mem_map.mp z
        obtain ⟨c, hc, rfl⟩ := List.mem_map.mp he
        have ee : c.1 = d.1 := by injection ee
        rw [List.map_append, List.map_append] at nd
        have := (List.nodup_append.mp (List.nodup_append.mp nd).1).2.2 c.1 (List.mem_map_of_mem hc) d.1 (by simp)
        exact this ee
def sq_counted (tb : Nat → Addr) : Sp3 := fun ws S Q _ => ∃ (m : Addr) (n : Nat) (D : List (Str × Mx)) (L : List En) (T : List Int), ws = [.r m, .d (.tuple (L.map enD)), .d (lt T)] ∧ n ≤ 4 ∧ CoAt tb S m (n : Nat) (.tuple (dsD n D)) ∧ DOk n D ∧ D.length ≤ 100 ∧ (∀ e ∈ L, ∃ A, D.lookup e.2 = some A) ∧ L.length ≤ 100 ∧ Q (.d (umD n (plM n D T L))) S
def sp_counted (tb : Nat → Addr) : Sp3 := fun ws S Q E => Bx (sq_counted tb ws S Q E)
theorem len_counted (tb : Nat → Addr) : ∀ ws S Q E, sp_counted tb ws S Q E → ws.length = 3 := fun ws S Q E ⟨⟨m, n, D, L, T, e, _⟩⟩ => by rw [e]; rfl
def rb_counted_0 (tb : Nat → Addr) : TS3 := (tIf3 (tB3 (tOp3 (gIn false) (tVar3 5) (tVar3 2))) (tSet3 4 (tCall3 sp_uni_joined (tCons3 (tVar3 4) (tCons3 (tOp3 gDk (tVar3 3) (tVar3 6)) tNil3)))) tNext3)
def rd_counted (tb : Nat → Addr) : TS3 := (tSeq3 (tSet3 3 (tDc3 (tSeqI3 (tFld3 (tb 0) "deeds" (tVar3 0))) (gTup3 2 (gCons3 (gName3 6) (gCons3 (gName3 7) gNil3))) tYes3 (tVar3 6) (tVar3 7) [6, 7])) (tSeq3 (tSet3 4 (tCall3 sp_still_uni (tCons3 (tFld3 (tb 0) "size" (tVar3 0)) tNil3))) (tSeq3 (tFor3 (tSeqI3 (tVar3 1)) (gTup3 2 (gCons3 (gName3 5) (gCons3 (gName3 6) gNil3))) (rb_counted_0 tb)) (tRet3 (tVar3 4)))))
theorem pl_low {n : Nat} {D : List (Str × Mx)} (n4 : n ≤ 4) (ok : DOk n D) (T : List Int) {L : List En} (hl : L.length ≤ 100) (hL : ∀ e ∈ L, ∃ A, D.lookup e.2 = some A) : Low n (plM n D T L) := by
  obtain ⟨u, w⟩ := plM_ok ok T L.length L rfl hL
  exact low_of n4 u w (Nat.le_trans (Nat.mul_le_mul_right P12 hl) (by decide))
theorem d_low {n : Nat} {D : List (Str × Mx)} (n4 : n ≤ 4) (ok : DOk n D) {x : Str} {A : Mx} (h : D.lookup x = some A) : Low n A := by
  obtain ⟨u, w⟩ := ok.un _ (look_in h)
  exact low_of n4 u w (by decide)
theorem sem_counted (tb : Nat → Addr) : ∀ ws S Q E, sp_counted tb ws S Q E → rd_counted tb (DQ Q) (start3 8 ws E) S := fun ws S Q E ⟨⟨m, n, D, L, T, e, n4, hm, ok, few, hL, hl, q⟩⟩ => by
  subst e
  refine ⟨_, rfl, m, _, _, rfl, hm, rfl, dsD n D, .inr rfl, by unfold dsD; rw [List.length_map, List.length_map]; omega, fun p hp => ?_⟩
  have hp : S p = none := hp
  refine dc_pairs rfl D [] S ok.nd (by rw [List.nil_append]; omega) ?_
  rw [List.nil_append]
  have mp : m ≠ p := fun z => by rw [← z, hm] at hp; cases hp
  refine ⟨_, rfl, m, _, _, rfl, (put_ne mp).trans hm, rfl, ⟨⟨n, rfl, n4, ?_⟩⟩⟩
  refine ⟨_, rfl, L.map enD, .inr rfl, ?_⟩
  rw [List.map_map (g := W.d)]
  refine forGo_inv (fun i τ S' => S' = put S p (.dk (kvW n D)) ∧ ∃ v5 v6 v7, τ = ⟨[some (.r m), some (.d (.tuple (L.map enD))), some (.d (lt T)), some (.r p), some (.d (umD n (plM n D T (L.take i)))), v5, v6, v7], (start3 8 [.r m, .d (.tuple (L.map enD)), .d (lt T)] E).ex⟩) ⟨rfl, _, _, _, rfl⟩ ?_ ?_
  · rintro i w τ S' hw ⟨rfl, v5, v6, v7, rfl⟩
    obtain ⟨e, he, rfl⟩ := get_map hw
    have tk : L.take (i + 1) = L.take i ++ [e] := by rw [List.take_add_one, he]; rfl
    obtain ⟨A, hA⟩ := hL e (List.mem_of_getElem? he)
    rw [tk, plM_snoc, hA]
    refine ⟨[.int e.1, .str e.2], rfl, rfl, _, _, rfl, _, _, rfl, rfl, ?_⟩
    refine ⟨_, rfl, _, rfl, .int e.1, T.map PyData.int, rfl, rfl, rfl, lay_ints T, _, rfl, fun c => ?_, fun c => ?_⟩
    · rw [in_ints] at c
      have c : e.1 ∈ T := by simpa using c
      rw [if_pos c]
      exact ⟨_, rfl, _, rfl, _, rfl, p, kvW n D, .inr e.2, _, rfl, put_same, rfl, kvW_val hA, ⟨⟨n, plM n D T (L.take i), A, rfl, n4, pl_low n4 ok T (by rw [List.length_take]; omega) fun x hx => hL x (List.mem_of_mem_take hx), d_low n4 ok hA, rfl, _, _, _, rfl⟩⟩⟩
    · rw [in_ints] at c
      have c : ¬ e.1 ∈ T := by simpa using c
      rw [if_neg c]
      exact ⟨rfl, _, _, _, rfl⟩
  · rintro τ S' ⟨rfl, v5, v6, v7, rfl⟩
    rw [List.length_map, List.take_length]; exact ⟨_, rfl, S, Sub.new hp, q⟩
def sq_law_played : Sp3 := fun ws S Q _ => ∃ (n : Nat) (D : List (Str × Mx)) (L : List En) (T : List Int), ws = [.d (.tuple (dsD n D)), .int (n : Nat), .d (.tuple (L.map enD)), .d (lt T)] ∧ n ≤ 4 ∧ DOk n D ∧ D.length ≤ 100 ∧ (∀ e ∈ L, ∃ A, D.lookup e.2 = some A) ∧ L.length ≤ 100 ∧ Q (.d (umD n (plM n D T L))) S
def sp_law_played : Sp3 := fun ws S Q E => Bx (sq_law_played ws S Q E)
theorem len_law_played : ∀ ws S Q E, sp_law_played ws S Q E → ws.length = 4 := fun ws S Q E ⟨⟨n, D, L, T, e, _⟩⟩ => by rw [e]; rfl
def rb_law_played_0 : TS3 := (tIf3 (tB3 (tOp3 (gIn false) (tVar3 6) (tVar3 3))) (tSet3 5 (tCall3 sp_law_after (tCons3 (tVar3 5) (tCons3 (tOp3 gDk (tVar3 4) (tVar3 7)) tNil3)))) tNext3)
def rd_law_played : TS3 := (tSeq3 (tPar3 4 5 (tCons3 (tCB3 gDictP (tCons3 (tVar3 0) tNil3)) (tCons3 (tCall3 sp_law_still (tCons3 (tVar3 1) tNil3)) tNil3))) (tSeq3 (tFor3 (tSeqI3 (tVar3 2)) (gTup3 2 (gCons3 (gName3 6) (gCons3 (gName3 7) gNil3))) rb_law_played_0) (tRet3 (tVar3 5))))
theorem sem_law_played : ∀ ws S Q E, sp_law_played ws S Q E → rd_law_played (DQ Q) (start3 8 ws E) S := fun ws S Q E ⟨⟨n, D, L, T, e, n4, ok, few, hL, hl, q⟩⟩ => by
  subst e
  refine ⟨_, rfl, kvU n D, by unfold kvU dsD; rw [List.map_map]; rfl, ?_, by unfold kvU; rw [List.length_map]; omega, fun p hp => ?_⟩
  · unfold kvU
    rw [List.map_map]
    have e : D.map ((fun x : Key × PyData => x.1) ∘ fun d : Str × Mx => ((Sum.inr d.1, umD n d.2) : Key × PyData)) = (D.map (·.1)).map Sum.inr := by rw [List.map_map]; rfl
    rw [e]
    exact List.nodup_iff_pairwise_ne.mpr (List.pairwise_map.mpr ((List.nodup_iff_pairwise_ne.mp ok.nd).imp fun {a b} ne z => ne (by injection z)))
  have hp : S p = none := hp
  rw [show (kvU n D).map (fun q => (q.1, W.d q.2)) = kvW n D by unfold kvU kvW; rw [List.map_map]; rfl]
  refine ⟨_, rfl, ⟨⟨n, rfl, n4, _, _, rfl, ?_⟩⟩⟩
  refine ⟨_, rfl, L.map enD, .inr rfl, ?_⟩
  rw [List.map_map (g := W.d)]
  refine forGo_inv (fun i τ S' => S' = put S p (.dk (kvW n D)) ∧ ∃ v6 v7, τ = ⟨[some (.d (.tuple (dsD n D))), some (.int (n : Nat)), some (.d (.tuple (L.map enD))), some (.d (lt T)), some (.r p), some (.d (umD n (plM n D T (L.take i)))), v6, v7], (start3 8 [.d (.tuple (dsD n D)), .int (n : Nat), .d (.tuple (L.map enD)), .d (lt T)] E).ex⟩) ⟨rfl, _, _, rfl⟩ ?_ ?_
  · rintro i w τ S' hw ⟨rfl, v6, v7, rfl⟩
    obtain ⟨e, he, rfl⟩ := get_map hw
    have tk : L.take (i + 1) = L.take i ++ [e] := by rw [List.take_add_one, he]; rfl
    obtain ⟨A, hA⟩ := hL e (List.mem_of_getElem? he)
    rw [tk, plM_snoc, hA]
    refine ⟨[.int e.1, .str e.2], rfl, rfl, _, _, rfl, _, _, rfl, rfl, ?_⟩
    refine ⟨_, rfl, _, rfl, .int e.1, T.map PyData.int, rfl, rfl, rfl, lay_ints T, _, rfl, fun c => ?_, fun c => ?_⟩
    · rw [in_ints] at c
      have c : e.1 ∈ T := by simpa using c
      rw [if_pos c]
      exact ⟨_, rfl, _, rfl, _, rfl, p, kvW n D, .inr e.2, _, rfl, put_same, rfl, kvW_val hA, ⟨⟨n, plM n D T (L.take i), A, rfl, n4, pl_low n4 ok T (by rw [List.length_take]; omega) fun x hx => hL x (List.mem_of_mem_take hx), d_low n4 ok hA, rfl, _, _, rfl⟩⟩⟩
    · rw [in_ints] at c
      have c : ¬ e.1 ∈ T := by simpa using c
      rw [if_neg c]
      exact ⟨rfl, _, _, rfl⟩
  · rintro τ S' ⟨rfl, v6, v7, rfl⟩
    rw [List.length_map, List.take_length]; exact ⟨_, rfl, S, Sub.new hp, q⟩

/-! corners: one number above the diagonal -/
def corM (a c : Nat) (x : Int) : Mx := fun i j => if i = a ∧ j = c then x else oneM i j
theorem cor_row {n a c i : Nat} {x : Int} (hc : c < n) : vec n (corM a c x i) = if i = a then (vec n (oneM i)).set c x else vec n (oneM i) := by
  by_cases e : i = a
  · rw [if_pos e]
    refine List.ext_getElem? fun k => ?_; rw [List.getElem?_set]
    unfold vec
    rw [List.length_map, List.length_range, List.getElem?_map, List.getElem?_map]
    by_cases hk : k < n
    · rw [List.getElem?_range hk]
      show some (if i = a ∧ k = c then x else oneM i k) = _
      by_cases z : c = k
      · rw [if_pos ⟨e, z.symm⟩, if_pos z, if_pos hc]
      · rw [if_neg fun w => z w.2.symm, if_neg z]; rfl
    · rw [List.getElem?_eq_none (by rw [List.length_range]; omega), if_neg (by omega)]; rfl
  · rw [if_neg e]
    exact vec_congr fun k _ => if_neg fun w => e w.1
/-- rows that may be changed: fresh lists of ints -/
structure Rws (S S' : Sto) (as : List Addr) (Ls : List (List Int)) : Prop where
  len : as.length = Ls.length
  nd : as.Nodup
  new : ∀ a ∈ as, S a = none
  at_ : ∀ (i : Nat) (a : Addr) (L : List Int), as[i]? = some a → Ls[i]? = some L → S' a = some (.lst (L.map W.int))
theorem rows_made {S : Sto} {n : Nat} {A : Mx} {τ0 : S3} {Q : List W → Sto → Prop} (n4 : n ≤ 4) {i : Nat} {w0 : List (Option W)} (hτ : τ0 = ⟨w0, XN⟩) (hi : i < w0.length)
    (q : ∀ as S', Sub S S' → Rws S S' as ((List.range n).map fun r => vec n (A r)) → Q (as.map W.r) S') :
    lcGo (gName3 i) tYes3 (tCB3 gListM (tCons3 (tVar3 i) tNil3)) τ0 (((List.range n).map fun r => lt (vec n (A r))).map W.d) [] S Q := by
  subst hτ
  rw [List.map_map]
  refine lcGo_run (fun k acc S' => Sub S S' ∧ ∃ as, acc = as.map W.r ∧ Rws S S' as ((List.range k).map fun r => vec n (A r))) ⟨Sub.refl _, [], rfl, rfl, .nil, (fun a h => by cases h), fun i a L h => by simp at h⟩ ?_ ?_
  · rintro k w acc S2 K hw ⟨s2, as, rfl, rw_⟩ hK
    obtain ⟨r, hr, rfl⟩ := get_map hw
    obtain ⟨hk, e⟩ := List.getElem?_eq_some_iff.mp hr
    rw [List.getElem_range] at e
    subst e
    refine ⟨fun _ => ⟨_, List.getElem?_set_self hi, _, ((vec n (A k)).map PyData.int).map W.d, rfl, rfl, fun p hp => ?_⟩, fun z => nomatch z⟩
    have hp : S2 p = none := hp
    have fresh : ∀ a ∈ as, a ≠ p := fun a ha z => by
      obtain ⟨j, hj, at_⟩ := List.getElem_of_mem ha
      have lL : j < ((List.range k).map fun r => vec n (A r)).length := by rw [← rw_.len]; exact hj
      have := rw_.at_ j a _ (by rw [List.getElem?_eq_getElem hj, at_]) (List.getElem?_eq_getElem lL)
      rw [z, hp] at this; cases this
    refine hK _ _ ⟨sub_wr s2 (sub_no s2 hp), as ++ [p], by rw [List.map_append]; rfl, ?_, ?_, ?_, ?_⟩
    · rw [List.length_append, rw_.len, List.length_map, List.length_map, List.length_range, List.length_range]; rfl
    · rw [List.nodup_append]
      exact ⟨rw_.nd, by simp, fun a ha b hb e => fresh a ha (by rw [e]; exact List.mem_singleton.mp hb)⟩
    · intro a ha
      rcases List.mem_append.mp ha with z | z
      · exact rw_.new a z
      · rw [List.mem_singleton.mp z]; exact sub_no s2 hp
    · intro j a L ha hL
      have la := rw_.len
      rw [List.length_map, List.length_range] at la
      rw [List.range_succ, List.map_append] at hL
      by_cases z : j < k
      · rw [List.getElem?_append_left (by omega)] at ha
        rw [List.getElem?_append_left (by rw [List.length_map, List.length_range]; exact z)] at hL
        rw [put_ne (fresh a (List.mem_of_getElem? ha))]
        exact rw_.at_ j a L ha hL
      · have z2 : j = k := by
          have := (List.getElem?_eq_some_iff.mp ha).1
          rw [List.length_append, la] at this
          have : j < k + 1 := this
          omega
        subst z2
        rw [List.getElem?_append_right (by omega), la, Nat.sub_self] at ha
        rw [List.getElem?_append_right (by rw [List.length_map, List.length_range]; exact Nat.le_refl _), List.length_map, List.length_range, Nat.sub_self] at hL
        cases ha
        cases hL
        rw [put_same, List.map_map]; rfl
  · rintro acc S2 ⟨s2, as, rfl, rw_⟩
    rw [List.length_map, List.length_range] at rw_
    exact q as S2 s2 rw_
theorem rows_back {S S' : Sto} {as : List Addr} {Ls : List (List Int)} {τ0 : S3} {Q : List W → Sto → Prop} {i : Nat} {w0 : List (Option W)} (hτ : τ0 = ⟨w0, XN⟩) (hi : i < w0.length) (rw_ : Rws S S' as Ls) (q : Q ((Ls.map lt).map W.d) S') :
    lcGo (gName3 i) tYes3 (tCB3 gTuple (tCons3 (tVar3 i) tNil3)) τ0 (as.map W.r) [] S' Q := by
  subst hτ
  refine lcGo_run (fun k acc S2 => S2 = S' ∧ acc = (((Ls.take k).map lt).map W.d)) ⟨rfl, rfl⟩ ?_ ?_
  · rintro k w acc S2 K hw ⟨rfl, rfl⟩ hK
    obtain ⟨a, ha, rfl⟩ := get_map hw
    have hk : k < Ls.length := by rw [← rw_.len]; exact (List.getElem?_eq_some_iff.mp ha).1
    have hL := List.getElem?_eq_getElem hk
    have at_ := rw_.at_ k a _ ha hL
    refine ⟨fun _ => ⟨_, List.getElem?_set_self hi, _, (Ls[k]).map PyData.int, rfl, itemsW_r (by rw [at_, List.map_map]; rfl), hK _ _ ⟨rfl, ?_⟩⟩, fun z => nomatch z⟩
    rw [List.take_add_one, hL, List.map_append (f := lt), List.map_append (f := W.d)]; rfl
  · rintro acc S2 ⟨rfl, rfl⟩
    rw [List.length_map, rw_.len, List.take_length]; exact q
theorem cor_data {n a c : Nat} {x : Int} (ha : a < n) (hc : c < n) : (((List.range n).map fun r => vec n (oneM r)).set a ((vec n (oneM a)).set c x)).map lt = (List.range n).map fun i => lt (vec n (corM a c x i)) := by
  refine List.ext_getElem? fun i => ?_
  rw [List.getElem?_map, List.getElem?_set, List.length_map, List.length_range, List.getElem?_map, List.getElem?_map]
  by_cases hi : i < n
  · rw [List.getElem?_range hi]
    show _ = some (lt (vec n (corM a c x i)))
    rw [cor_row hc]
    by_cases z : a = i
    · rw [if_pos z, if_pos ha, if_pos z.symm, z]; rfl
    · rw [if_neg z, if_neg fun w => z w.symm]; rfl
  · rw [List.getElem?_eq_none (by rw [List.length_range]; omega), if_neg (by omega)]; rfl
theorem Rws.set {S S' : Sto} {as : List Addr} {Ls : List (List Int)} (h : Rws S S' as Ls) {k : Nat} {a : Addr} {L : List Int} (ha : as[k]? = some a) : Rws S (put S' a (.lst (L.map W.int))) as (Ls.set k L) := by
  refine ⟨by rw [List.length_set]; exact h.len, h.nd, h.new, fun j b M hb hM => ?_⟩
  rw [List.getElem?_set] at hM
  by_cases e : k = j
  · subst e
    rw [ha] at hb
    cases hb
    rw [if_pos rfl] at hM
    split at hM
    · cases hM
      rw [put_same]
    · cases hM
  · rw [if_neg e] at hM
    have nab : b ≠ a := fun z => by
      subst z
      obtain ⟨h1, e1⟩ := List.getElem?_eq_some_iff.mp ha
      obtain ⟨h2, e2⟩ := List.getElem?_eq_some_iff.mp hb
      have pw := List.pairwise_iff_getElem.mp (List.nodup_iff_pairwise_ne.mp h.nd)
      rcases Nat.lt_or_gt_of_ne e with z | z
      · exact pw k j h1 h2 z (e1.trans e2.symm)
      · exact pw j k h2 h1 z (e2.trans e1.symm)
    rw [put_ne nab]
    exact h.at_ j b M hb hM
def sq_corner : Sp3 := fun ws S Q _ => ∃ (n a c : Nat) (x : Int), ws = [.int (n : Nat), .int (a : Nat), .int (c : Nat), .int x] ∧ n ≤ 4 ∧ a < n ∧ c < n ∧ Q (.d (umD n (corM a c x))) S
def sp_corner : Sp3 := fun ws S Q E => Bx (sq_corner ws S Q E)
theorem len_corner : ∀ ws S Q E, sp_corner ws S Q E → ws.length = 4 := fun ws S Q E ⟨⟨n, a, c, x, e, _⟩⟩ => by rw [e]; rfl
def rd_corner : TS3 := (tSeq3 (tSet3 4 (tLcM3 (tSeqI3 (tCall3 sp_still_uni (tCons3 (tVar3 0) tNil3))) (gName3 5) tYes3 (tCB3 gListM (tCons3 (tVar3 5) tNil3)) [5])) (tSeq3 (tAsg3 (tVar3 3) (gSub3 (tOp3 gIx (tVar3 4) (tVar3 1)) (tVar3 2) gSetL)) (tRet3 (tCB3 gTuple (tCons3 (tLcTD3 (tVar3 4) (gName3 5) tYes3 (tCB3 gTuple (tCons3 (tVar3 5) tNil3)) [5]) tNil3)))))
theorem ixN_nat {n c : Nat} (h : c < n) : ixN n ((c : Nat) : Int) = some c := by
  unfold ixN
  simp
  omega
theorem set_ints (L : List Int) (c : Nat) (x : Int) : (L.map W.int).set c (.int x) = (L.set c x).map W.int := by rw [List.map_set]
theorem sem_corner : ∀ ws S Q E, sp_corner ws S Q E → rd_corner (DQ Q) (start3 6 ws E) S := fun ws S Q E ⟨⟨n, a, c, x, e, n4, ha, hc, q⟩⟩ => by
  subst e
  refine ⟨_, rfl, ⟨⟨n, rfl, n4, _, .inr rfl, by rw [List.length_map, List.length_map, List.length_range]; omega, rows_made n4 rfl (show 5 < 6 by decide) fun as S1 s1 r1 p hp => ?_⟩⟩⟩
  have hp : S1 p = none := hp
  have la : as.length = n := by rw [r1.len, List.length_map, List.length_range]
  have fp : ∀ b ∈ as, b ≠ p := fun b hb z => by
    obtain ⟨j, hj, ej⟩ := List.getElem_of_mem hb
    have := r1.at_ j b _ (by rw [List.getElem?_eq_getElem hj, ej]) (List.getElem?_eq_getElem (by rw [← r1.len]; exact hj))
    rw [z, hp] at this; cases this
  have hk : as[a]? = some (as[a]'(by omega)) := List.getElem?_eq_getElem (by omega)
  obtain ⟨b, eb⟩ : ∃ b, b = as[a]'(by omega) := ⟨_, rfl⟩
  rw [← eb] at hk
  have mb : b ∈ as := List.mem_of_getElem? hk
  have rowL : ((List.range n).map fun r => vec n (oneM r))[a]? = some (vec n (oneM a)) := by rw [List.getElem?_map, List.getElem?_range ha]; rfl
  have r2 : Rws S (put S1 p (.lst (as.map W.r))) as ((List.range n).map fun r => vec n (oneM r)) := ⟨r1.len, r1.nd, r1.new, fun j d L h1 h2 => by
    rw [put_ne (fp d (List.mem_of_getElem? h1))]; exact r1.at_ j d L h1 h2⟩
  refine ⟨_, rfl, _, rfl, _, rfl, _, _, rfl, ix_sto put_same (by rw [List.getElem?_map, hk]; rfl), _, rfl, b, _, _, c, rfl, rfl, r2.at_ a b _ hk rowL, ixN_nat (by rw [List.length_map, vec_len]; exact hc), ?_⟩
  rw [set_ints]
  have r3 := r2.set (L := (vec n (oneM a)).set c x) hk
  refine ⟨_, rfl, p, as.map W.r, rfl, (put_ne (fp b mb).symm).trans put_same, by rw [List.length_map]; omega, ?_⟩
  have r4 : Rws S (drp (put (put S1 p (.lst (as.map W.r))) b (.lst (((vec n (oneM a)).set c x).map W.int))) p) as (((List.range n).map fun r => vec n (oneM r)).set a ((vec n (oneM a)).set c x)) := ⟨r3.len, r3.nd, r3.new, fun j d L h1 h2 => by
    rw [drp_ne (fp d (List.mem_of_getElem? h1))]; exact r3.at_ j d L h1 h2⟩
  refine rows_back rfl (show 5 < 6 by decide) r4 ?_
  rw [cor_data ha hc]
  refine ⟨_, rfl, _, _, rfl, rfl, S, fun d o h => ?_, q⟩
  have dp : d ≠ p := fun z => by
    have := s1 d o h
    rw [z, hp] at this; cases this
  have db : d ≠ b := fun z => by
    have := r1.new b mb
    rw [← z, h] at this; cases this
  rw [put_ne dp, drp_ne dp, put_ne db, put_ne dp]
  exact s1 d o h

def sq_law_corner : Sp3 := fun ws S Q _ => ∃ (n a c : Nat) (x : Int), ws = [.int (n : Nat), .int (a : Nat), .int (c : Nat), .int x] ∧ n ≤ 4 ∧ a < n ∧ c < n ∧ Q (.d (umD n (corM a c x))) S
def sp_law_corner : Sp3 := fun ws S Q E => Bx (sq_law_corner ws S Q E)
theorem len_law_corner : ∀ ws S Q E, sp_law_corner ws S Q E → ws.length = 4 := fun ws S Q E ⟨⟨n, a, c, x, e, _⟩⟩ => by rw [e]; rfl
def rd_law_corner : TS3 := (tSeq3 (tSet3 4 (tLcM3 (tSeqI3 (tCall3 sp_law_still (tCons3 (tVar3 0) tNil3))) (gName3 5) tYes3 (tCB3 gListM (tCons3 (tVar3 5) tNil3)) [5])) (tSeq3 (tSet3 5 (tOp3 gIx (tVar3 4) (tVar3 1))) (tSeq3 (tAsg3 (tVar3 3) (gSub3 (tVar3 5) (tVar3 2) gSetL)) (tRet3 (tCB3 gTuple (tCons3 (tLcTD3 (tVar3 4) (gName3 6) tYes3 (tCB3 gTuple (tCons3 (tVar3 6) tNil3)) [6]) tNil3))))))
theorem sem_law_corner : ∀ ws S Q E, sp_law_corner ws S Q E → rd_law_corner (DQ Q) (start3 7 ws E) S := fun ws S Q E ⟨⟨n, a, c, x, e, n4, ha, hc, q⟩⟩ => by
  subst e
  refine ⟨_, rfl, ⟨⟨n, rfl, n4, _, .inr rfl, by rw [List.length_map, List.length_map, List.length_range]; omega, rows_made n4 rfl (show 5 < 7 by decide) fun as S1 s1 r1 p hp => ?_⟩⟩⟩
  have hp : S1 p = none := hp
  have la : as.length = n := by rw [r1.len, List.length_map, List.length_range]
  have fp : ∀ b ∈ as, b ≠ p := fun b hb z => by
    obtain ⟨j, hj, ej⟩ := List.getElem_of_mem hb
    have := r1.at_ j b _ (by rw [List.getElem?_eq_getElem hj, ej]) (List.getElem?_eq_getElem (by rw [← r1.len]; exact hj))
    rw [z, hp] at this; cases this
  have hk : as[a]? = some (as[a]'(by omega)) := List.getElem?_eq_getElem (by omega)
  obtain ⟨b, eb⟩ : ∃ b, b = as[a]'(by omega) := ⟨_, rfl⟩
  rw [← eb] at hk
  have mb : b ∈ as := List.mem_of_getElem? hk
  have rowL : ((List.range n).map fun r => vec n (oneM r))[a]? = some (vec n (oneM a)) := by rw [List.getElem?_map, List.getElem?_range ha]; rfl
  have r2 : Rws S (put S1 p (.lst (as.map W.r))) as ((List.range n).map fun r => vec n (oneM r)) := ⟨r1.len, r1.nd, r1.new, fun j d L h1 h2 => by
    rw [put_ne (fp d (List.mem_of_getElem? h1))]; exact r1.at_ j d L h1 h2⟩
  refine ⟨_, rfl, _, rfl, _, _, rfl, ix_sto put_same (by rw [List.getElem?_map, hk]; rfl), ?_⟩
  refine ⟨_, rfl, _, rfl, _, rfl, b, _, _, c, rfl, rfl, r2.at_ a b _ hk rowL, ixN_nat (by rw [List.length_map, vec_len]; exact hc), ?_⟩
  rw [set_ints]
  have r3 := r2.set (L := (vec n (oneM a)).set c x) hk
  refine ⟨_, rfl, p, as.map W.r, rfl, (put_ne (fp b mb).symm).trans put_same, by rw [List.length_map]; omega, ?_⟩
  have r4 : Rws S (drp (put (put S1 p (.lst (as.map W.r))) b (.lst (((vec n (oneM a)).set c x).map W.int))) p) as (((List.range n).map fun r => vec n (oneM r)).set a ((vec n (oneM a)).set c x)) := ⟨r3.len, r3.nd, r3.new, fun j d L h1 h2 => by
    rw [drp_ne (fp d (List.mem_of_getElem? h1))]; exact r3.at_ j d L h1 h2⟩
  refine rows_back rfl (show 6 < 7 by decide) r4 ?_
  rw [cor_data ha hc]
  refine ⟨_, rfl, _, _, rfl, rfl, S, fun d o h => ?_, q⟩
  have dp : d ≠ p := fun z => by
    have := s1 d o h
    rw [z, hp] at this; cases this
  have db : d ≠ b := fun z => by
    have := r1.new b mb
    rw [← z, h] at this; cases this
  rw [put_ne dp, drp_ne dp, put_ne db, put_ne dp]
  exact s1 d o h
/-! the full counting machine -/
def sgS : Nat → Str
  | 0 => "a"
  | 1 => "b"
  | _ => "c"
def halfL (w : Str) (x : Int) (k : Nat) : List (Str × Mx) := (List.range k).map fun i => (w ++ sgS i, corM i (i + 1) x)
def fullL (n : Nat) : List (Str × Mx) := halfL "down" (-1) (n - 1) ++ halfL "up" 1 (n - 1)
theorem abc_cut : ∀ n : Nat, 2 ≤ n → n ≤ 4 → enS (cutS "abc" none (some ((n : Int) - 1))) = (List.range (n - 1)).map fun i => W.tup [.int (i : Nat), .str (sgS i)] := fun n a b => by
  rcases (by omega : n = 2 ∨ n = 3 ∨ n = 4) with rfl | rfl | rfl
  · kernel_rfl
  · kernel_rfl
  · kernel_rfl
theorem abc_at {S : Sto} : ∀ i : Nat, i < 3 → ixW S ((i : Nat) : Int) (.str "abc") = some (.str (sgS i)) := fun i a => by
  rcases (by omega : i = 0 ∨ i = 1 ∨ i = 2) with rfl | rfl | rfl
  · kernel_rfl
  · kernel_rfl
  · kernel_rfl
theorem sg_len (i : Nat) : (sgS i).length = 1 := by
  match i with
  | 0 => rfl
  | 1 => rfl
  | _ + 2 => rfl
def sq_full_counting (tb : Nat → Addr) : Sp3 := fun ws S Q _ => ∃ n : Nat, ws = [.int (n : Nat)] ∧ 2 ≤ n ∧ n ≤ 4 ∧ ∀ m, S m = none → Q (.r m) (put S m (.ins (tb 0) [("size", .int (n : Nat)), ("deeds", .d (.tuple (dsD n (fullL n))))]))
def sp_full_counting (tb : Nat → Addr) : Sp3 := fun ws S Q E => Bx (sq_full_counting tb ws S Q E)
theorem len_full_counting (tb : Nat → Addr) : ∀ ws S Q E, sp_full_counting tb ws S Q E → ws.length = 1 := fun ws S Q E ⟨⟨n, e, _⟩⟩ => by rw [e]; rfl
def rd_full_counting (tb : Nat → Addr) : TS3 := (tSeq3 (tSet3 1 (tSl3 gSlS (tC3 (.str "abc")) tNoP3 (tPart3 (tOp3 gSub (tVar3 0) (tC3 (.int 1)))))) (tSeq3 (tSet3 2 (tLcD3 (tEnS3 (tCons3 (tVar3 1) tNil3)) (gTup3 2 (gCons3 (gName3 4) (gCons3 (gName3 5) gNil3))) tYes3 (tTup3 (tCons3 (tOp3 gAddS (tC3 (.str "down")) (tVar3 5)) (tCons3 (tCall3 sp_corner (tCons3 (tVar3 0) (tCons3 (tVar3 4) (tCons3 (tOp3 gAdd (tVar3 4) (tC3 (.int 1))) (tCons3 (tNeg3 (tC3 (.int 1))) tNil3))))) tNil3))) [4, 5])) (tSeq3 (tSet3 3 (tLcD3 (tEnS3 (tCons3 (tVar3 1) tNil3)) (gTup3 2 (gCons3 (gName3 4) (gCons3 (gName3 5) gNil3))) tYes3 (tTup3 (tCons3 (tOp3 gAddS (tC3 (.str "up")) (tVar3 5)) (tCons3 (tCall3 sp_corner (tCons3 (tVar3 0) (tCons3 (tVar3 4) (tCons3 (tOp3 gAdd (tVar3 4) (tC3 (.int 1))) (tCons3 (tC3 (.int 1)) tNil3))))) tNil3))) [4, 5])) (tRet3 (tMk3 (tb 0) (sp_Counting_init tb) (tCons3 (tVar3 0) (tCons3 (tCB3 gTuple (tCons3 (tOp3 gCatL (tVar3 2) (tVar3 3)) tNil3)) tNil3)))))))
theorem str4 {z : Str} {i : Nat} (h : z.length ≤ 10) : z.length + (sgS i).length ≤ sizeLine := by rw [sg_len, sizeLine_eq]; omega
theorem half_go {n : Nat} (n2 : 2 ≤ n) (n4 : n ≤ 4) {w : Str} (hw : w.length ≤ 10) {x : Int} {te : TE3} {S : Sto} {Q : List W → Sto → Prop} {w1 w2 w3 v4 v5 : Option W} (hx : ∀ τ (S' : Sto) (A : K3), A (.int x) S' → te τ S' A) (q : Q ((dsD n (halfL w x (n - 1))).map W.d) S) :
    lcGo (gTup3 2 (gCons3 (gName3 4) (gCons3 (gName3 5) gNil3))) tYes3 (tTup3 (tCons3 (tOp3 gAddS (tC3 (.str w)) (tVar3 5)) (tCons3 (tCall3 sp_corner (tCons3 (tVar3 0) (tCons3 (tVar3 4) (tCons3 (tOp3 gAdd (tVar3 4) (tC3 (.int 1))) (tCons3 te tNil3))))) tNil3))) ⟨[some (.int (n : Nat)), w1, w2, w3, v4, v5], XN⟩ (enS (cutS "abc" none (some ((n : Int) - 1)))) [] S Q := by
  rw [abc_cut n n2 n4]
  refine lcGo_pair (fun i : Nat => W.tup [.int (i : Nat), .str (sgS i)]) (fun i => .int (i : Nat)) (fun i => .str (sgS i)) (fun _ => true) (fun i => W.d (.tuple [.str (w ++ sgS i), umD n (corM i (i + 1) x)])) (fun _ _ => rfl) (fun i _ A a => a) (fun i hi _ A a => ?_) ?_
  · have hi := List.mem_range.mp hi
    refine ⟨_, rfl, w, sgS i, rfl, rfl, str4 hw, _, rfl, _, rfl, _, rfl, _, _, rfl, rfl, hx _ _ _ ⟨⟨n, i, i + 1, x, rfl, n4, by omega, by omega, ?_⟩⟩⟩
    exact ⟨[.str (w ++ sgS i), umD n (corM i (i + 1) x)], rfl, (show 2 ≤ 1000 by decide), a⟩
  · rw [List.nil_append, List.filter_eq_self.mpr fun _ _ => rfl]
    have e : ((List.range (n - 1)).map fun i => W.d (.tuple [.str (w ++ sgS i), umD n (corM i (i + 1) x)])) = (dsD n (halfL w x (n - 1))).map W.d := by
      unfold dsD halfL
      rw [List.map_map, List.map_map]; rfl
    rw [e]; exact q
theorem sem_full_counting (tb : Nat → Addr) : ∀ ws S Q E, sp_full_counting tb ws S Q E → rd_full_counting tb (DQ Q) (start3 6 ws E) S := fun ws S Q E ⟨⟨n, e, n2, n4, hQ⟩⟩ => by
  subst e
  have hl : (enS (cutS "abc" none (some ((n : Int) - 1)))).length ≤ 1000000 := by rw [abc_cut n n2 n4, List.length_map, List.length_range]; omega
  refine ⟨_, rfl, _, _, rfl, rfl, _, rfl, "abc", rfl, by decide +kernel, ?_⟩
  refine ⟨_, rfl, _, rfl, hl, half_go n2 n4 (w := "down") (x := -1) (by decide +kernel) (fun τ S' A a => ⟨_, rfl, a⟩) ⟨_, rfl, ?_⟩⟩
  refine ⟨_, rfl, _, rfl, hl, half_go n2 n4 (w := "up") (x := 1) (by decide +kernel) (fun τ S' A a => a) ⟨_, rfl, ?_⟩⟩
  refine ⟨_, rfl, _, rfl, _, rfl, dsD n (halfL "down" (-1) (n - 1)), dsD n (halfL "up" 1 (n - 1)), rfl, rfl, ?_, _, dsD n (fullL n), rfl, ?_, fun m hm => ⟨⟨m, (n : Nat), .tuple (dsD n (fullL n)), rfl, put_same, rfl, _, Sub.refl _, ?_⟩⟩⟩
  · unfold dsD halfL
    rw [List.length_map, List.length_map, List.length_map, List.length_map, List.length_range, sizeLine_eq]; omega
  · show some _ = some _
    unfold fullL dsD
    rw [List.map_append]
  · rw [put_put]; exact hQ m hm
def sq_law_full : Sp3 := fun ws S Q _ => ∃ n : Nat, ws = [.int (n : Nat)] ∧ 2 ≤ n ∧ n ≤ 4 ∧ Q (.d (.tuple (dsD n (fullL n)))) S
def sp_law_full : Sp3 := fun ws S Q E => Bx (sq_law_full ws S Q E)
theorem len_law_full : ∀ ws S Q E, sp_law_full ws S Q E → ws.length = 1 := fun ws S Q E ⟨⟨n, e, _⟩⟩ => by rw [e]; rfl
def rb_law_full_0 : TS3 := (tDrop3 (tBM3 gAppend (tVar3 1) (tCons3 (tTup3 (tCons3 (tOp3 gAddS (tVar3 2) (tOp3 gIx (tC3 (.str "abc")) (tVar3 4))) (tCons3 (tCall3 sp_law_corner (tCons3 (tVar3 0) (tCons3 (tVar3 4) (tCons3 (tOp3 gAdd (tVar3 4) (tC3 (.int 1))) (tCons3 (tVar3 3) tNil3))))) tNil3))) tNil3)))
def rb_law_full_1 : TS3 := (tFor3 (tRgI1 (tCons3 (tOp3 gSub (tVar3 0) (tC3 (.int 1))) tNil3)) (gName3 4) rb_law_full_0)
def rd_law_full : TS3 := (tSeq3 (tSet3 1 (tLstM3 tNil3)) (tSeq3 (tFor3 (tSeqI3 (tTup3 (tCons3 (tTup3 (tCons3 (tC3 (.str "down")) (tCons3 (tNeg3 (tC3 (.int 1))) tNil3))) (tCons3 (tTup3 (tCons3 (tC3 (.str "up")) (tCons3 (tC3 (.int 1)) tNil3))) tNil3)))) (gTup3 2 (gCons3 (gName3 2) (gCons3 (gName3 3) gNil3))) rb_law_full_1) (tRet3 (tCB3 gTuple (tCons3 (tVar3 1) tNil3)))))
theorem half_loop {n : Nat} (n4 : n ≤ 4) {w : Str} (hw : w.length ≤ 10) {x : Int} {pre : List PyData} (hpre : pre.length ≤ 10) {p : Addr} {S0 : Sto} {D : Ends3} {ex : XS} {v4 : Option W} (hq : ∀ v4, D.nx ⟨[some (.int (n : Nat)), some (.r p), some (.str w), some (.int x), v4], ex⟩ (put S0 p (.lst ((pre ++ dsD n (halfL w x (n - 1))).map W.d)))) :
    rb_law_full_1 D ⟨[some (.int (n : Nat)), some (.r p), some (.str w), some (.int x), v4], ex⟩ (put S0 p (.lst (pre.map W.d))) := by
  refine ⟨_, rfl, _, _, rfl, rfl, ((n : Nat) : Int) - 1, rfl, ⟨by omega, by omega⟩, ?_⟩
  rw [show (((n : Nat) : Int) - 1).toNat = n - 1 by omega]
  refine forGo_inv (fun i τ S' => (∃ v4, τ = ⟨[some (.int (n : Nat)), some (.r p), some (.str w), some (.int x), v4], ex⟩) ∧ S' = put S0 p (.lst ((pre ++ dsD n (halfL w x i)).map W.d))) ⟨⟨_, rfl⟩, by show _ = put S0 p (.lst ((pre ++ []).map W.d)); rw [List.append_nil]⟩ ?_ ?_
  · rintro i u τ S' hu ⟨⟨v4, rfl⟩, rfl⟩
    obtain ⟨hi, rfl⟩ := rgW_at hu
    rw [show (0 + ((i : Nat) : Int)) = ((i : Nat) : Int) by omega]
    refine ⟨_, rfl, isLst_r put_same, _, rfl, _, rfl, _, _, rfl, abc_at i (by omega), w, sgS i, rfl, rfl, str4 hw, _, rfl, _, rfl, _, rfl, _, _, rfl, rfl, _, rfl, ⟨⟨n, i, i + 1, x, rfl, n4, by omega, by omega, ?_⟩⟩⟩
    refine ⟨[.str (w ++ sgS i), umD n (corM i (i + 1) x)], rfl, (show 2 ≤ 1000 by decide), p, _, _, rfl, rfl, put_same, ?_, ⟨_, rfl⟩, ?_⟩
    · unfold dsD halfL
      rw [List.length_map, List.length_append, List.length_map, List.length_map, List.length_range, sizeLine_eq]; omega
    · rw [put_put]
      have e : dsD n (halfL w x (i + 1)) = dsD n (halfL w x i) ++ [.tuple [.str (w ++ sgS i), umD n (corM i (i + 1) x)]] := by
        unfold dsD halfL
        rw [List.range_succ, List.map_append, List.map_append]; rfl
      rw [e, ← List.append_assoc, List.map_append (l₂ := [PyData.tuple _])]; rfl
  · rintro τ S' ⟨⟨v4, rfl⟩, rfl⟩
    rw [rgW_len]
    exact hq v4
theorem sem_law_full : ∀ ws S Q E, sp_law_full ws S Q E → rd_law_full (DQ Q) (start3 5 ws E) S := fun ws S Q E ⟨⟨n, e, n2, n4, q⟩⟩ => by
  subst e
  refine ⟨by decide, fun p hp => ?_⟩
  have hp : S p = none := hp
  refine ⟨_, rfl, [.str "down", .int (-1)], rfl, (show 2 ≤ 1000 by decide), [.str "up", .int 1], rfl, (show 2 ≤ 1000 by decide), [.tuple [.str "down", .int (-1)], .tuple [.str "up", .int 1]], rfl, (show 2 ≤ 1000 by decide), _, .inr rfl, ?_⟩
  refine ⟨_, fun _ _ h => h, [.str "down", .int (-1)], rfl, rfl, _, _, rfl, _, _, rfl, rfl, half_loop n4 (w := "down") (x := -1) (pre := []) (by decide +kernel) (by decide) fun v4 => ?_⟩
  refine ⟨_, fun _ _ h => h, [.str "up", .int 1], rfl, rfl, _, _, rfl, _, _, rfl, rfl, half_loop n4 (w := "up") (x := 1) (pre := dsD n (halfL "down" (-1) (n - 1))) (by decide +kernel) ?_ fun v4 => ?_⟩
  · unfold dsD halfL
    rw [List.length_map, List.length_map, List.length_range]; omega
  · refine ⟨_, rfl, _, dsD n (fullL n), rfl, itemsW_r ?_, S, Sub.new hp, q⟩
    rw [put_same]
    unfold fullL dsD
    rw [List.map_append (f := fun d : Str × Mx => PyData.tuple [.str d.1, umD n d.2])]

/-! logs drawn -/
def ddU (n : Nat) (d : Str × Mx) : PyData := .tuple [.str d.1, umD n d.2]
def NamesIn (M : List (Str × Mx)) (L : List En) : Prop := ∀ e ∈ L, e.2 ∈ M.map (·.1)
theorem lookup_is {M : List (Str × Mx)} {x : Str} (h : x ∈ M.map (·.1)) : ∃ a, M.lookup x = some a := by
  induction M with
  | nil => cases h
  | cons d M ih =>
    obtain ⟨y, b⟩ := d
    rw [List.lookup_cons]
    by_cases e : x = y
    · subst e; rw [beq_self_eq_true]; exact ⟨b, rfl⟩
    · rw [beq_eq_false_iff_ne.mpr e]
      exact ih ((List.mem_cons.mp h).resolve_left e)
theorem NamesIn.lg {M : List (Str × Mx)} {L : List En} (h : NamesIn M L) : ∀ e ∈ L, ∃ A, M.lookup e.2 = some A := fun e he => lookup_is (h e he)
def sq_law_log : Sp3 := fun ws S Q _ => ∃ (dl d1 : Addr) (n : Nat) (M : List (Str × Mx)) (H : List Int) (most : Int), ws = [.r dl, .tup (M.map (ddU n)), .lst (H.map PyData.int), .int most] ∧ M ≠ [] ∧ M.length ≤ 12 ∧ H.length ≤ 16 ∧ 0 ≤ most ∧ most ≤ 100 ∧ Deal S dl d1 ∧ ∀ (L : List En) S', (L.length : Int) ≤ most → NamesIn M L → (∀ e ∈ L, e.1 ∈ H) → Upto [dl, d1] S S' → Deal S' dl d1 → Q (.d (.tuple (L.map enD))) S'
def sp_law_log : Sp3 := fun ws S Q E => Bx (sq_law_log ws S Q E)
theorem len_law_log : ∀ ws S Q E, sp_law_log ws S Q E → ws.length = 4 := fun ws S Q E ⟨dl, d1, n, M, H, k, e, _⟩ => by rw [e]; rfl
def rb_law_log_0 : TS3 := (tDrop3 (tBM3 gAppend (tVar3 5) (tCons3 (tTup3 (tCons3 (tCall3 sp_law_of (tCons3 (tVar3 0) (tCons3 (tVar3 2) tNil3))) (tCons3 (tCall3 sp_law_of (tCons3 (tVar3 0) (tCons3 (tVar3 4) tNil3))) tNil3))) tNil3)))
def rd_law_log : TS3 := (tSeq3 (tSet3 4 (tLcD3 (tSeqI3 (tVar3 1)) (gTup3 2 (gCons3 (gName3 7) (gCons3 (gName3 8) gNil3))) tYes3 (tVar3 7) [7, 8])) (tSeq3 (tSet3 5 (tLstM3 tNil3)) (tSeq3 (tFor3 (tRgI1 (tCons3 (tIfE3 (tB3 (tOp3 gNe (tVar3 2) (tLstD3 tNil3))) (tCall3 sp_law_any (tCons3 (tVar3 0) (tCons3 (tOp3 gAdd (tVar3 3) (tC3 (.int 1))) tNil3))) (tC3 (.int 0))) tNil3)) (gName3 6) rb_law_log_0) (tRet3 (tCB3 gTuple (tCons3 (tVar3 5) tNil3))))))
theorem names_lc {n : Nat} {M : List (Str × Mx)} {i j : Nat} {te : TE3} {τ0 : S3} {S : Sto} {Q : List W → Sto → Prop} (he : ∀ d ∈ M, ∀ A : K3, A (.str d.1) S → te ((τ0.set i (some (.str d.1))).set j (some (.d (umD n d.2)))) S A)
    (q : Q ((M.map fun d => PyData.str d.1).map W.d) S) : lcGo (gTup3 2 (gCons3 (gName3 i) (gCons3 (gName3 j) gNil3))) tYes3 te τ0 ((M.map (ddU n)).map W.d) [] S Q := by
  rw [List.map_map]
  refine lcGo_pair (W.d ∘ ddU n) (fun d => .str d.1) (fun d => umD n d.2) (fun _ => true) (fun d => .str d.1) (fun _ _ => rfl) (fun e _ A a => a) (fun e h _ A a => he e h A a) ?_
  rw [List.nil_append, List.filter_eq_self.mpr fun _ _ => rfl]
  rw [List.map_map] at q
  exact q
theorem sem_law_log : ∀ ws S Q E, sp_law_log ws S Q E → rd_law_log (DQ Q) (start3 9 ws E) S := fun ws S Q E ⟨dl, d1, n, M, H, most, e, mne, m12, h16, m0, m1, hD, hQ⟩ => by
  subst e
  have es := sizeLine_eq
  refine ⟨_, rfl, M.map (ddU n), .inr rfl, by rw [List.length_map, List.length_map]; omega, names_lc (fun d _ A a => ⟨_, rfl, a⟩) ⟨_, rfl, by decide, fun f hf => ?_⟩⟩
  have hf : S f = none := hf
  obtain ⟨f1, f2⟩ := hD.free hf
  have loop : ∀ (k : Int) S1, 0 ≤ k → k ≤ most → (H = [] → k = 0) → Deal S1 dl d1 → Kp [dl, d1] S S1 → S1 f = some (.lst []) → (∃ j : Int, [W.int k] = [.int j] ∧ (-(2 ^ 62) ≤ j ∧ j < 2 ^ 62) ∧ forGo (gName3 6) rb_law_log_0 { DQ Q with nx := (tRet3 (tCB3 gTuple (tCons3 (tVar3 5) tNil3))) (DQ Q) } (rgW 0 j.toNat) ⟨[some (.r dl), some (.tup (M.map (ddU n))), some (.lst (H.map PyData.int)), some (.int most), some (.lst (M.map fun d => PyData.str d.1)), some (.r f), none, none, none], (start3 9 [.r dl, .tup (M.map (ddU n)), .lst (H.map PyData.int), .int most] E).ex⟩ S1) := fun k S1 k0 k1 hH hD1 kp1 at1 => by
    refine ⟨k, rfl, ⟨by omega, by omega⟩, ?_⟩
    refine forGo_inv (fun i τ S' => (∃ w6, τ.sl = [some (.r dl), some (.tup (M.map (ddU n))), some (.lst (H.map PyData.int)), some (.int most), some (.lst (M.map fun d => PyData.str d.1)), some (.r f), w6, none, none]) ∧ Deal S' dl d1 ∧ Kp [dl, d1] S S' ∧ ∃ L : List En, S' f = some (.lst ((L.map enD).map W.d)) ∧ L.length = i ∧ NamesIn M L ∧ ∀ e ∈ L, e.1 ∈ H) ⟨⟨_, rfl⟩, hD1, kp1, [], at1, rfl, (by intro e h; cases h), (by intro e h; cases h)⟩ ?_ ?_
    · rintro i w ⟨sl, ex⟩ S2 hw ⟨⟨w6, e⟩, hD2, k2, L, e1, l4, nm, hs⟩
      subst e
      have hi := (rgW_at hw).1
      have hne : H ≠ [] := fun z => by have := hH z; omega
      refine ⟨_, rfl, isLst_r e1, _, rfl, _, rfl, law_of_list hD2 (by simpa using hne) (by rw [List.length_map]; omega) fun d hd S3 u3 hD3 => ?_⟩
      obtain ⟨x, hx, rfl⟩ := List.mem_map.mp hd
      refine ⟨_, rfl, _, rfl, law_of_list hD3 (by simpa using mne) (by rw [List.length_map]; omega) fun d hd S4 u4 hD4 => ?_⟩
      obtain ⟨y, hy, rfl⟩ := List.mem_map.mp hd
      have e1' : S4 f = some (.lst ((L.map enD).map W.d)) := by rw [u4 f (by simp [f1, f2]), u3 f (by simp [f1, f2])]; exact e1
      refine ⟨[.int x, .str y.1], rfl, (show 2 ≤ 1000 by decide), f, _, _, rfl, rfl, e1', by rw [List.length_map, List.length_map, l4]; omega, ⟨_, rfl⟩, hD4.other f1 f2, ((k2.trans u3.kp).trans u4.kp).wr hf, L ++ [(x, y.1)], by rw [put_same, List.map_append, List.map_append]; rfl, by rw [List.length_append, l4]; rfl, fun e he => ?_, fun e he => ?_⟩
      · rcases List.mem_append.mp he with z | z
        · exact nm e z
        · rw [List.mem_singleton.mp z]; exact List.mem_map_of_mem hy
      · rcases List.mem_append.mp he with z | z
        · exact hs e z
        · rw [List.mem_singleton.mp z]; exact hx
    · rintro ⟨sl, ex⟩ S2 ⟨⟨w6, e⟩, hD2, k2, L, e1, l4, nm, hs⟩
      subst e
      rw [rgW_len] at l4
      exact ⟨_, rfl, _, _, rfl, itemsW_r e1, two dl d1 S S2, two_sub k2, hQ L _ (by omega) nm hs two_upto (two_deal hD2)⟩
  refine ⟨_, rfl, [], rfl, (show 0 ≤ 1000 by decide), .inr ⟨_, _, rfl, rfl, shaped_intsL H, rfl, _, rfl, fun c => ?_, fun c => ?_⟩⟩
  · rw [eqv_nil] at c
    exact ⟨_, rfl, _, rfl, _, _, rfl, rfl, law_any_lt (hD.other f1 f2) (by omega) (by omega) fun k S1 k0 k1 u1 hD1 => loop k S1 k0 (by omega) (fun z => by rw [z] at c; cases c) hD1 (((Kp.refl).wr hf).trans u1.kp) (by rw [u1 f (by simp [f1, f2]), put_same])⟩
  · rw [eqv_nil] at c
    exact loop 0 _ (by omega) m0 (fun _ => rfl) (hD.other f1 f2) ((Kp.refl).wr hf) put_same

/-! hands drawn -/
def sq_law_who : Sp3 := fun ws S Q _ => ∃ (dl d1 : Addr) (k : Int), ws = [.r dl, .int k] ∧ 0 ≤ k ∧ k ≤ 16 ∧ Deal S dl d1 ∧ ∀ (l : List Int) S', l.length = k.toNat → (∀ x ∈ l, 0 ≤ x ∧ x < 1000000000) → Upto [dl, d1] S S' → Deal S' dl d1 → Q (.lst (l.map PyData.int)) S'
def sp_law_who : Sp3 := fun ws S Q E => Bx (sq_law_who ws S Q E)
theorem len_law_who : ∀ ws S Q E, sp_law_who ws S Q E → ws.length = 2 := fun ws S Q E ⟨dl, d1, k, e, _⟩ => by rw [e]; rfl
def rb_law_who_0 : TS3 := (tSeq3 (tSet3 4 (tOp3 gAdd (tVar3 4) (tOp3 gMul (tCall3 sp_law_any (tCons3 (tVar3 0) (tCons3 (tC3 (.int 9)) tNil3))) (tIfE3 (tB3 (tOp3 gGt (tCall3 sp_law_any (tCons3 (tVar3 0) (tCons3 (tC3 (.int 4)) tNil3))) (tC3 (.int 0)))) (tC3 (.int 1)) (tC3 (.int 1000003)))))) (tSeq3 (tDrop3 (tBM3 gAppend (tVar3 3) (tCons3 (tVar3 4) tNil3))) (tSet3 4 (tOp3 gAdd (tVar3 4) (tC3 (.int 1))))))
def rd_law_who : TS3 := (tSeq3 (tIf3 (tB3 (tOp3 gEq (tCall3 sp_law_any (tCons3 (tVar3 0) (tCons3 (tC3 (.int 2)) tNil3))) (tC3 (.int 0)))) (tRet3 (tLstRgD3 (tRg13 (tVar3 1)))) tNext3) (tSeq3 (tPar3 3 4 (tCons3 (tLstM3 tNil3) (tCons3 (tC3 (.int 0)) tNil3))) (tSeq3 (tFor3 (tRgI1 (tCons3 (tVar3 1) tNil3)) (gName3 2) rb_law_who_0) (tFrz3 3 (tRet3 (tVar3 3))))))
theorem sem_law_who : ∀ ws S Q E, sp_law_who ws S Q E → rd_law_who (DQ Q) (start3 5 ws E) S := fun ws S Q E ⟨dl, d1, k, e, k0, k16, hD, hQ⟩ => by
  subst e
  refine ⟨_, rfl, law_any_lt hD (by decide) (by decide) fun r S1 r0 r1 u1 hD1 => .inr ⟨_, _, rfl, rfl, rfl, rfl, _, rfl, fun _ => ?_, fun _ => ?_⟩⟩
  · refine ⟨_, rfl, k, rfl, RgOk.of_le (by decide) (by omega) (by decide) (by omega), S1, Sub.refl _, ?_⟩
    have e : rgD 0 k = (ci (List.range k.toNat)).map PyData.int := by
      rw [← rgD_ti, show ((k.toNat : Nat) : Int) = k by omega]
    rw [e]
    refine hQ _ _ (by rw [ci_len, List.length_range]) (fun x hx => ?_) u1 hD1
    obtain ⟨j, hj, rfl⟩ := List.mem_map.mp hx
    have hj := List.mem_range.mp hj
    show (0 : Int) ≤ (j : Int) ∧ (j : Int) < 1000000000
    omega
  · refine ⟨by decide, fun f hf => ⟨_, _, rfl, _, rfl, k, rfl, ⟨by omega, by omega⟩, ?_⟩⟩
    have hf : S1 f = none := hf
    obtain ⟨f1, f2⟩ := hD1.free hf
    have f0 : S f = none := u1.kp.none hf (by simp [f1, f2])
    refine forGo_inv (fun i τ S' => (∃ w2, ∃ h : Int, τ.sl = [some (.r dl), some (.int k), w2, some (.r f), some (.int h)] ∧ 0 ≤ h ∧ h ≤ i * 8000025) ∧ Deal S' dl d1 ∧ Kp [dl, d1] S S' ∧ ∃ xs : List Int, S' f = some (.lst (xs.map W.int)) ∧ xs.length = i ∧ ∀ x ∈ xs, 0 ≤ x ∧ x < 1000000000) ⟨⟨_, 0, rfl, by omega, by omega⟩, hD1.other f1 f2, u1.kp.wr f0, [], by rw [put_same]; rfl, rfl, fun x hx => nomatch hx⟩ ?_ ?_
    · rintro i w ⟨sl, ex⟩ S2 hw ⟨⟨w2, h, e, h0, h1⟩, hD2, k2, xs, e1, l4, bd⟩
      subst e
      have hi := (rgW_at hw).1
      refine ⟨_, rfl, _, rfl, law_any_lt hD2 (by decide) (by decide) fun j S3 j0 j1 u3 hD3 => ?_⟩
      refine ⟨_, rfl, law_any_lt hD3 (by decide) (by decide) fun g S4 _ _ u4 hD4 => ?_⟩
      have e1' : S4 f = some (.lst (xs.map W.int)) := by rw [u4 f (by simp [f1, f2]), u3 f (by simp [f1, f2])]; exact e1
      have es := sizeLine_eq
      refine ⟨_, _, rfl, rfl, _, rfl, fun _ => ?_, fun _ => ?_⟩
      all_goals
        refine ⟨_, _, rfl, rfl, .inr ⟨by decide, by decide⟩, _, _, rfl, rfl, ?_⟩
        refine ⟨_, rfl, isLst_r e1', _, rfl, f, _, _, rfl, rfl, e1', by rw [List.length_map, l4]; omega, ?_⟩
        refine ⟨_, rfl, _, _, rfl, rfl, ⟨_, _, rfl, by omega, by omega⟩, hD4.other f1 f2, ((k2.trans u3.kp).trans u4.kp).wr f0, xs ++ [_], by rw [put_same, List.map_append]; rfl, by rw [List.length_append, l4]; rfl, fun x hx => ?_⟩
        rcases List.mem_append.mp hx with z | z
        · exact bd x z
        · rw [List.mem_singleton.mp z]; omega
    · rintro ⟨sl, ex⟩ S2 ⟨⟨w2, h, e, h0, h1⟩, hD2, k2, xs, e1, l4, bd⟩
      subst e
      rw [rgW_len] at l4
      refine ⟨f, xs.map PyData.int, rfl, by rw [e1, List.map_map]; rfl, _, rfl, two dl d1 S (drp S2 f), two_sub (k2.drp f0), hQ xs _ l4 bd two_upto (two_deal (hD2.up' fun b e => drp_ne fun z => ?_))⟩
      rcases e with e | e
      · exact f1 (z.symm.trans e)
      · exact f2 (z.symm.trans e)

/-! slices -/
theorem cut_to {α : Type} {xs : List α} {i : Nat} (h : i ≤ xs.length) : cutG xs none (some (i : Int)) = xs.take i := by
  show (xs.drop 0).take ((if (i : Int) < 0 then ((i : Int) + (xs.length : Int)).toNat else min (i : Int).toNat xs.length) - 0) = _
  rw [if_neg (show ¬ (i : Int) < 0 by omega), Int.toNat_natCast, Nat.min_eq_left h]; rfl
theorem cut_from {α : Type} {xs : List α} {i : Nat} (h : i ≤ xs.length) : cutG xs (some (i : Int)) none = xs.drop i := by
  show (xs.drop (if (i : Int) < 0 then ((i : Int) + (xs.length : Int)).toNat else min (i : Int).toNat xs.length)).take (xs.length - (if (i : Int) < 0 then ((i : Int) + (xs.length : Int)).toNat else min (i : Int).toNat xs.length)) = _
  rw [if_neg (show ¬ (i : Int) < 0 by omega), Int.toNat_natCast, Nat.min_eq_left h]
  exact List.take_of_length_le (by rw [List.length_drop]; exact Nat.le_refl _)

/-! names of letters -/
def sq_law_names : Sp3 := fun ws S Q _ => ∃ (dl d1 : Addr) (k : Int), ws = [.r dl, .int k] ∧ 0 ≤ k ∧ k ≤ 12 ∧ Deal S dl d1 ∧ ∀ (zs : List Str) S', zs.length = k.toNat → zs.Nodup → (∀ x ∈ zs, Fine 0 8 (.str x)) → Upto [dl, d1] S S' → Deal S' dl d1 → Q (.lst (zs.map PyData.str)) S'
def sp_law_names : Sp3 := fun ws S Q E => Bx (sq_law_names ws S Q E)
theorem len_law_names : ∀ ws S Q E, sp_law_names ws S Q E → ws.length = 2 := fun ws S Q E ⟨dl, d1, k, e, _⟩ => by rw [e]; rfl
def rt_law_names_0 : TS3 := (tSeq3 (tSet3 4 (tLcD3 (tRgI1 (tCons3 (tOp3 gAdd (tC3 (.int 1)) (tCall3 sp_law_any (tCons3 (tVar3 0) (tCons3 (tC3 (.int 7)) tNil3)))) tNil3)) (gName3 3) tYes3 (tCall3 sp_law_of (tCons3 (tVar3 0) (tCons3 (tVar3 2) tNil3))) [3])) (tSeq3 (tSet3 5 (tCall3 sp_law_any (tCons3 (tVar3 0) (tCons3 (tOp3 gAdd (tCB3 gLen (tCons3 (tVar3 4) tNil3)) (tC3 (.int 1))) tNil3)))) (tRet3 (tCB3 gSortV (tCons3 (tLcTD3 (tVar3 6) (gName3 8) tYes3 (tOp3 gAddS (tOp3 gAddS (tSM3 gJoin (tC3 (.str "")) (tSl3 gSlL (tVar3 4) tNoP3 (tPart3 (tVar3 5)))) (tVar3 8)) (tSM3 gJoin (tC3 (.str "")) (tSl3 gSlL (tVar3 4) (tPart3 (tVar3 5)) tNoP3))) [8]) tNil3)))))
def rb_law_names_1 : TS3 := (tDrop3 (tBM3 gAppend (tVar3 6) (tCons3 (tBM3 gPopAt (tVar3 7) (tCons3 (tCall3 sp_law_any (tCons3 (tVar3 0) (tCons3 (tCB3 gLen (tCons3 (tVar3 7) tNil3)) tNil3))) tNil3)) tNil3)))
def rt_law_names_2 : TS3 := (tSeq3 (tPar3 6 7 (tCons3 (tLstM3 tNil3) (tCons3 (tCB3 gListTM (tCons3 (tVar3 2) tNil3)) tNil3))) (tSeq3 (tFor3 (tRgI1 (tCons3 (tVar3 1) tNil3)) (gName3 3) rb_law_names_1) (tSeq3 (tIf3 (tB3 (tOp3 gEq (tCall3 sp_law_any (tCons3 (tVar3 0) (tCons3 (tC3 (.int 2)) tNil3))) (tC3 (.int 0)))) (tRet3 (tCB3 gSortV (tCons3 (tVar3 6) tNil3))) tNext3) rt_law_names_0)))
def rd_law_names : TS3 := (tSeq3 (tSet3 2 (tC3 (.str "abcdefghijklmnopqrstuvwxyz"))) rt_law_names_2)
theorem ok_strs (L : List Str) : SrtOk (L.map PyData.str) := by
  refine ⟨fun d hd e he => ?_, .inl (.inr fun d hd => ?_)⟩
  · obtain ⟨a, _, rfl⟩ := List.mem_map.mp hd
    obtain ⟨b, _, rfl⟩ := List.mem_map.mp he
    simp [PySem.W.alike]
  · obtain ⟨a, _, rfl⟩ := List.mem_map.mp hd
    exact ⟨fun z => (nomatch z), fun xs z => (nomatch z)⟩
def abc : Str := "abcdefghijklmnopqrstuvwxyz"
def ltrs : List Str := sgs abc
theorem ltrs_len : ltrs.length = 26 := by decide +kernel
theorem ltrs_nd : ltrs.Nodup := by decide +kernel
def letB (x : Str) : Bool := decide (x.length = 1) && x.cps.toList.all fun c => decide (c < 0x110000)
theorem ltrs_ok : ∀ x ∈ ltrs, letB x = true := by decide +kernel
/-- a text of so many good signs -/
def TxtOk (n : Nat) (x : Str) : Prop := (TL.tl x).length = n ∧ ∀ c ∈ TL.tl x, c < 0x110000
theorem let_ok {x : Str} (h : x ∈ ltrs) : TxtOk 1 x := by
  have z := ltrs_ok x h
  unfold letB at z
  rw [Bool.and_eq_true, decide_eq_true_eq, List.all_eq_true] at z
  exact ⟨by rw [← TL.len_tl]; exact z.1, fun c hc => of_decide_eq_true (z.2 c hc)⟩
theorem TxtOk.app {n m : Nat} {x y : Str} (h : TxtOk n x) (g : TxtOk m y) : TxtOk (n + m) (x ++ y) := by
  refine ⟨by rw [TL.tl_append, List.length_append, h.1, g.1], fun c hc => ?_⟩
  rw [TL.tl_append] at hc
  exact (List.mem_append.mp hc).elim (h.2 c) (g.2 c)
theorem TxtOk.len {n : Nat} {x : Str} (h : TxtOk n x) : x.length = n := by rw [TL.len_tl]; exact h.1
theorem TxtOk.fine {n : Nat} {x : Str} (h : TxtOk n x) (hn : n ≤ 8) : Fine 0 8 (.str x) := by
  refine ⟨?_, Nat.le_refl _, rfl, rfl, ?_⟩
  · show x.cps.all (fun c => decide (c < 0x110000)) = true
    rw [← Array.all_toList, List.all_eq_true]; exact fun c hc => decide_eq_true (h.2 c hc)
  · show x.length ≤ 8
    rw [h.len]; exact hn
theorem joinL_nil : ∀ ps : List (List Nat), TL.joinL [] ps = ps.flatten
  | [] => rfl
  | [p] => by simp [TL.joinL]
  | p :: q :: r => by
    show p ++ ([] ++ TL.joinL [] (q :: r)) = _
    rw [joinL_nil (q :: r)]; rfl
theorem tl_glue (ys : List Str) : TL.tl (Txt.join "" ys) = (ys.map TL.tl).flatten := by
  rw [show Txt.join "" ys = Str.join "" ys from TL.join_eq _ _, TL.tl_join, ← joinL_nil]; rfl
theorem glue_ok : ∀ {ys : List Str}, (∀ x ∈ ys, x ∈ ltrs) → TxtOk ys.length (Txt.join "" ys)
  | [], _ => ⟨rfl, fun c hc => nomatch hc⟩
  | y :: ys, h => by
    have h1 := let_ok (h y List.mem_cons_self)
    have h2 := glue_ok (ys := ys) fun x hx => h x (List.mem_cons_of_mem _ hx)
    have e : TL.tl (Txt.join "" (y :: ys)) = TL.tl (y ++ Txt.join "" ys) := by rw [TL.tl_append, tl_glue, tl_glue]; rfl
    have z := h1.app h2
    unfold TxtOk at z ⊢
    rw [e, List.length_cons, Nat.add_comm]
    exact z
theorem sum_ones : ∀ {ys : List Str}, (∀ x ∈ ys, x ∈ ltrs) → (ys.map (·.length)).sum = ys.length
  | [], _ => rfl
  | y :: ys, h => by
    rw [List.map_cons, List.sum_cons, sum_ones fun x hx => h x (List.mem_cons_of_mem _ hx), (let_ok (h y List.mem_cons_self)).len, List.length_cons, Nat.add_comm]
theorem glue_inj {a b x y : Str} (h : (a ++ x) ++ b = (a ++ y) ++ b) : x = y := by
  have e := congrArg TL.tl h
  rw [TL.tl_append, TL.tl_append, TL.tl_append, TL.tl_append] at e
  exact TL.ext_tl (List.append_cancel_left (List.append_cancel_right e))
theorem law_of_str {dl d1 : Addr} {z : Str} {S : Sto} {Q : K3} {E : X3} (hD : Deal S dl d1) (h0 : 0 < z.length) (hz : z.length ≤ 1000) (q : ∀ x ∈ sgs z, ∀ S', Upto [dl, d1] S S' → Deal S' dl d1 → Q (.str x) S') : sp_law_of [.r dl, .str z] S Q E := by
  have es := sizeLine_eq
  refine ⟨dl, d1, .str z, z.length, rfl, if_pos (by omega), h0, ?_, hD, fun i S' i0 i1 u hD' => ?_⟩
  · exact Nat.lt_of_le_of_lt (Nat.log2_le_self _) (by omega)
  · have hi : i.toNat < z.cps.toList.length := by rw [Array.length_toList]; show _ < z.length; omega
    refine ⟨.str ⟨#[z.cps.toList[i.toNat]]⟩, ?_, q _ (List.mem_map_of_mem (List.getElem_mem hi)) S' u hD'⟩
    show (if z.length ≤ sizeLine then (atI z.cps.toList i).map fun c => W.str ⟨#[c]⟩ else none) = _
    rw [if_pos (by omega)]
    have := H3.atI_nat (i := i.toNat) (List.getElem?_eq_getElem hi)
    rw [show ((i.toNat : Nat) : Int) = i by omega] at this
    rw [this]; rfl
theorem len_ls {S : Sto} {ds : List PyData} : lenW S (.lst ds) = some ds.length := by
  show some (ds.map W.d).length = _
  rw [List.length_map]
theorem srt_strs {ys : List Str} {k : Nat} {u : W} {S : Sto} {Q : K3} (hu : itemsW S u = some (ys.map PyData.str)) (hl : ys.length = k) (hk : k ≤ 1000) (nd : ys.Nodup) (ok : ∀ x ∈ ys, Fine 0 8 (.str x)) (q : ∀ zs : List Str, zs.length = k → zs.Nodup → (∀ x ∈ zs, Fine 0 8 (.str x)) → Q (.lst (zs.map PyData.str)) S) : gSortV [u] S Q := by
  have es := sizeLine_eq
  refine ⟨u, ys.map PyData.str, rfl, hu, ok_strs ys, by rw [List.length_map]; omega, fun d hd => ?_, ?_⟩
  · obtain ⟨a, _, rfl⟩ := List.mem_map.mp hd
    exact Nat.zero_le _
  · rw [sort_map]
    have pm2 := List.mergeSort_perm ys (PySem.W.dataLe false fun b : Str => id (PyData.str b))
    exact q _ (by rw [pm2.length_eq, hl]) (pm2.nodup_iff.mpr nd) fun x h => ok x (pm2.mem_iff.mp h)
theorem sem_law_names : ∀ ws S Q E, sp_law_names ws S Q E → rd_law_names (DQ Q) (start3 9 ws E) S := fun ws S Q E ⟨dl, d1, k, e, k0, k12, hD, hQ⟩ => by
  subst e
  have es := sizeLine_eq
  refine ⟨(show 0 ≤ 1000 by decide), fun f hf => ⟨_, rfl, abc, rfl, by decide +kernel, fun p hp => ⟨_, _, rfl, _, rfl, k, rfl, ⟨by omega, by omega⟩, ?_⟩⟩⟩
  have hf : S f = none := hf
  have pf : p ≠ f := fun z => by rw [z, put_same] at hp; cases hp
  have hp : S p = none := by rw [put_ne pf] at hp; exact hp
  obtain ⟨f1, f2⟩ := hD.free hf
  obtain ⟨p1, p2⟩ := hD.free hp
  refine forGo_inv (fun i τ S' => (∃ w3, τ.sl = [some (.r dl), some (.int k), some (.str abc), w3, none, none, some (.r f), some (.r p), none]) ∧ Deal S' dl d1 ∧ Kp [dl, d1] S S' ∧ ∃ us ys : List Str, S' p = some (.lst (us.map W.str)) ∧ S' f = some (.lst (ys.map W.str)) ∧ ys.length = i ∧ (ys ++ us).Perm ltrs) ?_ ?_ ?_
  · exact ⟨⟨_, rfl⟩, (hD.other f1 f2).other p1 p2, ((Kp.refl).wr hf).wr hp, ltrs, [], put_same, by rw [put_ne pf.symm, put_same]; rfl, rfl, .refl _⟩
  · rintro i w ⟨sl, ex⟩ S2 hw ⟨⟨w3, e⟩, hD2, k2, us, ys, e1, e2, l4, pm⟩
    subst e
    obtain ⟨hi, rfl⟩ := rgW_at hw
    have hls : i + us.length = 26 := by
      have := pm.length_eq
      rw [List.length_append, ltrs_len] at this
      omega
    refine ⟨_, rfl, isLst_r e2, _, rfl, isLst_r e1, _, rfl, _, rfl, _, _, rfl, lenW_r e1, law_any_lt hD2 (by rw [List.length_map]; omega) (by rw [List.length_map]; omega) fun j S3 j0 j1 u3 hD3 => ?_⟩
    have e1' : S3 p = some (.lst (us.map W.str)) := by rw [u3 p (by simp [p1, p2])]; exact e1
    have e2' : S3 f = some (.lst (ys.map W.str)) := by rw [u3 f (by simp [f1, f2])]; exact e2
    rw [List.length_map] at j1
    have hj : j.toNat < us.length := by omega
    refine ⟨p, _, j.toNat, .str us[j.toNat], rfl, by rw [show ((j.toNat : Nat) : Int) = j by omega], e1', by rw [List.getElem?_map, List.getElem?_eq_getElem hj]; rfl, by omega, f, ys.map W.str, _, rfl, rfl, by rw [put_ne pf.symm]; exact e2', ?_, ⟨_, rfl⟩, (hD3.other p1 p2).other f1 f2, ((k2.trans u3.kp).wr hp).wr hf, us.eraseIdx j.toNat, ys ++ [us[j.toNat]], ?_, ?_, ?_, ?_⟩
    · rw [List.length_map, l4]; omega
    · rw [put_ne pf, put_same, eraseIdx_map']
    · rw [put_same, List.map_append]; rfl
    · rw [List.length_append, List.length_singleton, l4]
    · rw [List.append_assoc]
      exact (List.Perm.append_left ys (perm_erase hj)).trans pm
  · rintro ⟨sl, ex⟩ S2 ⟨⟨w3, e⟩, hD2, k2, us, ys, e1, e2, l4, pm⟩
    subst e
    rw [rgW_len] at l4
    have nd : ys.Nodup := (List.nodup_append.mp (pm.symm.nodup ltrs_nd)).1
    have okY : ∀ x ∈ ys, x ∈ ltrs := fun x h => pm.mem_iff.mp (List.mem_append_left _ h)
    refine ⟨_, rfl, law_any_lt hD2 (by decide) (by decide) fun r S3 _ _ u3 hD3 => .inr ⟨_, _, rfl, rfl, rfl, rfl, _, rfl, fun _ => ?_, fun _ => ?_⟩⟩
    · have e2' : S3 f = some (.lst (ys.map W.str)) := by rw [u3 f (by simp [f1, f2])]; exact e2
      have k3 := k2.trans u3.kp
      exact ⟨_, rfl, srt_strs (itemsW_r (by rw [e2', List.map_map]; rfl)) l4 (by omega) nd (fun x h => (let_ok (okY x h)).fine (by decide)) fun zs z1 z2 z3 => ⟨two dl d1 S S3, two_sub k3, hQ zs _ z1 z2 z3 two_upto (two_deal hD3)⟩⟩
    · refine ⟨_, rfl, law_any_lt hD3 (by decide) (by decide) fun r S4 r0 r1 u4 hD4 => ⟨_, _, rfl, rfl, 1 + r, rfl, ⟨by omega, by omega⟩, by rw [rgW_len]; omega, ?_⟩⟩
      refine drawn PyData.str (fun x => x ∈ ltrs) hD4 (fun w S5 K u5 hD5 hK => ⟨_, rfl, _, rfl, law_of_str hD5 (by decide +kernel) (by decide +kernel) fun x hx S6 u6 hD6 => hK x S6 hx u6 hD6⟩) fun bs S5 bl bok u5 hD5 => ⟨bs.map PyData.str, by rw [List.map_map]; rfl, ?_⟩
      refine ⟨_, rfl, _, rfl, _, _, rfl, len_ls, _, _, rfl, rfl, law_any_lt hD5 (by omega) (by rw [List.length_map]; omega) fun j S6 j0 j1 u6 hD6 => ?_⟩
      rw [List.length_map] at j1
      obtain ⟨jn, rfl⟩ := Int.eq_ofNat_of_zero_le j0
      have jl : jn ≤ bs.length := by omega
      have b7 : bs.length ≤ 7 := by omega
      have u36 := ((u3.trans u4).trans u5).trans u6
      have e2' : S6 f = some (.lst (ys.map W.str)) := by rw [u36 f (by simp [f1, f2])]; exact e2
      have k6 := k2.trans u36.kp
      have tk : ∀ x ∈ bs.take jn, x ∈ ltrs := fun x h => bok x (List.mem_of_mem_take h)
      have dk : ∀ x ∈ bs.drop jn, x ∈ ltrs := fun x h => bok x (List.mem_of_mem_drop h)
      have g1 := glue_ok tk
      have g2 := glue_ok dk
      have full : ∀ x ∈ ltrs, TxtOk ((bs.take jn).length + 1 + (bs.drop jn).length) ((Txt.join "" (bs.take jn) ++ x) ++ Txt.join "" (bs.drop jn)) := fun x hx => (g1.app (let_ok hx)).app g2
      have tot : (bs.take jn).length + 1 + (bs.drop jn).length ≤ 8 := by rw [List.length_take, List.length_drop]; omega
      refine ⟨_, rfl, f, _, rfl, e2', by rw [List.length_map]; omega, ?_⟩
      refine lcGo_mapG W.str (fun x => W.str ((Txt.join "" (bs.take jn) ++ x) ++ Txt.join "" (bs.drop jn))) (fun x hx A a => ?_) ?_
      · refine ⟨⟨_, rfl⟩, _, rfl, _, rfl, _, rfl, _, rfl, "", bs.take jn, _, rfl, rfl, ?_, ?_, _, rfl, _, _, rfl, rfl, ?_, ⟨_, rfl⟩, _, rfl, _, rfl, _, rfl, _, rfl, "", bs.drop jn, _, rfl, rfl, ?_, ?_, _, _, rfl, rfl, ?_, a⟩
        · show some (cutG (bs.map PyData.str) none (some (jn : Int))) = _
          rw [cutG_map, cut_to jl]
        · rw [sum_ones tk]; show _ + _ * 0 ≤ _; rw [List.length_take]; omega
        · rw [g1.len, (let_ok (okY x hx)).len, List.length_take]; omega
        · show some (cutG (bs.map PyData.str) (some (jn : Int)) none) = _
          rw [cutG_map, cut_from jl]
        · rw [sum_ones dk]; show _ + _ * 0 ≤ _; rw [List.length_drop]; omega
        · rw [(g1.app (let_ok (okY x hx))).len, g2.len]; omega
      · refine ⟨(ys.map fun x => (Txt.join "" (bs.take jn) ++ x) ++ Txt.join "" (bs.drop jn)).map PyData.str, by rw [List.nil_append, List.map_map, List.map_map]; rfl, ?_⟩
        have k7 : Kp [dl, d1] S (put (drp S6 f) f (.lst (ys.map W.str))) := (k6.drp hf).wr hf
        have hD7 : Deal (put (drp S6 f) f (.lst (ys.map W.str))) dl d1 := hD6.up' fun b e => by
          have bf : b ≠ f := fun z => by
            rcases e with e | e
            · exact f1 (z.symm.trans e)
            · exact f2 (z.symm.trans e)
          rw [put_ne bf, drp_ne bf]
        refine srt_strs rfl (by rw [List.length_map, l4]) (by omega) (nodup_map_on _ (fun x _ y _ z => glue_inj z) nd) (fun x hx => ?_) fun zs z1 z2 z3 => ⟨two dl d1 S _, two_sub k7, hQ zs _ z1 z2 z3 two_upto (two_deal hD7)⟩
        obtain ⟨v, hv, rfl⟩ := List.mem_map.mp hx
        exact (full v (okY v hv)).fine tot

/-! tests that say no -/
theorem same_str2 {a : Str} {p : Prop} (c : (!decide (a = a)) = true) : p := by simp at c
theorem ne_no {t1 t2 : TE3} {d : PyData} {k w : Nat} {τ : S3} {S S1 S2 : Sto} {Q : Bool → Sto → Prop} (f : Fine k w d) (h1 : ∀ K : K3, K (.d d) S1 → t1 τ S K) (h2 : ∀ K : K3, K (.d d) S2 → t2 τ S1 K) (q : Q false S2) (hk : k ≤ 64 := by decide) (hw : w ≤ 200000 := by decide) :
    tB3 (tOp3 gNe (tCB3 gRepr (tCons3 t1 tNil3)) (tCB3 gRepr (tCons3 t2 tNil3))) τ S Q := by
  refine h1 _ ⟨_, d, rfl, rfl, f.sho, PyData.hasDict_of_canLay d f.lay, Nat.le_trans f.dep hk, f.len hw, ?_⟩
  refine h2 _ ⟨_, d, rfl, rfl, f.sho, PyData.hasDict_of_canLay d f.lay, Nat.le_trans f.dep hk, f.len hw, .inl ⟨_, _, rfl, rfl, false, ?_, q⟩⟩
  rw [decide_eq_true rfl]; rfl
theorem or_no {t u : TT3} {τ : S3} {S S1 : Sto} {Q : Bool → Sto → Prop} (h : ∀ A : Bool → Sto → Prop, A false S1 → t τ S A) (k : u τ S1 Q) : tOr3 t u τ S Q := h _ ⟨fun z => (nomatch z), fun _ => k⟩
theorem if_no2 {c : TT3} {t u : TS3} {D : Ends3} {τ : S3} {S S1 : Sto} (h : ∀ A : Bool → Sto → Prop, A false S1 → c τ S A) (k : u D τ S1) : tIf3 c t u D τ S := h _ ⟨fun z => (nomatch z), fun _ => k⟩
theorem seq_no {c : TT3} {t u : TS3} {D : Ends3} {τ : S3} {S S1 : Sto} (h : ∀ A : Bool → Sto → Prop, A false S1 → c τ S A) (k : u D τ S1) : tSeq3 (tIf3 c t tNext3) u D τ S := h _ ⟨fun z => (nomatch z), fun _ => k⟩
theorem if_or {t u : TT3} {a e : TS3} {D : Ends3} {τ : S3} {S S1 : Sto} (h : ∀ A : Bool → Sto → Prop, A false S1 → t τ S A) (k : u τ S1 fun b S2 => (b = true → a D τ S2) ∧ (b = false → e D τ S2)) : tIf3 (tOr3 t u) a e D τ S := h _ ⟨fun z => (nomatch z), fun _ => k⟩
theorem seq_or {t u : TT3} {a e v : TS3} {D : Ends3} {τ : S3} {S S1 : Sto} (h : ∀ A : Bool → Sto → Prop, A false S1 → t τ S A) (k : u τ S1 fun b S2 => (b = true → a { D with nx := v D } τ S2) ∧ (b = false → e { D with nx := v D } τ S2)) : tSeq3 (tIf3 (tOr3 t u) a e) v D τ S := h _ ⟨fun z => (nomatch z), fun _ => k⟩
theorem in_nats {s : Nat} : ∀ l : List Nat, (((ci l).map PyData.int).any fun z => PyData.eqv z (.int (s : Nat))) = decide (s ∈ l)
  | [] => by simp [ci]
  | y :: l => by
    show (PyData.eqv (.int (y : Nat)) (.int (s : Nat)) || ((ci l).map PyData.int).any fun z => PyData.eqv z (.int (s : Nat))) = _
    rw [in_nats l, eqv_int, ← Bool.decide_or]
    exact decide_eq_decide.mpr (by rw [List.mem_cons]; exact or_congr ⟨fun z => (by omega), fun z => (by omega)⟩ Iff.rfl)
theorem filter_one {K x : Nat} (h : x < K) : (List.range K).filter (fun v => decide (v = x)) = [x] := by
  induction K with
  | zero => omega
  | succ K ih =>
    rw [List.range_succ, List.filter_append]
    rcases Nat.lt_succ_iff_lt_or_eq.mp h with z | z
    · rw [ih z]
      have : ¬ K = x := by omega
      simp [this]
    · subst z
      have : (List.range x).filter (fun v => decide (v = x)) = [] := List.filter_eq_nil_iff.mpr fun v hv => by have := List.mem_range.mp hv; simp; omega
      rw [this]; simp

/-! kinds of data -/
def kI : PyData → Bool | .int _ => true | .bool _ => true | _ => false
def kB : PyData → Bool | .bool _ => true | _ => false
def kS : PyData → Bool | .str _ => true | _ => false
def kT : PyData → Bool | .tuple _ => true | _ => false
theorem isi_all {d : PyData} (h : d.canLay0 = true) : isiB d "int" = some (kI d) ∧ isiB d "bool" = some (kB d) ∧ isiB d "str" = some (kS d) ∧ isiB d "tuple" = some (kT d) := by
  cases d with
  | none => exact ⟨show kitB "NoneType" "int" = some false by decide +kernel, show kitB "NoneType" "bool" = some false by decide +kernel, show kitB "NoneType" "str" = some false by decide +kernel, show kitB "NoneType" "tuple" = some false by decide +kernel⟩
  | bool b => exact ⟨show kitB "bool" "int" = some true by decide +kernel, show kitB "bool" "bool" = some true by decide +kernel, show kitB "bool" "str" = some false by decide +kernel, show kitB "bool" "tuple" = some false by decide +kernel⟩
  | int i => exact ⟨show kitB "int" "int" = some true by decide +kernel, show kitB "int" "bool" = some false by decide +kernel, show kitB "int" "str" = some false by decide +kernel, show kitB "int" "tuple" = some false by decide +kernel⟩
  | str x => exact ⟨show kitB "str" "int" = some false by decide +kernel, show kitB "str" "bool" = some false by decide +kernel, show kitB "str" "str" = some true by decide +kernel, show kitB "str" "tuple" = some false by decide +kernel⟩
  | list l => exact ⟨show kitB "list" "int" = some false by decide +kernel, show kitB "list" "bool" = some false by decide +kernel, show kitB "list" "str" = some false by decide +kernel, show kitB "list" "tuple" = some false by decide +kernel⟩
  | tuple l => exact ⟨show kitB "tuple" "int" = some false by decide +kernel, show kitB "tuple" "bool" = some false by decide +kernel, show kitB "tuple" "str" = some false by decide +kernel, show kitB "tuple" "tuple" = some true by decide +kernel⟩
  | dict l => exact (nomatch h)
theorem int_of {d : PyData} (h1 : kB d = false) (h2 : (!kI d) = false) : ∃ k, d = .int k := by
  cases d with
  | int k => exact ⟨k, rfl⟩
  | bool b => cases h1
  | _ => cases h2
/-- a tuple of so many -/
def tupN (n : Int) : PyData → Bool | .tuple ds => decide ((ds.length : Int) = n) | _ => false
def sq_is_tuple_of : Sp3 := fun ws S Q _ => ∃ (d : PyData) (n : Int), ws = [.d d, .int n] ∧ d.canLay0 = true ∧ Q (.bl (tupN n d)) S
def sp_is_tuple_of : Sp3 := fun ws S Q E => Bx (sq_is_tuple_of ws S Q E)
theorem len_is_tuple_of : ∀ ws S Q E, sp_is_tuple_of ws S Q E → ws.length = 2 := fun ws S Q E ⟨d, n, e, _⟩ => by rw [e]; rfl
def rd_is_tuple_of : TS3 := (tRet3 (tAndV3 (tCB3 gIsi (tCons3 (tVar3 0) (tCons3 (tC3 (.ty "tuple")) tNil3))) (tOp3 gEq (tCB3 gLen (tCons3 (tVar3 0) tNil3)) (tVar3 1))))
theorem sem_is_tuple_of : ∀ ws S Q E, sp_is_tuple_of ws S Q E → rd_is_tuple_of (DQ Q) (start3 2 ws E) S := fun ws S Q E ⟨d, n, e, h, q⟩ => by
  subst e
  refine ⟨_, rfl, _, d, _, _, rfl, rfl, (isi_all h).2.2.2, _, rfl, fun c => ?_, fun c => ⟨_, Sub.refl _, ?_⟩⟩
  · cases d with
    | tuple ds =>
      refine ⟨_, rfl, _, _, rfl, len_tp, _, rfl, .inr ⟨_, _, rfl, rfl, rfl, rfl, _, Sub.refl _, ?_⟩⟩
      rw [eqv_int]; exact q
    | _ => cases c
  · have : tupN n d = false := by cases d <;> first | rfl | cases c
    rw [this] at q; exact q
theorem lcGo_filt {α : Type} {i : Nat} {tt : TT3} {te : TE3} {τ0 : S3} {S : Sto} {Q : List W → Sto → Prop} (g h : α → W) (p : α → Bool) : ∀ {xs : List α} {acc : List W}, (∀ x ∈ xs, ∀ A : Bool → Sto → Prop, A (p x) S → tt (τ0.set i (some (g x))) S A) → (∀ x ∈ xs, p x = true → ∀ A : K3, A (h x) S → te (τ0.set i (some (g x))) S A) →
    Q (acc ++ (xs.filter p).map h) S → lcGo (gName3 i) tt te τ0 (xs.map g) acc S Q
  | [], acc, _, _, q => by
    have q : Q (acc ++ []) S := q
    rw [List.append_nil] at q
    exact q
  | x :: xs, acc, ht, he, q => by
    refine ht x List.mem_cons_self _ ⟨fun c => he x List.mem_cons_self c _ (lcGo_filt g h p (fun y hy => ht y (List.mem_cons_of_mem _ hy)) (fun y hy => he y (List.mem_cons_of_mem _ hy)) ?_), fun c => lcGo_filt g h p (fun y hy => ht y (List.mem_cons_of_mem _ hy)) (fun y hy => he y (List.mem_cons_of_mem _ hy)) ?_⟩
    · rw [List.filter_cons, if_pos c, List.map_cons] at q
      rw [List.append_assoc]; exact q
    · rw [List.filter_cons, if_neg (by rw [c]; exact Bool.false_ne_true)] at q
      exact q
/-! is_uni, by the program and by the law -/
theorem isi_tup (ds : List PyData) : isiB (.tuple ds) "tuple" = some true := show kitB "tuple" "tuple" = _ by decide +kernel
theorem no_isi {i : Nat} {τ : S3} {S : Sto} {ds : List PyData} {A : Bool → Sto → Prop} (hi : τ.sl[i]? = some (some (.d (.tuple ds)))) (a : A false S) : tNot3 (tB3 (tCB3 gIsi (tCons3 (tVar3 i) (tCons3 (tC3 (.ty "tuple")) tNil3)))) τ S A := ⟨_, hi, _, .tuple ds, _, true, rfl, rfl, isi_tup ds, _, rfl, a⟩
def sq_is_uni : Sp3 := fun ws S Q _ => ∃ (n : Nat) (A : Mx), ws = [.d (umD n A)] ∧ 1 ≤ n ∧ n ≤ 4 ∧ Uni n A ∧ Q (.bl true) S
def sp_is_uni : Sp3 := fun ws S Q E => Bx (sq_is_uni ws S Q E)
theorem len_is_uni : ∀ ws S Q E, sp_is_uni ws S Q E → ws.length = 1 := fun ws S Q E ⟨⟨n, A, e, _⟩⟩ => by rw [e]; rfl
def rb_is_uni_0 : TS3 := (tSeq3 (tIf3 (tOr3 (tNot3 (tB3 (tCall3 sp_is_tuple_of (tCons3 (tVar3 2) (tCons3 (tCB3 gLen (tCons3 (tVar3 0) tNil3)) tNil3))))) (tNot3 (tB3 (tCB3 gAll (tCons3 (tLcD3 (tSeqI3 (tVar3 2)) (gName3 3) tYes3 (tCall3 sp_is_int (tCons3 (tVar3 3) tNil3)) [3]) tNil3))))) (tRet3 (tC3 (.bl false))) tNext3) (tIf3 (tOr3 (tB3 (tOp3 gNe (tOp3 gIx (tVar3 2) (tVar3 1)) (tC3 (.int 1)))) (tB3 (tCB3 gAny (tCons3 (tLcD3 (tSeqI3 (tSl3 gSlT (tVar3 2) tNoP3 (tPart3 (tVar3 1)))) (gName3 3) tYes3 (tOp3 gNe (tVar3 3) (tC3 (.int 0))) [3]) tNil3)))) (tRet3 (tC3 (.bl false))) tNext3))
def rd_is_uni : TS3 := (tSeq3 (tIf3 (tOr3 (tNot3 (tB3 (tCB3 gIsi (tCons3 (tVar3 0) (tCons3 (tC3 (.ty "tuple")) tNil3))))) (tNot3 (tB3 (tChain3 gLe gLe (tC3 (.int 1)) (tCB3 gLen (tCons3 (tVar3 0) tNil3)) (tC3 (.int 4)))))) (tRet3 (tC3 (.bl false))) tNext3) (tSeq3 (tFor3 (tEnI3 (tCons3 (tVar3 0) tNil3)) (gTup3 2 (gCons3 (gName3 1) (gCons3 (gName3 2) gNil3))) rb_is_uni_0) (tRet3 (tC3 (.bl true)))))
theorem lay_vec (n : Nat) (v : Nat → Int) : (lt (vec n v)).canLay0 = true := lay_ints _
theorem all_true {α : Type} (l : List α) : (l.map fun _ => true).all id = true := by
  induction l with
  | nil => rfl
  | cons x l ih => rw [List.map_cons, List.all_cons, ih]; rfl
theorem any_false {α : Type} (l : List α) : (l.map fun _ => false).any id = false := by
  induction l with
  | nil => rfl
  | cons x l ih => rw [List.map_cons, List.any_cons, ih]; rfl
theorem low_cut {n i : Nat} {A : Mx} (un : Uni n A) (hi : i < n) : ∀ d ∈ cutG ((vec n (A i)).map PyData.int) none (some (i : Int)), d = .int 0 := fun d hd => by
  rw [cut_to (by rw [List.length_map, vec_len]; omega)] at hd
  obtain ⟨k, hk, e⟩ := List.getElem_of_mem hd
  have lk : k < i := by rw [List.length_take] at hk; omega
  have z : d = .int (A i k) := by
    have := vec_at (show k < n by omega) (A i)
    rw [← e, List.getElem_take]
    exact Option.some.inj ((List.getElem?_eq_getElem _).symm.trans this)
  rw [z, un.lo i k hi lk]
theorem sem_is_uni : ∀ ws S Q E, sp_is_uni ws S Q E → rd_is_uni (DQ Q) (start3 4 ws E) S := fun ws S Q E ⟨⟨n, A, e, n1, n4, un, q⟩⟩ => by
  subst e
  refine seq_or (S1 := S) (fun Z a => no_isi rfl a) ⟨_, rfl, _, n, rfl, len_um, _, _, rfl, rfl, _, rfl, fun c => ⟨_, _, rfl, rfl, _, rfl, ?_⟩, fun c => absurd (of_decide_eq_false c) (by omega)⟩
  rw [decide_eq_true (show ((n : Nat) : Int) ≤ 4 by omega)]
  refine ⟨fun z => (nomatch z), fun _ => ?_⟩
  refine ⟨_, rfl, _, rfl, ?_⟩
  refine forGo_inv (fun i τ S' => S' = S ∧ ∃ v1 v2 v3, τ = ⟨[some (.d (umD n A)), v1, v2, v3], (start3 4 [.d (umD n A)] E).ex⟩) ⟨rfl, _, _, _, rfl⟩ ?_ ?_
  · rintro i w τ S' hw ⟨rfl, v1, v2, v3, rfl⟩
    have hi : i < n := by
      have := (List.getElem?_eq_some_iff.mp hw).1
      rw [enL_len, List.length_map, List.length_range] at this
      exact this
    rw [enL_get (um_at hi A)] at hw
    cases hw
    have tn : tupN ((n : Nat) : Int) (lt (vec n (A i))) = true := decide_eq_true (by rw [List.length_map, vec_len])
    refine ⟨[.int (i : Nat), lt (vec n (A i))], rfl, rfl, _, _, rfl, _, _, rfl, rfl, ?_⟩
    refine seq_or (S1 := S') (fun Z a => ⟨_, rfl, _, rfl, _, n, rfl, len_um, ⟨⟨lt (vec n (A i)), (n : Nat), rfl, lay_vec _ _, _, rfl, by rw [tn]; exact a⟩⟩⟩) ⟨_, rfl, (vec n (A i)).map PyData.int, .inr rfl, by rw [List.length_map, List.length_map, vec_len]; omega, ?_⟩
    rw [List.map_map (g := W.d)]
    refine lcGo_mapG (W.d ∘ PyData.int) (fun _ => W.bl true) (fun k _ Z a => ⟨_, rfl, ⟨⟨.int k, rfl, rfl, a⟩⟩⟩) ?_
    refine ⟨(vec n (A i)).map fun _ => PyData.bool true, by rw [List.nil_append, List.map_map]; rfl, (vec n (A i)).map fun _ => true, by rw [List.map_map]; rfl, _, rfl, ?_⟩
    rw [all_true]
    refine ⟨fun z => (nomatch z), fun _ => ?_⟩
    unfold tNext3
    dsimp only
    refine if_or (S1 := S') (fun Z a => ⟨_, rfl, _, rfl, _, _, rfl, ix_vec hi (A i), .inr ⟨_, _, rfl, rfl, rfl, rfl, _, rfl, by rw [eqv_int, un.dg i hi]; exact a⟩⟩) ⟨_, rfl, _, rfl, _, rfl, (vec n (A i)).map PyData.int, rfl, _, .inr rfl, ?_, ?_⟩
    · rw [List.length_map, cut_to (by rw [List.length_map, vec_len]; omega), List.length_take]; omega
    refine lcGo_mapG W.d (fun _ => W.bl false) (fun d hd Z a => ?_) ?_
    · rw [low_cut un hi d hd]
      exact ⟨_, rfl, .inr ⟨_, _, rfl, rfl, rfl, rfl, by rw [eqv_int]; exact a⟩⟩
    · refine ⟨(cutG ((vec n (A i)).map PyData.int) none (some (i : Int))).map fun _ => PyData.bool false, by rw [List.nil_append, List.map_map]; rfl, (cutG ((vec n (A i)).map PyData.int) none (some (i : Int))).map fun _ => false, by rw [List.map_map]; rfl, _, rfl, ?_⟩
      rw [any_false]
      exact ⟨fun z => (nomatch z), fun _ => ⟨rfl, _, _, _, rfl⟩⟩
  · rintro τ S' ⟨rfl, v1, v2, v3, rfl⟩
    exact ⟨_, Sub.refl _, q⟩
def sq_law_is_int : Sp3 := fun ws S Q _ => ∃ d, ws = [.d d] ∧ flatD d = true ∧ Q (.bl (isI d)) S
def sp_law_is_int : Sp3 := fun ws S Q E => Bx (sq_law_is_int ws S Q E)
theorem len_law_is_int : ∀ ws S Q E, sp_law_is_int ws S Q E → ws.length = 1 := fun ws S Q E ⟨⟨d, e, _⟩⟩ => by rw [e]; rfl
def rd_law_is_int : TS3 := (tRet3 (tAndV3 (tCB3 gIsi (tCons3 (tVar3 0) (tCons3 (tC3 (.ty "int")) tNil3))) (tNotV3 (tCB3 gIsi (tCons3 (tVar3 0) (tCons3 (tC3 (.ty "bool")) tNil3))))))
theorem sem_law_is_int : ∀ ws S Q E, sp_law_is_int ws S Q E → rd_law_is_int (DQ Q) (start3 1 ws E) S := fun ws S Q E ⟨⟨d, e, h, q⟩⟩ => sem_is_int ws S Q E ⟨⟨d, e, h, q⟩⟩
def sq_law_is_uni : Sp3 := fun ws S Q _ => ∃ (n : Nat) (A : Mx), ws = [.d (umD n A)] ∧ 1 ≤ n ∧ n ≤ 4 ∧ Uni n A ∧ Q (.bl true) S
def sp_law_is_uni : Sp3 := fun ws S Q E => Bx (sq_law_is_uni ws S Q E)
theorem len_law_is_uni : ∀ ws S Q E, sp_law_is_uni ws S Q E → ws.length = 1 := fun ws S Q E ⟨⟨n, A, e, _⟩⟩ => by rw [e]; rfl
def rb_law_is_uni_0 : TS3 := (tSeq3 (tSet3 2 (tOp3 gIx (tVar3 0) (tVar3 1))) (tSeq3 (tIf3 (tOr3 (tNot3 (tB3 (tCB3 gIsi (tCons3 (tVar3 2) (tCons3 (tC3 (.ty "tuple")) tNil3))))) (tOr3 (tB3 (tOp3 gNe (tCB3 gLen (tCons3 (tVar3 2) tNil3)) (tCB3 gLen (tCons3 (tVar3 0) tNil3)))) (tB3 (tOp3 gNe (tLcD3 (tSeqI3 (tVar3 2)) (gName3 3) (tNot3 (tB3 (tCall3 sp_law_is_int (tCons3 (tVar3 3) tNil3)))) (tVar3 3) [3]) (tLstD3 tNil3))))) (tRet3 (tC3 (.bl false))) tNext3) (tIf3 (tB3 (tOp3 gNe (tCB3 gListD (tCons3 (tSl3 gSlT (tVar3 2) tNoP3 (tPart3 (tOp3 gAdd (tVar3 1) (tC3 (.int 1))))) tNil3)) (tOp3 gCatM (tOp3 gRepM (tLstM3 (tCons3 (tC3 (.int 0)) tNil3)) (tVar3 1)) (tLstM3 (tCons3 (tC3 (.int 1)) tNil3))))) (tRet3 (tC3 (.bl false))) tNext3)))
def rd_law_is_uni : TS3 := (tSeq3 (tIf3 (tOr3 (tNot3 (tB3 (tCB3 gIsi (tCons3 (tVar3 0) (tCons3 (tC3 (.ty "tuple")) tNil3))))) (tB3 (tNotInRg3 (tCB3 gLen (tCons3 (tVar3 0) tNil3)) (tCons3 (tC3 (.int 1)) (tCons3 (tC3 (.int 5)) tNil3))))) (tRet3 (tC3 (.bl false))) tNext3) (tSeq3 (tFor3 (tRgI1 (tCons3 (tCB3 gLen (tCons3 (tVar3 0) tNil3)) tNil3)) (gName3 1) rb_law_is_uni_0) (tRet3 (tC3 (.bl true)))))
theorem dg_cut {n i : Nat} {A : Mx} (un : Uni n A) (hi : i < n) : cutG ((vec n (A i)).map PyData.int) none (some ((i : Int) + 1)) = (List.replicate i (0 : Int) ++ [1]).map PyData.int := by
  rw [show ((i : Nat) : Int) + 1 = ((i + 1 : Nat) : Int) by omega, cut_to (by rw [List.length_map, vec_len]; omega), ← List.map_take]
  refine congrArg _ (List.ext_getElem? fun k => ?_)
  rw [List.getElem?_take]
  unfold vec
  by_cases hk : k < i + 1
  · rw [if_pos hk, List.getElem?_map, List.getElem?_range (by omega)]
    show some (A i k) = _
    by_cases z : k = i
    · rw [z, un.dg i hi, List.getElem?_append_right (by rw [List.length_replicate]; omega), List.length_replicate, Nat.sub_self]; rfl
    · rw [un.lo i k hi (by omega), List.getElem?_append_left (by rw [List.length_replicate]; omega), List.getElem?_replicate, if_pos (by omega)]
  · rw [if_neg hk, List.getElem?_eq_none (by rw [List.length_append, List.length_replicate]; show i + 1 ≤ k; omega)]
theorem eqv_ints_self (L : List Int) : PyData.eqv (.list (L.map PyData.int)) (.list (L.map PyData.int)) = true := by
  have : ∀ l : List Int, PyData.eqvAll (l.map PyData.int) (l.map PyData.int) = true := fun l => by
    induction l with
    | nil => rfl
    | cons x l ih =>
      show (PyData.eqv (.int x) (.int x) && PyData.eqvAll (l.map PyData.int) (l.map PyData.int)) = true
      rw [ih, eqv_int, decide_eq_true rfl]; rfl
  exact this L
theorem sem_law_is_uni : ∀ ws S Q E, sp_law_is_uni ws S Q E → rd_law_is_uni (DQ Q) (start3 4 ws E) S := fun ws S Q E ⟨⟨n, A, e, n1, n4, un, q⟩⟩ => by
  subst e
  refine seq_or (S1 := S) (fun Z a => no_isi rfl a) ⟨_, rfl, _, n, rfl, len_um, _, _, _, rfl, rfl, _, rfl, ?_⟩
  rw [decide_eq_true (show (1 : Int) ≤ ((n : Nat) : Int) ∧ ((n : Nat) : Int) < 5 by omega)]
  refine ⟨fun z => (nomatch z), fun _ => ?_⟩
  refine ⟨_, rfl, _, n, rfl, len_um, (n : Int), rfl, ⟨by omega, by omega⟩, ?_⟩
  rw [rgW_nat]
  refine forGo_inv (fun i τ S' => Sub S S' ∧ ∃ v1 v2 v3, τ = ⟨[some (.d (umD n A)), v1, v2, v3], (start3 4 [.d (umD n A)] E).ex⟩) ⟨Sub.refl _, _, _, _, rfl⟩ ?_ ?_
  · rintro i w τ S' hw ⟨s1, v1, v2, v3, rfl⟩
    obtain ⟨k, hk, rfl⟩ := get_map hw
    obtain ⟨hi, e⟩ := List.getElem?_eq_some_iff.mp hk
    rw [List.length_range] at hi
    rw [List.getElem_range] at e
    subst e
    refine ⟨_, rfl, _, rfl, _, _, rfl, ix_um hi A, ?_⟩
    refine seq_or (S1 := S') (fun Z a => no_isi rfl a) ?_
    refine ⟨_, rfl, _, n, rfl, len_tp.trans (by rw [List.length_map, vec_len]), _, rfl, _, n, rfl, len_um, .inr ⟨_, _, rfl, rfl, rfl, rfl, _, rfl, ?_⟩⟩
    rw [eqv_int, decide_eq_true rfl]
    refine ⟨fun z => (nomatch z), fun _ => ⟨_, rfl, (vec n (A i)).map PyData.int, .inr rfl, by rw [List.length_map, List.length_map, vec_len]; omega, ?_⟩⟩
    rw [List.map_map (g := W.d)]
    refine lcGo_filt (W.d ∘ PyData.int) (fun k => W.int k) (fun _ => false) (fun k _ Z a => ⟨_, rfl, ⟨⟨.int k, rfl, rfl, _, rfl, a⟩⟩⟩) (fun k _ z => (nomatch z)) ?_
    rw [show (vec n (A i)).filter (fun _ => false) = [] from List.filter_eq_nil_iff.mpr fun _ _ z => by cases z]
    refine ⟨[], rfl, [], rfl, by decide, .inr ⟨_, _, rfl, rfl, rfl, rfl, _, rfl, fun z => (nomatch z), fun _ => ?_⟩⟩
    refine ⟨_, rfl, _, rfl, _, _, rfl, rfl, _, rfl, (vec n (A i)).map PyData.int, rfl, _, _, rfl, rfl, ?_⟩
    refine mk_cat (xs := List.replicate i 0) (ys := [1]) (by rw [List.length_replicate]; show i + 1 ≤ _; omega) (mk_rep (k := i) (by omega) mk_one fun S' A a => ⟨_, rfl, a⟩) mk_one S' _ fun l S2 s2 nl h2 => .inr ⟨.list ((List.replicate i (0 : Int) ++ [1]).map PyData.int), .list ((List.replicate i (0 : Int) ++ [1]).map PyData.int), ?_, ?_, ?_, ?_, _, rfl, ?_⟩
    · show some (PyData.list _) = _
      rw [dg_cut un hi]
    · exact view_lst (by rw [h2, List.map_map]; rfl)
    · exact shaped_intsL _
    · exact shaped_intsL _
    · rw [eqv_ints_self]
      exact ⟨fun z => (nomatch z), fun _ => ⟨s1.trans s2, _, _, _, rfl⟩⟩
  · rintro τ S' ⟨s1, v1, v2, v3, rfl⟩
    exact ⟨S, s1, q⟩

/-! the law: unis -/
def sq_law_counts : Sp3 := fun ws S Q _ => ∃ (dl d1 : Addr) (n : Nat), ws = [.r dl, .int (n : Nat)] ∧ n ≤ 4 ∧ Deal S dl d1 ∧ ∀ (D : List (Str × Mx)) S', DOk n D → D ≠ [] → D.length ≤ 12 → (∀ d ∈ D, Fine 0 8 (.str d.1)) → Upto [dl, d1] S S' → Deal S' dl d1 → Q (.d (.tuple (D.map (ddU n)))) S'
def sp_law_counts : Sp3 := fun ws S Q E => Bx (sq_law_counts ws S Q E)
theorem len_law_counts : ∀ ws S Q E, sp_law_counts ws S Q E → ws.length = 2 := fun ws S Q E ⟨⟨dl, d1, n, e, _⟩⟩ => by rw [e]; rfl
def rd_law_counts : TS3 := (tSeq3 (tSet3 2 (tCall3 sp_law_names (tCons3 (tVar3 0) (tCons3 (tOp3 gAdd (tC3 (.int 1)) (tCall3 sp_law_any (tCons3 (tVar3 0) (tCons3 (tC3 (.int 4)) tNil3)))) tNil3)))) (tRet3 (tCB3 gTuple (tCons3 (tLcD3 (tSeqI3 (tVar3 2)) (gName3 3) tYes3 (tTup3 (tCons3 (tVar3 3) (tCons3 (tCall3 sp_law_uni (tCons3 (tVar3 0) (tCons3 (tVar3 1) tNil3))) tNil3))) [3]) tNil3))))
theorem sem_law_counts : ∀ ws S Q E, sp_law_counts ws S Q E → rd_law_counts (DQ Q) (start3 4 ws E) S := fun ws S Q E ⟨⟨dl, d1, n, e, n4, hD, hQ⟩⟩ => by
  subst e
  refine ⟨_, rfl, _, rfl, law_any_nat (b := 4) hD (by decide) (by decide) fun r S1 hr u1 hD1 => ⟨_, _, rfl, rfl, ⟨dl, d1, 1 + (r : Nat), rfl, by omega, by omega, hD1, fun zs S2 hz nd fz u2 hD2 => ?_⟩⟩⟩
  refine ⟨_, rfl, zs.map PyData.str, .inl rfl, by rw [List.length_map, List.length_map]; omega, ?_⟩
  rw [List.map_map (g := W.d)]
  refine lcGo_run (fun i acc S' => Upto [dl, d1] S2 S' ∧ Deal S' dl d1 ∧ ∃ D : List (Str × Mx), acc = (D.map (ddU n)).map W.d ∧ D.map (·.1) = zs.take i ∧ ∀ d ∈ D, Uni n d.2 ∧ Wt n P12 d.2) ⟨Upto.refl, hD2, [], rfl, rfl, fun d hd => by cases hd⟩ ?_ ?_
  · rintro i w acc S3 K hw ⟨u3, hD3, D, rfl, eD, un⟩ hK
    obtain ⟨z, hz', rfl⟩ := get_map hw
    refine ⟨fun _ => ⟨_, rfl, _, rfl, _, rfl, ⟨⟨dl, d1, n, rfl, n4, hD3, fun A S4 uA wA u4 hD4 => ⟨[.str z, umD n A], rfl, (show 2 ≤ 1000 by decide), hK _ _ ⟨u3.trans u4, hD4, D ++ [(z, A)], ?_, ?_, fun d hd => ?_⟩⟩⟩⟩⟩, fun c => (nomatch c)⟩
    · rw [List.map_append, List.map_append]; rfl
    · rw [List.map_append, eD, List.take_add_one, hz']; rfl
    · rcases List.mem_append.mp hd with q | q
      · exact un d q
      · rw [List.mem_singleton.mp q]; exact ⟨uA, wA⟩
  · rintro acc S3 ⟨u3, hD3, D, rfl, eD, un⟩
    rw [List.length_map, List.take_length] at eD
    have lD : D.length = zs.length := by rw [← eD, List.length_map]
    refine ⟨D.map (ddU n), rfl, _, _, rfl, rfl, S3, Sub.refl _, hQ D S3 ⟨by rw [eD]; exact nd, un⟩ (fun z => by rw [z] at lD; rw [← lD] at hz; simp at hz; omega) (by omega) (fun d hd => fz _ (by rw [← eD]; exact List.mem_map_of_mem hd)) ((u1.trans u2).trans u3) hD3⟩
def sq_law (tb : Nat → Addr) : Sp3 := fun ws S Q _ => ∃ ns : List Int, ws = [.lst (ns.map PyData.int)] ∧ ns.length ≤ 63 ∧ ∀ S', Q (.bl true) S'
def sp_law (tb : Nat → Addr) : Sp3 := fun ws S Q E => Bx (sq_law tb ws S Q E)
theorem len_law (tb : Nat → Addr) : ∀ ws S Q E, sp_law tb ws S Q E → ws.length = 1 := fun ws S Q E ⟨d, e, _⟩ => by rw [e]; rfl
theorem law_start (tb : Nat → Addr) (S : Sto) (ns : List Int) (h : ns.length ≤ 63) (ht : ∀ i q, qsl[i]? = some q → S (tb i) = some (.tb q)) : sp_law tb [.lst (ns.map PyData.int)] S (fun w _ => w = .bl true) X0 := ⟨ns, rfl, h, fun _ => rfl⟩
def rt_law_0 (tb : Nat → Addr) : TS3 := (tIf3 (tOr3 (tB3 (tOp3 (gEqO (tb 0) (sp_Counting_eq tb)) (tVar3 14) (tVar3 12))) (tB3 (tOp3 gNe (tCB3 gRepr (tCons3 (tFld3 (tb 0) "deeds" (tVar3 14)) tNil3)) (tCB3 gRepr (tCons3 (tVar3 12) tNil3))))) (tRet3 (tC3 (.bl false))) tNext3)
def rt_law_1 (tb : Nat → Addr) : TS3 := (tSeq3 (tIf3 (tOr3 (tNot3 (tB3 (tOp3 (gEqO (tb 0) (sp_Counting_eq tb)) (tVar3 14) (tMk3 (tb 0) (sp_Counting_init tb) (tCons3 (tVar3 3) (tCons3 (tVar3 12) tNil3)))))) (tOr3 (tB3 (tOp3 (gEqO (tb 0) (sp_Counting_eq tb)) (tVar3 14) (tMk3 (tb 0) (sp_Counting_init tb) (tCons3 (tVar3 3) (tCons3 (tSl3 gSlT (tVar3 12) (tPart3 (tC3 (.int 1))) tNoP3) tNil3))))) (tB3 (tOp3 (gEqO (tb 0) (sp_Counting_eq tb)) (tVar3 14) (tMk3 (tb 0) (sp_Counting_init tb) (tCons3 (tOp3 gAdd (tVar3 3) (tC3 (.int 1))) (tCons3 (tVar3 12) tNil3))))))) (tRet3 (tC3 (.bl false))) tNext3) (rt_law_0 tb))
def rt_law_2 (tb : Nat → Addr) : TS3 := (tSeq3 (tIf3 (tB3 (tOp3 gNe (tCB3 gRepr (tCons3 (tCallK3 (sp_counted tb) gw_counted_0 3 (tCons3 (tVar3 14) (tCons3 (tVar3 15) (tCons3 (tVar3 4) tNil3)))) tNil3)) (tCB3 gRepr (tCons3 (tCall3 sp_law_played (tCons3 (tVar3 12) (tCons3 (tVar3 3) (tCons3 (tVar3 15) (tCons3 (tVar3 4) tNil3))))) tNil3)))) (tRet3 (tC3 (.bl false))) tNext3) (rt_law_1 tb))
def rt_law_3 (tb : Nat → Addr) : TS3 := (tSeq3 (tPar3 12 13 (tCons3 (tCall3 sp_law_counts (tCons3 (tVar3 1) (tCons3 (tVar3 3) tNil3))) (tCons3 (tCall3 sp_law_who (tCons3 (tVar3 1) (tCons3 (tCall3 sp_law_any (tCons3 (tVar3 1) (tCons3 (tIfE3 (tB3 (tOp3 gLt (tVar3 2) (tC3 (.int 2)))) (tC3 (.int 5)) (tC3 (.int 6))) tNil3))) tNil3))) tNil3))) (tSeq3 (tPar3 14 15 (tCons3 (tMkK3 (tb 0) (sp_Counting_init tb) gw_Counting_init_0 2 (tCons3 (tVar3 3) (tCons3 (tVar3 12) tNil3))) (tCons3 (tCall3 sp_law_log (tCons3 (tVar3 1) (tCons3 (tVar3 12) (tCons3 (tVar3 13) (tCons3 (tIfE3 (tB3 (tOp3 gLt (tVar3 2) (tC3 (.int 2)))) (tC3 (.int 9)) (tC3 (.int 40))) tNil3))))) tNil3))) (tSeq3 (tSet3 4 (tCB3 gTuple (tCons3 (tOp3 gCatM (tLcM3 (tSeqI3 (tVar3 13)) (gName3 18) (tB3 (tOp3 gGt (tCall3 sp_law_any (tCons3 (tVar3 1) (tCons3 (tC3 (.int 3)) tNil3))) (tC3 (.int 0)))) (tVar3 18) [18]) (tSl3 gSlM (tLstD3 (tCons3 (tOp3 gPow (tC3 (.int 10)) (tC3 (.int 9))) tNil3)) tNoP3 (tPart3 (tCall3 sp_law_any (tCons3 (tVar3 1) (tCons3 (tC3 (.int 2)) tNil3)))))) tNil3))) (rt_law_2 tb))))
def rt_law_4 (tb : Nat → Addr) : TS3 := (tIf3 (tOr3 (tNot3 (tB3 (tCB3 (gIsO [(tb 0, true)] (tb 0)) (tCons3 (tVar3 11) (tCons3 (tC3 (.r (tb 0))) tNil3))))) (tOr3 (tB3 (tOp3 gNe (tCB3 gRepr (tCons3 (tFld3 (tb 0) "size" (tVar3 11)) tNil3)) (tCB3 gRepr (tCons3 (tVar3 3) tNil3)))) (tB3 (tOp3 gNe (tCB3 gRepr (tCons3 (tFld3 (tb 0) "deeds" (tVar3 11)) tNil3)) (tCB3 gRepr (tCons3 (tCall3 sp_law_full (tCons3 (tVar3 3) tNil3)) tNil3)))))) (tRet3 (tC3 (.bl false))) tNext3)
def rt_law_5 (tb : Nat → Addr) : TS3 := (tSeq3 (tIf3 (tB3 (tOp3 gNe (tCB3 gRepr (tCons3 (tCallK3 sp_corner gw_corner_0 4 (tCons3 (tVar3 3) (tCons3 (tVar3 10) (tCons3 (tVar3 16) (tCons3 (tVar3 17) tNil3))))) tNil3)) (tCB3 gRepr (tCons3 (tCall3 sp_law_corner (tCons3 (tVar3 3) (tCons3 (tVar3 10) (tCons3 (tVar3 16) (tCons3 (tVar3 17) tNil3))))) tNil3)))) (tRet3 (tC3 (.bl false))) tNext3) (tSeq3 (tSet3 11 (tCallK3 (sp_full_counting tb) gw_full_counting_0 1 (tCons3 (tVar3 3) tNil3))) (rt_law_4 tb)))
def rt_law_6 (tb : Nat → Addr) : TS3 := (tSeq3 (tIf3 (tB3 (tOp3 gGt (tVar3 3) (tC3 (.int 1)))) (tSeq3 (tSet3 10 (tCall3 sp_law_any (tCons3 (tVar3 1) (tCons3 (tOp3 gSub (tVar3 3) (tC3 (.int 1))) tNil3)))) (tSeq3 (tPar3 16 17 (tCons3 (tOp3 gAdd (tOp3 gAdd (tVar3 10) (tC3 (.int 1))) (tCall3 sp_law_any (tCons3 (tVar3 1) (tCons3 (tOp3 gSub (tOp3 gSub (tVar3 3) (tVar3 10)) (tC3 (.int 1))) tNil3)))) (tCons3 (tCall3 sp_law_size_of (tCons3 (tVar3 1) tNil3)) tNil3))) (rt_law_5 tb))) tNext3) (rt_law_3 tb))
def rt_law_7 (tb : Nat → Addr) : TS3 := (tSeq3 (tIf3 (tOr3 (tB3 (tOp3 gNe (tCB3 gRepr (tCons3 (tCall3 sp_uni_joined (tCons3 (tCall3 sp_uni_back (tCons3 (tVar3 6) tNil3)) (tCons3 (tVar3 9) tNil3))) tNil3)) (tCB3 gRepr (tCons3 (tCall3 sp_uni_back (tCons3 (tVar3 8) tNil3)) tNil3)))) (tB3 (tOp3 gNotB (tCall3 sp_is_uni (tCons3 (tVar3 8) tNil3)) (tC3 (.bl true))))) (tRet3 (tC3 (.bl false))) tNext3) (rt_law_6 tb))
def rt_law_8 (tb : Nat → Addr) : TS3 := (tSeq3 (tIf3 (tOr3 (tNot3 (tB3 (tCall3 sp_law_is_uni (tCons3 (tVar3 9) tNil3)))) (tOr3 (tB3 (tOp3 gNe (tCall3 sp_law_after (tCons3 (tVar3 5) (tCons3 (tVar3 9) tNil3))) (tCall3 sp_law_still (tCons3 (tVar3 3) tNil3)))) (tB3 (tOp3 gNe (tCall3 sp_law_after (tCons3 (tVar3 9) (tCons3 (tVar3 5) tNil3))) (tCall3 sp_law_still (tCons3 (tVar3 3) tNil3)))))) (tRet3 (tC3 (.bl false))) tNext3) (rt_law_7 tb))
def rt_law_9 (tb : Nat → Addr) : TS3 := (tSeq3 (tIf3 (tB3 (tOp3 gNe (tCB3 gRepr (tCons3 (tCall3 sp_counts_behind (tCons3 (tCB3 gListD (tCons3 (tVar3 7) tNil3)) (tCons3 (tVar3 8) tNil3))) tNil3)) (tCB3 gRepr (tCons3 (tCall3 sp_counts_behind (tCons3 (tCall3 sp_counts_behind (tCons3 (tVar3 7) (tCons3 (tVar3 5) tNil3))) (tCons3 (tVar3 6) tNil3))) tNil3)))) (tRet3 (tC3 (.bl false))) tNext3) (rt_law_8 tb))
def rt_law_10 (tb : Nat → Addr) : TS3 := (tSeq3 (tIf3 (tB3 (tOp3 gNe (tCB3 gRepr (tCons3 (tCallK3 sp_counts_behind gw_counts_behind_0 2 (tCons3 (tVar3 7) (tCons3 (tVar3 5) tNil3))) tNil3)) (tCB3 gRepr (tCons3 (tCB3 gTuple (tCons3 (tLcD3 (tRgI1 (tCons3 (tVar3 3) tNil3)) (gName3 10) tYes3 (tCall3 sp_law_sum (tCons3 (tVar3 7) (tCons3 (tVar3 5) (tCons3 (tVar3 10) tNil3)))) [10]) tNil3)) tNil3)))) (tRet3 (tC3 (.bl false))) tNext3) (rt_law_9 tb))
def rt_law_11 (tb : Nat → Addr) : TS3 := (tSeq3 (tIf3 (tOr3 (tB3 (tOp3 gNe (tCB3 gRepr (tCons3 (tCallK3 sp_uni_joined gw_uni_joined_0 2 (tCons3 (tVar3 5) (tCons3 (tVar3 6) tNil3))) tNil3)) (tCB3 gRepr (tCons3 (tVar3 8) tNil3)))) (tB3 (tOp3 gNe (tCB3 gRepr (tCons3 (tCallK3 sp_still_uni gw_still_uni_0 1 (tCons3 (tVar3 3) tNil3)) tNil3)) (tCB3 gRepr (tCons3 (tCall3 sp_law_still (tCons3 (tVar3 3) tNil3)) tNil3))))) (tRet3 (tC3 (.bl false))) tNext3) (rt_law_10 tb))
def rb_law_12 (tb : Nat → Addr) : TS3 := (tSeq3 (tSet3 3 (tOp3 gAdd (tC3 (.int 1)) (tCall3 sp_law_any (tCons3 (tVar3 1) (tCons3 (tC3 (.int 4)) tNil3))))) (tSeq3 (tUnp3 (tCons3 (tCall3 sp_law_uni (tCons3 (tVar3 1) (tCons3 (tVar3 3) tNil3))) (tCons3 (tCall3 sp_law_uni (tCons3 (tVar3 1) (tCons3 (tVar3 3) tNil3))) (tCons3 (tCall3 sp_law_counts_row (tCons3 (tVar3 1) (tCons3 (tVar3 3) tNil3))) tNil3))) (gCons3 (gName3 5) (gCons3 (gName3 6) (gCons3 (gName3 7) gNil3)))) (tSeq3 (tPar3 8 9 (tCons3 (tCall3 sp_law_after (tCons3 (tVar3 5) (tCons3 (tVar3 6) tNil3))) (tCons3 (tCallK3 sp_uni_back gw_uni_back_0 1 (tCons3 (tVar3 5) tNil3)) tNil3))) (rt_law_11 tb))))
def rd_law (tb : Nat → Addr) : TS3 := (tSeq3 (tSet3 1 (tCall3 sp_law_deal (tCons3 (tVar3 0) (tCons3 (tC3 (.int 53)) tNil3)))) (tSeq3 (tFor3 (tRgI1 (tCons3 (tC3 (.int 3)) tNil3)) (gName3 2) (rb_law_12 tb)) (tRet3 (tC3 (.bl true)))))
structure C53 (n : Nat) (A B : Mx) (v : Nat → Int) : Prop where
  n1 : 1 ≤ n
  n4 : n ≤ 4
  uA : Uni n A
  uB : Uni n B
  wA : Wt n P12 A
  wB : Wt n P12 B
  fv : ∀ k, k < n → (v k).natAbs ≤ 10 ^ 12
theorem C53.lA {n : Nat} {A B : Mx} {v : Nat → Int} (c : C53 n A B v) : Low n A := low_of c.n4 c.uA c.wA (by decide)
theorem C53.lB {n : Nat} {A B : Mx} {v : Nat → Int} (c : C53 n A B v) : Low n B := low_of c.n4 c.uB c.wB (by decide)
theorem C53.lD {n : Nat} {A B : Mx} {v : Nat → Int} (c : C53 n A B v) : Low n (mulM n A B) := low_of c.n4 (mul_uni c.uA c.uB) (mul_wt c.uA c.uB c.wA c.wB) (by decide)
theorem C53.lbA {n : Nat} {A B : Mx} {v : Nat → Int} (c : C53 n A B v) : Low n (backM A) := low_of c.n4 (back_uni n A) (back_wt c.uA c.wA) (by decide)
theorem C53.lbB {n : Nat} {A B : Mx} {v : Nat → Int} (c : C53 n A B v) : Low n (backM B) := low_of c.n4 (back_uni n B) (back_wt c.uB c.wB) (by decide)
theorem C53.lbM {n : Nat} {A B : Mx} {v : Nat → Int} (c : C53 n A B v) : Low n (mulM n (backM B) (backM A)) := low_of c.n4 (mul_uni (back_uni n B) (back_uni n A)) (mul_wt (back_uni n B) (back_uni n A) (back_wt c.uB c.wB) (back_wt c.uA c.wA)) (by decide)
theorem C53.lbD {n : Nat} {A B : Mx} {v : Nat → Int} (c : C53 n A B v) : Low n (backM (mulM n A B)) := fun i j hi hj => by
  rw [← back_of_mul c.uA c.uB i j hi hj]; exact c.lbM i j hi hj
theorem one_low (n : Nat) : Low n oneM := fun i j _ _ => by
  show (if i = j then (1 : Int) else 0).natAbs < _
  split <;> decide
theorem fine_vec {n : Nat} (n4 : n ≤ 4) {v : Nat → Int} (h : ∀ k, k < n → (v k).natAbs < 10 ^ 60) : Fine 1 4 (lt (vec n v)) := Fine.tuple (k := 0) (w := 0) (fun x hx => by
  obtain ⟨y, iny, rfl⟩ := List.mem_map.mp hx
  obtain ⟨k, hk, rfl⟩ := List.mem_map.mp iny
  exact Fine.big (Nat.lt_of_lt_of_le (h k (List.mem_range.mp hk)) (by decide))) (by rw [List.length_map, vec_len]; omega)
theorem fine_um {n : Nat} (n4 : n ≤ 4) {A : Mx} (h : Low n A) : Fine 2 20 (umD n A) := Fine.tuple (k := 1) (w := 4) (fun x hx => by
  obtain ⟨i, hi, rfl⟩ := List.mem_map.mp hx
  exact fine_vec n4 fun k hk => h i k (List.mem_range.mp hi) hk) (by rw [List.length_map, List.length_range]; omega)
theorem eqv_rows (L : List (List Int)) : PyData.eqv (.tuple (L.map lt)) (.tuple (L.map lt)) = true := by
  have one : ∀ l : List Int, PyData.eqvAll (l.map PyData.int) (l.map PyData.int) = true := fun l => by
    induction l with
    | nil => rfl
    | cons x l ih =>
      show (PyData.eqv (.int x) (.int x) && PyData.eqvAll (l.map PyData.int) (l.map PyData.int)) = true
      rw [ih, eqv_int, decide_eq_true rfl]; rfl
  have all : ∀ M : List (List Int), PyData.eqvAll (M.map lt) (M.map lt) = true := fun M => by
    induction M with
    | nil => rfl
    | cons l M ih =>
      show (PyData.eqvAll (l.map PyData.int) (l.map PyData.int) && PyData.eqvAll (M.map lt) (M.map lt)) = true
      rw [ih, one]; rfl
  exact all L
theorem eqv_um (n : Nat) (A : Mx) : PyData.eqv (umD n A) (umD n A) = true := by
  have := eqv_rows ((List.range n).map fun i => vec n (A i))
  rw [List.map_map] at this; exact this
theorem low42 {n Q : Nat} {A : Mx} (n4 : n ≤ 4) (u : Uni n A) (w : Wt n Q A) (q : Q ≤ 10 ^ 14) : ∀ i j, i < n → j < n → (A i j).natAbs ≤ 10 ^ 42 := fun i j hi hj => by
  by_cases c : j < i
  · rw [u.lo i j hi c]; exact Nat.zero_le _
  · exact Nat.le_trans (w i j (by omega) hj) (Nat.le_trans (Nat.pow_le_pow_left q _) (Nat.le_trans (Nat.pow_le_pow_right (show 0 < 10 ^ 14 by decide) (show j - i ≤ 3 by omega)) (by decide)))
theorem ns_const (n c : Nat) : ns n (fun _ => c) = n * c := by
  induction n with
  | zero => rw [Nat.zero_mul]; rfl
  | succ n ih => show ns n _ + c = _; rw [ih, Nat.succ_mul]
theorem row_low {n : Nat} {v : Nat → Int} {A : Mx} (n4 : n ≤ 4) (hv : ∀ k, k < n → (v k).natAbs ≤ 10 ^ 12) (hA : ∀ i j, i < n → j < n → (A i j).natAbs ≤ 10 ^ 42) : ∀ j, j < n → (sm n fun k => v k * A k j).natAbs < 10 ^ 60 := fun j hj => by
  refine Nat.lt_of_le_of_lt (sm_abs n _) (Nat.lt_of_le_of_lt (ns_le (g := fun _ => 10 ^ 12 * 10 ^ 42) fun k hk => by rw [Int.natAbs_mul]; exact Nat.mul_le_mul (hv k hk) (hA k j hk hj)) ?_)
  rw [ns_const]
  exact Nat.lt_of_le_of_lt (Nat.mul_le_mul_right _ n4) (by decide)
section
variable {tb : Nat → Addr} {dl d1 : Addr} {n : Nat} {A B : Mx} {v : Nat → Int} {S : Sto} {D : Ends3} {ex : XS} {w0 w2 w4 w10 w11 w12 w13 w14 w15 w16 w17 w18 : Option W}
theorem l_alg (c : C53 n A B v) (hq : rt_law_6 tb D ⟨[w0, some (.r dl), w2, some (.int (n : Nat)), w4, some (.d (umD n A)), some (.d (umD n B)), some (.d (lt (vec n v))), some (.d (umD n (mulM n A B))), some (.d (umD n (backM A))), w10, w11, w12, w13, w14, w15, w16, w17, w18], ex⟩ S) : rt_law_11 tb D ⟨[w0, some (.r dl), w2, some (.int (n : Nat)), w4, some (.d (umD n A)), some (.d (umD n B)), some (.d (lt (vec n v))), some (.d (umD n (mulM n A B))), some (.d (umD n (backM A))), w10, w11, w12, w13, w14, w15, w16, w17, w18], ex⟩ S := by
  have n4 := c.n4
  have lv : ∀ k, k < n → (v k).natAbs < 10 ^ 60 := fun k hk => Nat.lt_of_le_of_lt (c.fv k hk) (by decide)
  have a42 := low42 n4 c.uA c.wA (by decide)
  have d42 := low42 n4 (mul_uni c.uA c.uB) (mul_wt c.uA c.uB c.wA c.wB) (by decide)
  refine seq_or (S1 := S) (fun Z a => ne_no (S1 := S) (S2 := S) (fine_um n4 c.lD) (fun K q => ⟨_, rfl, _, rfl, rfl, ⟨⟨n, A, B, rfl, n4, c.lA, c.lB, q⟩⟩⟩) (fun K q => ⟨_, rfl, q⟩) a) ?_
  refine ne_no (S1 := S) (S2 := S) (fine_um n4 (one_low n)) (fun K q => ⟨_, rfl, rfl, ⟨⟨n, rfl, n4, q⟩⟩⟩) (fun K q => ⟨_, rfl, ⟨⟨n, rfl, n4, q⟩⟩⟩) ⟨fun z => (nomatch z), fun _ => ?_⟩
  show rt_law_10 tb D _ S
  refine seq_no (S1 := S) (fun Z a => ne_no (S1 := S) (S2 := S) (fine_vec n4 (row_low n4 c.fv a42)) (fun K q => ⟨_, rfl, _, rfl, rfl, ⟨⟨n, v, A, _, rfl, n4, .inr rfl, lv, c.lA, q⟩⟩⟩) (fun K q => ⟨_, rfl, (n : Int), rfl, ⟨by omega, by omega⟩, rg4 n4, lcRg (fun j => .int (sm n fun k => v k * A k j)) (fun j hj Z a => ⟨_, rfl, _, rfl, _, rfl, ⟨⟨n, v, A, j, rfl, n4, hj, lv, c.lA, a⟩⟩⟩) ⟨(vec n fun j => sm n fun k => v k * A k j).map PyData.int, by unfold vec; rw [List.map_map, List.map_map]; rfl, _, _, rfl, rfl, q⟩⟩) a) ?_
  show rt_law_9 tb D _ S
  have e9 : lt (vec n fun j => sm n fun k => (sm n fun l => v l * A l k) * B k j) = lt (vec n fun j => sm n fun k => v k * mulM n A B k j) := congrArg lt (vec_congr fun j hj => mul_assoc n (fun _ => v) A B 0 j (by have := c.n1; omega) hj)
  refine seq_no (S1 := S) (fun Z a => ne_no (S1 := S) (S2 := S) (fine_vec n4 (row_low n4 c.fv d42)) (fun K q => ⟨_, rfl, _, (vec n v).map PyData.int, rfl, rfl, _, rfl, ⟨⟨n, v, mulM n A B, _, rfl, n4, .inl rfl, lv, c.lD, q⟩⟩⟩) (fun K q => ⟨_, rfl, _, rfl, ⟨⟨n, v, A, _, rfl, n4, .inr rfl, lv, c.lA, _, rfl, ⟨⟨n, _, B, _, rfl, n4, .inr rfl, row_low n4 c.fv a42, c.lB, by rw [e9]; exact q⟩⟩⟩⟩⟩) a) ?_
  show rt_law_8 tb D _ S
  have e8 := um_congr (mul_back c.uA)
  have e8' := um_congr (back_mul c.uA)
  have sh := (fine_um n4 (one_low n)).shaped
  refine seq_or (S1 := S) (fun Z a => ⟨_, rfl, ⟨⟨n, backM A, rfl, c.n1, n4, back_uni n A, _, rfl, a⟩⟩⟩) ?_
  refine or_no (S1 := S) (fun Z a => ⟨_, rfl, _, rfl, ⟨⟨n, A, backM A, rfl, n4, c.lA, c.lbA, _, rfl, ⟨⟨n, rfl, n4, .inr ⟨_, _, rfl, rfl, ?_, sh, _, rfl, ?_⟩⟩⟩⟩⟩⟩) ?_
  · rw [e8]; exact sh
  · rw [e8, eqv_um]; exact a
  refine ⟨_, rfl, _, rfl, ⟨⟨n, backM A, A, rfl, n4, c.lbA, c.lA, _, rfl, ⟨⟨n, rfl, n4, .inr ⟨_, _, rfl, rfl, ?_, sh, _, rfl, ?_⟩⟩⟩⟩⟩⟩
  · rw [e8']; exact sh
  rw [e8', eqv_um]
  refine ⟨fun z => (nomatch z), fun _ => ?_⟩
  show rt_law_7 tb D _ S
  have e7 := um_congr (back_of_mul c.uA c.uB)
  refine seq_or (S1 := S) (fun Z a => ne_no (S1 := S) (S2 := S) (fine_um n4 c.lbD) (fun K q => ⟨_, rfl, ⟨⟨n, B, rfl, n4, c.lB, c.lbB, _, rfl, ⟨⟨n, backM B, backM A, rfl, n4, c.lbB, c.lbA, by rw [e7]; exact q⟩⟩⟩⟩⟩) (fun K q => ⟨_, rfl, ⟨⟨n, mulM n A B, rfl, n4, c.lD, c.lbD, q⟩⟩⟩) a) ?_
  exact ⟨_, rfl, ⟨⟨n, mulM n A B, rfl, c.n1, n4, mul_uni c.uA c.uB, true, true, rfl, rfl, _, rfl, fun z => (by simp at z), fun _ => hq⟩⟩⟩
end

theorem cor_low {n a c : Nat} {x : Int} (hx : x.natAbs ≤ 10 ^ 12) : Low n (corM a c x) := fun i j hi hj => by
  show (if i = a ∧ j = c then x else oneM i j).natAbs < _
  split
  · exact Nat.lt_of_le_of_lt hx (by decide)
  · exact one_low n i j hi hj
theorem fine_ds {n : Nat} (n4 : n ≤ 4) {G : List (Str × Mx)} (h : ∀ d ∈ G, Fine 0 8 (.str d.1) ∧ Low n d.2) (few : G.length ≤ 12) : Fine 4 516 (.tuple (dsD n G)) := Fine.tuple (k := 3) (w := 42) (fun x hx => by
  obtain ⟨d, hd, rfl⟩ := List.mem_map.mp hx
  exact Fine.tuple (k := 2) (w := 20) (forall_mem_cons' (Fine.mono (h d hd).1) (forall_mem_cons' (fine_um n4 (h d hd).2) forall_mem_nil)) (show (20 + 1) * 2 ≤ 42 by decide)) (by unfold dsD; rw [List.length_map]; omega)
theorem full_fine {n : Nat} (n4 : n ≤ 4) : ∀ d ∈ fullL n, Fine 0 8 (.str d.1) ∧ Low n d.2 := fun d hd => by
  have sg : ∀ i, i < 3 → Fine 0 8 (.str ("down" ++ sgS i)) ∧ Fine 0 8 (.str ("up" ++ sgS i)) := fun i hi => by
    rcases (by omega : i = 0 ∨ i = 1 ∨ i = 2) with rfl | rfl | rfl <;> exact ⟨⟨by decide +kernel, by decide +kernel, by decide +kernel, by decide +kernel, by decide +kernel⟩, ⟨by decide +kernel, by decide +kernel, by decide +kernel, by decide +kernel, by decide +kernel⟩⟩
  rcases List.mem_append.mp hd with z | z
  · obtain ⟨i, hi, rfl⟩ := List.mem_map.mp z
    exact ⟨(sg i (by have := List.mem_range.mp hi; omega)).1, cor_low (by decide)⟩
  · obtain ⟨i, hi, rfl⟩ := List.mem_map.mp z
    exact ⟨(sg i (by have := List.mem_range.mp hi; omega)).2, cor_low (by decide)⟩
section
variable {tb : Nat → Addr} {dl d1 m : Addr} {n : Nat} {S : Sto} {D : Ends3} {ex : XS} {w0 w2 w4 w5 w6 w7 w8 w9 w10 w11 w12 w13 w14 w15 w16 w17 w18 : Option W}
theorem l_four (n2 : 2 ≤ n) (n4 : n ≤ 4) (hm : CoAt tb S m (n : Nat) (.tuple (dsD n (fullL n)))) (hq : D.nx ⟨[w0, some (.r dl), w2, some (.int (n : Nat)), w4, w5, w6, w7, w8, w9, w10, some (.r m), w12, w13, w14, w15, w16, w17, w18], ex⟩ S) : rt_law_4 tb D ⟨[w0, some (.r dl), w2, some (.int (n : Nat)), w4, w5, w6, w7, w8, w9, w10, some (.r m), w12, w13, w14, w15, w16, w17, w18], ex⟩ S := by
  have few : (fullL n).length ≤ 12 := by
    unfold fullL halfL
    rw [List.length_append, List.length_map, List.length_map, List.length_range]; omega
  refine if_or (S1 := S) (fun Z a => ⟨_, rfl, _, rfl, .inr ⟨m, _, _, true, rfl, hm, look1, _, rfl, a⟩⟩) ?_
  refine or_no (S1 := S) (fun Z a => ne_no (S1 := S) (S2 := S) (Fine.big (i := ((n : Nat) : Int)) (by omega)) (fun K q => ⟨_, rfl, m, _, _, rfl, hm, rfl, q⟩) (fun K q => ⟨_, rfl, q⟩) a) ?_
  exact ne_no (S1 := S) (S2 := S) (fine_ds n4 (full_fine n4) few) (fun K q => ⟨_, rfl, m, _, _, rfl, hm, rfl, q⟩) (fun K q => ⟨_, rfl, ⟨⟨n, rfl, n2, n4, q⟩⟩⟩) ⟨fun z => (nomatch z), fun _ => hq⟩
theorem l_five {a c : Nat} {x : Int} (n2 : 2 ≤ n) (n4 : n ≤ 4) (ha : a < n) (hc : c < n) (hx : x.natAbs ≤ 10 ^ 12) (hD : Deal S dl d1) (hq : ∀ S' v11, Deal S' dl d1 → D.nx ⟨[w0, some (.r dl), w2, some (.int (n : Nat)), w4, w5, w6, w7, w8, w9, some (.int (a : Nat)), v11, w12, w13, w14, w15, some (.int (c : Nat)), some (.int x), w18], ex⟩ S') : rt_law_5 tb D ⟨[w0, some (.r dl), w2, some (.int (n : Nat)), w4, w5, w6, w7, w8, w9, some (.int (a : Nat)), w11, w12, w13, w14, w15, some (.int (c : Nat)), some (.int x), w18], ex⟩ S := by
  refine seq_no (S1 := S) (fun Z z => ne_no (S1 := S) (S2 := S) (fine_um n4 (cor_low hx)) (fun K q => ⟨_, rfl, _, rfl, _, rfl, _, rfl, rfl, ⟨⟨n, a, c, x, rfl, n4, ha, hc, q⟩⟩⟩) (fun K q => ⟨_, rfl, _, rfl, _, rfl, _, rfl, ⟨⟨n, a, c, x, rfl, n4, ha, hc, q⟩⟩⟩) z) ?_
  refine ⟨_, rfl, rfl, ⟨⟨n, rfl, n2, n4, fun m hm => ?_⟩⟩⟩
  have hm : S m = none := hm
  have fm := hD.free hm
  exact l_four n2 n4 put_same (hq _ _ (hD.other fm.1 fm.2))
theorem l_six (n1 : 1 ≤ n) (n4 : n ≤ 4) (hD : Deal S dl d1) (hq : ∀ S' v10 v11 v16 v17, Deal S' dl d1 → rt_law_3 tb D ⟨[w0, some (.r dl), w2, some (.int (n : Nat)), w4, w5, w6, w7, w8, w9, v10, v11, w12, w13, w14, w15, v16, v17, w18], ex⟩ S') : rt_law_6 tb D ⟨[w0, some (.r dl), w2, some (.int (n : Nat)), w4, w5, w6, w7, w8, w9, w10, w11, w12, w13, w14, w15, w16, w17, w18], ex⟩ S := by
  refine ⟨_, rfl, _, _, rfl, rfl, _, rfl, fun z => ?_, fun _ => hq _ _ _ _ _ hD⟩
  have n2 : 2 ≤ n := by have := of_decide_eq_true z; omega
  refine ⟨_, rfl, _, rfl, _, _, rfl, rfl, law_any_lt hD (show 0 < ((n : Nat) : Int) - 1 by omega) (Int.lt_trans (show ((n : Nat) : Int) - 1 < 1000 by omega) (by decide)) fun r S1 r0 r1 u1 hD1 => ?_⟩
  obtain ⟨a, rfl⟩ := Int.eq_ofNat_of_zero_le r0
  refine ⟨_, rfl, _, _, rfl, rfl, _, rfl, _, rfl, _, rfl, _, _, rfl, rfl, _, _, rfl, rfl, law_any_lt hD1 (show 0 < ((n : Nat) : Int) - ((a : Nat) : Int) - 1 by omega) (Int.lt_trans (show ((n : Nat) : Int) - ((a : Nat) : Int) - 1 < 1000 by omega) (by decide)) fun r2 S2 q0 q1 u2 hD2 => ?_⟩
  obtain ⟨b, rfl⟩ := Int.eq_ofNat_of_zero_le q0
  refine ⟨_, _, rfl, rfl, _, rfl, ⟨⟨dl, d1, rfl, hD2, fun x S3 hx u3 hD3 => ⟨_, _, rfl, ?_⟩⟩⟩⟩
  have e : ((a : Nat) : Int) + 1 + ((b : Nat) : Int) = ((a + 1 + b : Nat) : Int) := by omega
  show rt_law_5 tb _ ⟨[w0, some (.r dl), w2, some (.int (n : Nat)), w4, w5, w6, w7, w8, w9, some (.int (a : Nat)), w11, w12, w13, w14, w15, some (.int (((a : Nat) : Int) + 1 + ((b : Nat) : Int))), some (.int x), w18], ex⟩ S3
  rw [e]
  exact l_five n2 n4 (by omega) (by omega) hx hD3 fun S' v11 h => hq _ _ _ _ _ h
end

theorem eqvAll_len : ∀ (a b : List PyData), PyData.eqvAll a b = true → a.length = b.length
  | [], [], _ => rfl
  | [], _ :: _, h => by cases h
  | _ :: _, [], h => by cases h
  | x :: a, y :: b, h => by
    have h : (PyData.eqv x y && PyData.eqvAll a b) = true := h
    rw [Bool.and_eq_true] at h
    rw [List.length_cons, List.length_cons, eqvAll_len a b h.2]
theorem eqv_dsD (n : Nat) (G : List (Str × Mx)) : PyData.eqv (.tuple (dsD n G)) (.tuple (dsD n G)) = true := by
  have : PyData.eqvAll (dsD n G) (dsD n G) = true := by
    induction G with
    | nil => rfl
    | cons d G ih =>
      show ((PyData.eqv (.str d.1) (.str d.1) && (PyData.eqv (umD n d.2) (umD n d.2) && true)) && PyData.eqvAll (dsD n G) (dsD n G)) = true
      rw [ih, eqv_um, eqv_str, decide_eq_true rfl]; rfl
  exact this
section
variable {tb : Nat → Addr} {dl d1 m : Addr} {n : Nat} {t : Int} {G : List (Str × Mx)} {L : List En} {S : Sto} {D : Ends3} {ex : XS} {w0 w4 w5 w6 w7 w8 w9 w10 w11 w12 w13 w14 w15 w16 w17 w18 : Option W}
theorem l_last (n4 : n ≤ 4) (fG : ∀ d ∈ G, Fine 0 8 (.str d.1) ∧ Low n d.2) (few : G.length ≤ 12) (hm : CoAt tb S m (n : Nat) (.tuple (dsD n G))) (hq : D.nx ⟨[w0, some (.r dl), some (.int t), some (.int (n : Nat)), w4, w5, w6, w7, w8, w9, w10, w11, some (.d (.tuple (dsD n G))), w13, some (.r m), some (.d (.tuple (L.map enD))), w16, w17, w18], ex⟩ S) : rt_law_0 tb D ⟨[w0, some (.r dl), some (.int t), some (.int (n : Nat)), w4, w5, w6, w7, w8, w9, w10, w11, some (.d (.tuple (dsD n G))), w13, some (.r m), some (.d (.tuple (L.map enD))), w16, w17, w18], ex⟩ S := by
  have f := fine_ds n4 fG few
  refine if_or (S1 := S) (fun Z z => ⟨_, rfl, _, rfl, m, _, rfl, hm, .inr ⟨_, rfl⟩, ⟨.inl ⟨m, _, rfl, f.lay, _, rfl, z⟩⟩⟩) ?_
  exact ne_no (S1 := S) (S2 := S) f (fun K q => ⟨_, rfl, m, _, _, rfl, hm, rfl, q⟩) (fun K q => ⟨_, rfl, q⟩) ⟨fun z => (nomatch z), fun _ => hq⟩
theorem l_eqs (n4 : n ≤ 4) (ne : G ≠ []) (fG : ∀ d ∈ G, Fine 0 8 (.str d.1) ∧ Low n d.2) (few : G.length ≤ 12) (hD : Deal S dl d1) (hm : CoAt tb S m (n : Nat) (.tuple (dsD n G))) (hq : ∀ S', Deal S' dl d1 → D.nx ⟨[w0, some (.r dl), some (.int t), some (.int (n : Nat)), w4, w5, w6, w7, w8, w9, w10, w11, some (.d (.tuple (dsD n G))), w13, some (.r m), some (.d (.tuple (L.map enD))), w16, w17, w18], ex⟩ S') : rt_law_1 tb D ⟨[w0, some (.r dl), some (.int t), some (.int (n : Nat)), w4, w5, w6, w7, w8, w9, w10, w11, some (.d (.tuple (dsD n G))), w13, some (.r m), some (.d (.tuple (L.map enD))), w16, w17, w18], ex⟩ S := by
  have f := fine_ds n4 fG few
  have sh : SeqAt.shaped (.tuple (dsD n G)) = true := f.shaped
  refine ⟨_, rfl, _, rfl, _, rfl, fun b hb => ⟨⟨b, (n : Nat), .tuple (dsD n G), rfl, put_same, rfl, ?_⟩⟩⟩
  have hb : S b = none := hb
  have mb : m ≠ b := fun z => by rw [← z, hm] at hb; cases hb
  rw [put_put]
  have fb := hD.free hb
  have hD1 : Deal (put S b (.ins (tb 0) [("size", .int (n : Nat)), ("deeds", .d (.tuple (dsD n G)))])) dl d1 := hD.other fb.1 fb.2
  have hm1 : CoAt tb (put S b (.ins (tb 0) [("size", .int (n : Nat)), ("deeds", .d (.tuple (dsD n G)))])) m (n : Nat) (.tuple (dsD n G)) := (put_ne mb).trans hm
  refine ⟨m, _, rfl, hm1, .inl ⟨b, _, rfl, put_same⟩, ⟨.inr ⟨m, b, _, _, _, _, rfl, hm1, put_same, sh, sh, _, rfl, ?_⟩⟩⟩
  rw [eqv_dsD, decide_eq_true rfl]
  refine ⟨fun z => (nomatch z), fun _ => ?_⟩
  have cd : cutG (dsD n G) (some 1) none = (dsD n G).drop 1 := cut_from (i := 1) (by unfold dsD; rw [List.length_map]; exact List.length_pos_iff.mpr ne)
  refine ⟨_, rfl, _, rfl, _, rfl, _, rfl, dsD n G, rfl, fun b2 hb2 => ⟨⟨b2, (n : Nat), .tuple (cutG (dsD n G) (some 1) none), rfl, put_same, rfl, ?_⟩⟩⟩
  have mb2 : m ≠ b2 := fun z => by rw [← z] at hb2; exact nomatch hb2.symm.trans hm1
  rw [put_put]
  have fb2 := hD1.free hb2
  have sh2 : SeqAt.shaped (.tuple (cutG (dsD n G) (some 1) none)) = true := by
    rw [cd, show (dsD n G).drop 1 = dsD n (G.drop 1) by unfold dsD; rw [List.map_drop]]
    exact (fine_ds n4 (fun d hd => fG d (List.mem_of_mem_drop hd)) (by rw [List.length_drop]; omega)).shaped
  refine ⟨m, _, rfl, (put_ne mb2).trans hm1, .inl ⟨b2, _, rfl, put_same⟩, ⟨.inr ⟨m, b2, _, _, _, _, rfl, (put_ne mb2).trans hm1, put_same, sh, sh2, _, rfl, ?_⟩⟩⟩
  rw [show PyData.eqv (.tuple (dsD n G)) (.tuple (cutG (dsD n G) (some 1) none)) = false by
    cases e : PyData.eqv (.tuple (dsD n G)) (.tuple (cutG (dsD n G) (some 1) none)) with
    | false => rfl
    | true =>
      have := eqvAll_len _ _ e
      rw [cd, List.length_drop] at this
      have pos : 0 < (dsD n G).length := by unfold dsD; rw [List.length_map]; exact List.length_pos_iff.mpr ne
      omega, Bool.and_false]
  refine ⟨fun z => (nomatch z), fun _ => ?_⟩
  refine ⟨_, rfl, _, rfl, _, _, rfl, rfl, _, rfl, fun b3 hb3 => ⟨⟨b3, ((n : Nat) : Int) + 1, .tuple (dsD n G), rfl, put_same, rfl, ?_⟩⟩⟩
  have hm2 : CoAt tb (put (put S b (.ins (tb 0) [("size", .int (n : Nat)), ("deeds", .d (.tuple (dsD n G)))])) b2 (.ins (tb 0) [("size", .int (n : Nat)), ("deeds", .d (.tuple (cutG (dsD n G) (some 1) none)))])) m (n : Nat) (.tuple (dsD n G)) := (put_ne mb2).trans hm1
  have mb3 : m ≠ b3 := fun z => by rw [← z] at hb3; exact nomatch hb3.symm.trans hm2
  rw [put_put]
  have hD2 := hD1.other (p := b2) (o := .ins (tb 0) [("size", .int (n : Nat)), ("deeds", .d (.tuple (cutG (dsD n G) (some 1) none)))]) fb2.1 fb2.2
  have fb3 := hD2.free hb3
  refine ⟨m, _, rfl, (put_ne mb3).trans hm2, .inl ⟨b3, _, rfl, put_same⟩, ⟨.inr ⟨m, b3, _, _, _, _, rfl, (put_ne mb3).trans hm2, put_same, sh, sh, _, rfl, ?_⟩⟩⟩
  rw [decide_eq_false (show ¬ ((n : Nat) : Int) = ((n : Nat) : Int) + 1 by omega), Bool.false_and]
  refine ⟨fun z => (nomatch z), fun _ => ?_⟩
  exact l_last n4 fG few ((put_ne mb3).trans hm2) (hq _ (hD2.other fb3.1 fb3.2))
theorem l_count {T : List Int} (n4 : n ≤ 4) (ne : G ≠ []) (ok : DOk n G) (fG : ∀ d ∈ G, Fine 0 8 (.str d.1) ∧ Low n d.2) (few : G.length ≤ 12) (hL : ∀ e ∈ L, ∃ A, G.lookup e.2 = some A) (hl : L.length ≤ 100) (hD : Deal S dl d1) (hm : CoAt tb S m (n : Nat) (.tuple (dsD n G))) (hq : ∀ S', Deal S' dl d1 → D.nx ⟨[w0, some (.r dl), some (.int t), some (.int (n : Nat)), some (.d (lt T)), w5, w6, w7, w8, w9, w10, w11, some (.d (.tuple (dsD n G))), w13, some (.r m), some (.d (.tuple (L.map enD))), w16, w17, w18], ex⟩ S') : rt_law_2 tb D ⟨[w0, some (.r dl), some (.int t), some (.int (n : Nat)), some (.d (lt T)), w5, w6, w7, w8, w9, w10, w11, some (.d (.tuple (dsD n G))), w13, some (.r m), some (.d (.tuple (L.map enD))), w16, w17, w18], ex⟩ S := by
  refine seq_no (S1 := S) (fun Z z => ne_no (S1 := S) (S2 := S) (fine_um n4 (pl_low n4 ok T hl hL)) (fun K q => ⟨_, rfl, _, rfl, _, rfl, rfl, ⟨⟨m, n, G, L, T, rfl, n4, hm, ok, by omega, hL, hl, q⟩⟩⟩) (fun K q => ⟨_, rfl, _, rfl, _, rfl, _, rfl, ⟨⟨n, G, L, T, rfl, n4, ok, by omega, hL, hl, q⟩⟩⟩) z) ?_
  exact l_eqs n4 ne fG few hD hm hq
end

theorem ins_off {S : Sto} {dl d1 a C : Addr} {fs : List (Str × W)} (hD : Deal S dl d1) (h : S a = some (.ins C fs)) : a ≠ dl ∧ a ≠ d1 := by
  obtain ⟨ne, ⟨k, t⟩, ⟨ns, hl, l⟩⟩ := hD
  exact ⟨fun e => (by rw [e, t] at h; cases h), fun e => (by rw [e, l] at h; cases h)⟩
section
variable {tb : Nat → Addr} {dl d1 m : Addr} {n : Nat} {t : Int} {G : List (Str × Mx)} {L : List En} {who : List Int} {S : Sto} {D : Ends3} {ex : XS} {w0 w4 w5 w6 w7 w8 w9 w10 w11 w12 w13 w14 w15 w16 w17 w18 : Option W}
theorem l_tail (n4 : n ≤ 4) (ne : G ≠ []) (ok : DOk n G) (fG : ∀ d ∈ G, Fine 0 8 (.str d.1) ∧ Low n d.2) (few : G.length ≤ 12) (hw : who.length ≤ 16) (hL : ∀ e ∈ L, ∃ A, G.lookup e.2 = some A) (hl : L.length ≤ 100) (hD : Deal S dl d1) (hm : CoAt tb S m (n : Nat) (.tuple (dsD n G))) (hq : ∀ S' v4, Deal S' dl d1 → D.nx ⟨[w0, some (.r dl), some (.int t), some (.int (n : Nat)), v4, w5, w6, w7, w8, w9, w10, w11, some (.d (.tuple (dsD n G))), some (.lst (who.map PyData.int)), some (.r m), some (.d (.tuple (L.map enD))), w16, w17, w18], ex⟩ S') :
    (tSeq3 (tSet3 4 (tCB3 gTuple (tCons3 (tOp3 gCatM (tLcM3 (tSeqI3 (tVar3 13)) (gName3 18) (tB3 (tOp3 gGt (tCall3 sp_law_any (tCons3 (tVar3 1) (tCons3 (tC3 (.int 3)) tNil3))) (tC3 (.int 0)))) (tVar3 18) [18]) (tSl3 gSlM (tLstD3 (tCons3 (tOp3 gPow (tC3 (.int 10)) (tC3 (.int 9))) tNil3)) tNoP3 (tPart3 (tCall3 sp_law_any (tCons3 (tVar3 1) (tCons3 (tC3 (.int 2)) tNil3)))))) tNil3))) (rt_law_2 tb)) D ⟨[w0, some (.r dl), some (.int t), some (.int (n : Nat)), w4, w5, w6, w7, w8, w9, w10, w11, some (.d (.tuple (dsD n G))), some (.lst (who.map PyData.int)), some (.r m), some (.d (.tuple (L.map enD))), w16, w17, w18], ex⟩ S := by
  have fm := ins_off hD hm
  refine ⟨_, rfl, who.map PyData.int, .inl rfl, by rw [List.length_map, List.length_map]; omega, ?_⟩
  refine lcGo_run (fun k acc S' => Upto [dl, d1] S S' ∧ Deal S' dl d1 ∧ ∃ T : List Int, acc = T.map W.int ∧ T.length ≤ k) ⟨Upto.refl, hD, [], rfl, Nat.le_refl _⟩ ?_ ?_
  · rintro k w acc S2 K hw2 ⟨u, hD2, T, rfl, lT⟩ hK
    rw [List.map_map] at hw2
    obtain ⟨j, hj, rfl⟩ := get_map hw2
    exact ⟨_, rfl, law_any_nat (b := 3) hD2 (by decide) (by decide) fun r S3 hr u3 hD3 => ⟨_, _, rfl, rfl, _, rfl, fun _ => ⟨_, rfl, hK _ _ ⟨u.trans u3, hD3, T ++ [j], by rw [List.map_append]; rfl, by rw [List.length_append]; show _ + 1 ≤ _; omega⟩⟩, fun _ => hK _ _ ⟨u.trans u3, hD3, T, rfl, by omega⟩⟩⟩
  · rintro acc S5 ⟨u5, hD6, T, rfl, lT⟩ p hp
    rw [List.length_map, List.length_map] at lT
    have hp : S5 p = none := hp
    have fp := hD6.free hp
    have hm5 : S5 m = some _ := (u5 m (by simp [fm.1, fm.2])).trans hm
    have mp : m ≠ p := fun z => by rw [← z, hm5] at hp; cases hp
    have hD7 : Deal (put S5 p (.lst (T.map W.int))) dl d1 := hD6.other fp.1 fp.2
    refine ⟨_, _, rfl, rfl, pow_ok 9 (by decide), [.int (10 ^ 9)], rfl, (show 1 ≤ 1000 by decide), _, rfl, law_any_nat (b := 2) hD7 (by decide) (by decide) fun r S6 hr u6 hD8 => ⟨_, rfl, [.int (10 ^ 9)], rfl, fun q hq' => ?_⟩⟩
    have hq' : S6 q = none := hq'
    have hm6 : S6 m = some _ := (u6 m (by simp [fm.1, fm.2])).trans ((put_ne mp).trans hm5)
    have hp6 : S6 p = some (.lst (T.map W.int)) := (u6 p (by simp [fp.1, fp.2])).trans put_same
    have mq : m ≠ q := fun z => by rw [← z, hm6] at hq'; cases hq'
    have pq : p ≠ q := fun z => by rw [← z, hp6] at hq'; cases hq'
    have fq := hD8.free hq'
    have e2 : cutG [PyData.int (10 ^ 9)] none (some ((r : Nat) : Int)) = (cutG [(10 : Int) ^ 9] none (some ((r : Nat) : Int))).map PyData.int := cutG_map PyData.int [(10 : Int) ^ 9] none (some ((r : Nat) : Int))
    have l2 : (cutG [(10 : Int) ^ 9] none (some ((r : Nat) : Int))).length ≤ 1 := cutG_none_len _ _
    refine ⟨p, q, T.map W.int, ((cutG [PyData.int (10 ^ 9)] none (some ((r : Nat) : Int))).map W.d), rfl, rfl, (put_ne pq).trans hp6, put_same, ?_, fun b hb => ?_⟩
    · rw [e2, List.length_map, List.length_map, List.length_map, sizeLine_eq]; omega
    have hD9 : Deal (put S6 q (.lst ((cutG [PyData.int (10 ^ 9)] none (some ((r : Nat) : Int))).map W.d))) dl d1 := hD8.other fq.1 fq.2
    have fb := hD9.free hb
    have mb : m ≠ b := fun z => by rw [← z, put_ne mq, hm6] at hb; cases hb
    refine ⟨_, (T ++ cutG [(10 : Int) ^ 9] none (some ((r : Nat) : Int))).map PyData.int, rfl, itemsW_r ?_, ?_⟩
    · rw [put_same, e2, List.map_append (f := PyData.int), List.map_append (f := W.d), List.map_map (g := W.d) (f := PyData.int) (l := T)]; rfl
    exact l_count (T := T ++ cutG [(10 : Int) ^ 9] none (some ((r : Nat) : Int))) n4 ne ok fG few hL hl (hD9.other fb.1 fb.2) ((put_ne mb).trans ((put_ne mq).trans hm6)) fun S' h => hq S' _ h
theorem l_draw (n1 : 1 ≤ n) (n4 : n ≤ 4) (hD : Deal S dl d1) (hq : ∀ S' v4 v12 v13 v14 v15, Deal S' dl d1 → D.nx ⟨[w0, some (.r dl), some (.int t), some (.int (n : Nat)), v4, w5, w6, w7, w8, w9, w10, w11, v12, v13, v14, v15, w16, w17, w18], ex⟩ S') :
    rt_law_3 tb D ⟨[w0, some (.r dl), some (.int t), some (.int (n : Nat)), w4, w5, w6, w7, w8, w9, w10, w11, w12, w13, w14, w15, w16, w17, w18], ex⟩ S := by
  refine ⟨_, rfl, _, rfl, ⟨⟨dl, d1, n, rfl, n4, hD, fun G S1 okG neG fewG fzG u1 hD1 => ?_⟩⟩⟩
  have fG : ∀ d ∈ G, Fine 0 8 (.str d.1) ∧ Low n d.2 := fun d hd => ⟨fzG d hd, low_of n4 (okG.un d hd).1 (okG.un d hd).2 (by decide)⟩
  refine ⟨_, rfl, _, rfl, _, rfl, _, _, rfl, rfl, _, rfl, fun _ => ?_, fun _ => ?_⟩
  all_goals
    refine law_any_lt hD1 (by decide) (by decide) fun r S2 r0 r1 u2 hD2 => ⟨dl, d1, r, rfl, r0, by omega, hD2, fun who S3 hw bw u3 hD3 => ⟨_, _, rfl, ?_⟩⟩
    refine ⟨_, rfl, _, rfl, rfl, fun m hm => ⟨⟨m, (n : Nat), .tuple (dsD n G), rfl, put_same, rfl, ?_⟩⟩⟩
    have hm : S3 m = none := hm
    have fm := hD3.free hm
    rw [put_put]
    have hD4 : Deal (put S3 m (.ins (tb 0) [("size", .int (n : Nat)), ("deeds", .d (.tuple (dsD n G)))])) dl d1 := hD3.other fm.1 fm.2
    refine ⟨_, rfl, _, rfl, _, rfl, _, rfl, _, _, rfl, rfl, _, rfl, fun _ => ?_, fun _ => ?_⟩
    all_goals
      refine ⟨dl, d1, n, G, who, _, rfl, neG, fewG, by omega, by decide, by decide, hD4, fun L S4 lL nL hL u4 hD5 => ⟨_, _, rfl, ?_⟩⟩
      exact l_tail n4 neG okG fG fewG (by omega) nL.lg (by omega) hD5 ((u4 m (by simp [fm.1, fm.2])).trans put_same) fun S' v4 h => hq S' _ _ _ _ _ h
end
theorem sem_law (tb : Nat → Addr) : ∀ ws S Q E, sp_law tb ws S Q E → rd_law tb (DQ Q) (start3 19 ws E) S := fun ws S Q E ⟨ns, e, hl, hQ⟩ => by
  subst e
  refine ⟨_, rfl, ⟨ns, 53, rfl, hl, fun dl d1 S1 h1 h2 u1 hD1 => ?_⟩⟩
  refine ⟨3, rfl, by decide, ?_⟩
  refine forGo_inv (fun i τ S' => (∃ u0 u2 u3 u4 u5 u6 u7 u8 u9 u10 u11 u12 u13 u14 u15 u16 u17 u18, τ.sl = [u0, some (.r dl), u2, u3, u4, u5, u6, u7, u8, u9, u10, u11, u12, u13, u14, u15, u16, u17, u18]) ∧ Deal S' dl d1) ⟨⟨_, _, _, _, _, _, _, _, _, _, _, _, _, _, _, _, _, _, rfl⟩, hD1⟩ ?_ ?_
  · rintro i w ⟨sl, ex⟩ S2 hw ⟨⟨u0, u2, u3, u4, u5, u6, u7, u8, u9, u10, u11, u12, u13, u14, u15, u16, u17, u18, e⟩, hD2⟩
    subst e
    obtain ⟨hi, rfl⟩ := rgW_at hw
    refine ⟨_, rfl, law_any_nat (b := 4) hD2 (by decide) (by decide) fun r S3 hr u3' hD3 => ⟨_, _, rfl, rfl, ?_⟩⟩
    dsimp only
    rw [show (1 : Int) + ((r : Nat) : Int) = ((1 + r : Nat) : Int) by omega]
    refine ⟨_, rfl, _, rfl, ⟨⟨dl, d1, 1 + r, rfl, by omega, hD3, fun A S4 uA wA u4' hD4 => ?_⟩⟩⟩
    refine ⟨_, rfl, _, rfl, ⟨⟨dl, d1, 1 + r, rfl, by omega, hD4, fun B S5 uB wB u5' hD5 => ?_⟩⟩⟩
    refine ⟨_, rfl, _, rfl, ⟨⟨dl, d1, 1 + r, rfl, by omega, hD5, fun v S6 fv u6' hD6 => ⟨(show 3 ≤ 1000 by decide), _, _, rfl, _, _, rfl, _, _, rfl, rfl, ?_⟩⟩⟩⟩
    have c : C53 (1 + r) A B v := ⟨by omega, by omega, uA, uB, wA, wB, fv⟩
    refine ⟨_, rfl, _, rfl, ⟨⟨1 + r, A, B, rfl, c.n4, c.lA, c.lB, ?_⟩⟩⟩
    refine ⟨_, rfl, rfl, ⟨⟨1 + r, A, rfl, c.n4, c.lA, c.lbA, _, _, rfl, ?_⟩⟩⟩
    refine l_alg c (l_six c.n1 c.n4 hD6 fun S' v10 v11 v16 v17 h => l_draw c.n1 c.n4 h fun S'' v4 v12 v13 v14 v15 h2 => ⟨⟨_, _, _, _, _, _, _, _, _, _, _, _, _, _, _, _, _, _, rfl⟩, h2⟩)
  · rintro ⟨sl, ex⟩ S2 ⟨⟨u0, u2, u3, u4, u5, u6, u7, u8, u9, u10, u11, u12, u13, u14, u15, u16, u17, u18, e⟩, hD2⟩
    exact ⟨_, Sub.refl _, hQ _⟩


end Lk53

namespace Lk53
open PySem PySem.Spec L2 H3
open PyProof.Rows hiding St
theorem ok_Counting_eq {P : Program} {w : World} {K : PySem.W.Frag} {mg : Str → Option Value} {base : Heap} (T : Txt K mg) (tb : Nat → Addr)  (hC_Counting : T.C_Counting = tb 0)  : FnG P w K mg base (L2.CX P w) 1 T.f_Counting_eq T.d_Counting_eq P_Counting_eq (LSp K (sp_Counting_eq tb)) := by
  refine fn3 T.F_Counting_eq sc_Counting_eq (rd_Counting_eq tb) (len_Counting_eq tb) (sem_Counting_eq tb) ?_
  intro X cdv A outer s H E hX gd hr tk hp
  have sc := sc_Counting_eq
  subst hX
  have cl_Counting : Cls K (tb 0) := hC_Counting ▸ T.cl_Counting
  have isf_Counting : IsF K (tb 0) := hC_Counting ▸ T.is_Counting
  have mC_Counting : mg "Counting" = some (.ref (tb 0)) := hC_Counting ▸ T.mC_Counting
  have mt_Counting_eq : Meth K (tb 0) "__eq__" T.f_Counting_eq := hC_Counting ▸ T.mt_Counting_eq
  have mk_Counting : Mk K (tb 0) T.f_Counting_init := hC_Counting ▸ T.mk_Counting
  have na_Counting_size : NoAttr K (tb 0) "size" := hC_Counting ▸ T.na_Counting_size
  have na_Counting_deeds : NoAttr K (tb 0) "deeds" := hC_Counting ▸ T.na_Counting_deeds
  exact (pss3_one (ps3_ret (pe3_and (pe3_B call_isi (l_isO (l := [(tb 0, true)]) ⟨isf_Counting, cat_cons (P := fun D b => Cls K D ∧ IsF K D ∧ PySem.W.kitOne K (.ref D) (.ref (tb 0)) = some b) ⟨cl_Counting, isf_Counting, kit_self⟩ cat_nil⟩) rfl T.z_isinstance (by decide +kernel) (pa3_cons (pv3 1) (pa3_cons (pref3 rfl mC_Counting) pa3_nil))) (pe3_and (pe3_cmp (op_eqX (un64 hr)) l_eq (pe3_fld cl_Counting na_Counting_size (pv3 0)) (pe3_fld cl_Counting na_Counting_size (pv3 1)) (nomark _)) (pe3_one (pe3_cmp (op_eqX (un64 hr)) l_eq (pe3_fld cl_Counting na_Counting_deeds (pv3 0)) (pe3_fld cl_Counting na_Counting_deeds (pv3 1)) (nomark _)))))))
theorem ok_Counting_init {P : Program} {w : World} {K : PySem.W.Frag} {mg : Str → Option Value} {base : Heap} (T : Txt K mg) (tb : Nat → Addr)  (hC_Counting : T.C_Counting = tb 0)  : FnG P w K mg base (L2.CX P w) 1 T.f_Counting_init T.d_Counting_init P_Counting_init (LSp K (sp_Counting_init tb)) := by
  refine fn3 T.F_Counting_init sc_Counting_init (rd_Counting_init tb) (len_Counting_init tb) (sem_Counting_init tb) ?_
  intro X cdv A outer s H E hX gd hr tk hp
  have sc := sc_Counting_init
  subst hX
  have cl_Counting : Cls K (tb 0) := hC_Counting ▸ T.cl_Counting
  have isf_Counting : IsF K (tb 0) := hC_Counting ▸ T.is_Counting
  have mC_Counting : mg "Counting" = some (.ref (tb 0)) := hC_Counting ▸ T.mC_Counting
  have mt_Counting_eq : Meth K (tb 0) "__eq__" T.f_Counting_eq := hC_Counting ▸ T.mt_Counting_eq
  have mk_Counting : Mk K (tb 0) T.f_Counting_init := hC_Counting ▸ T.mk_Counting
  have na_Counting_size : NoAttr K (tb 0) "size" := hC_Counting ▸ T.na_Counting_size
  have na_Counting_deeds : NoAttr K (tb 0) "deeds" := hC_Counting ▸ T.na_Counting_deeds
  exact (pss3_cons (ps3_fld cl_Counting na_Counting_size (pv3 0) (pv3 1)) (pss3_one (ps3_fld cl_Counting na_Counting_deeds (pv3 0) (pv3 2))))
theorem ok_law_sum {P : Program} {w : World} {K : PySem.W.Frag} {mg : Str → Option Value} {base : Heap} (T : Txt K mg)   : FnG P w K mg base (L2.CX P w) 1 T.f_law_sum T.d_law_sum P_law_sum (LSp K sp_law_sum) := by
  refine fn3 T.F_law_sum sc_law_sum rd_law_sum len_law_sum sem_law_sum ?_
  intro X cdv A outer s H E hX gd hr tk hp
  have sc := sc_law_sum
  subst hX
  exact (pss3_one (ps3_ret (pe3_B (cr_sum rfl) l_sum rfl T.z_sum (by decide +kernel) (pa3_cons (pe3_lcD [("at", 3)] rfl sc.nd (pi3_range1 rfl T.z_range (pa3_cons (pe3_B call_len3 l_len rfl T.z_len (by decide +kernel) (pa3_cons (pv3 1) pa3_nil)) pa3_nil)) (blkOk_by (N := N_law_sum) (sc := defScope s_law_sum) (by decide +kernel)) lgl_name wp_name (fun _ _ _ _ _ => (pg_name (i := 3) sc.nd rfl (Or.inl rfl))) (fun _ _ _ _ _ => pts3_nil) (fun _ _ _ _ _ => (pe3_op op_mulW l_mulW (pe3_ix (pv3 0) (pv3 3)) (pe3_ix (pe3_ix (pv3 1) (pv3 3)) (pv3 2))))) pa3_nil))))
theorem ok_law_after {P : Program} {w : World} {K : PySem.W.Frag} {mg : Str → Option Value} {base : Heap} (T : Txt K mg)  (G_law_sum : FnG P w K mg base (L2.CX P w) 1 T.f_law_sum T.d_law_sum P_law_sum (LSp K sp_law_sum)) : FnG P w K mg base (L2.CX P w) 2 T.f_law_after T.d_law_after P_law_after (LSp K sp_law_after) := by
  refine fn3 T.F_law_after sc_law_after rd_law_after len_law_after sem_law_after ?_
  intro X cdv A outer s H E hX gd hr tk hp
  have sc := sc_law_after
  subst hX
  exact (pss3_cons (ps3_set 2 sc.nd rfl (pe3_lstM pa3_nil)) (pss3_cons (ps3_for hp rfl (pi3_seq (pv3 0)) (pg3_name 3 sc.nd) (pss3_one (ps3_expr (pe3_bm PySem.F.slot_list_append PySem.F.type_list_append mt_append l_append (pv3 2) (pa3_cons (pe3_Ty call_tuple_ofN l_tuple rfl T.z_tuple (by decide +kernel) (pa3_cons (pe3_lcD [("column", 4)] rfl sc.nd (pi3_range1 rfl T.z_range (pa3_cons (pe3_B call_len3 l_len rfl T.z_len (by decide +kernel) (pa3_cons (pv3 1) pa3_nil)) pa3_nil)) (blkOk_by (N := N_law_after) (sc := defScope s_law_after) (by decide +kernel)) lgl_name wp_name (fun _ _ _ _ _ => (pg_name (i := 4) sc.nd rfl (Or.inl rfl))) (fun _ _ _ _ _ => pts3_nil) (fun _ _ _ _ _ => (pe3_call G_law_sum gd (hr.mono (by decide)) takes0 rfl T.m_law_sum T.F_law_sum.kp (b_law_sum T.F_law_sum) (pa3_cons (pv3 3) (pa3_cons (pv3 1) (pa3_cons (pv3 4) pa3_nil)))))) pa3_nil)) pa3_nil))))) (pss3_one (ps3_ret (pe3_Ty call_tuple_ofN l_tuple rfl T.z_tuple (by decide +kernel) (pa3_cons (pv3 2) pa3_nil))))))
theorem ok_law_any {P : Program} {w : World} {K : PySem.W.Frag} {mg : Str → Option Value} {base : Heap} (T : Txt K mg)   : FnG P w K mg base (L2.CX P w) 1 T.f_law_any T.d_law_any P_law_any (LSp K sp_law_any) := by
  refine fn3 T.F_law_any sc_law_any rd_law_any len_law_any sem_law_any ?_
  intro X cdv A outer s H E hX gd hr tk hp
  have sc := sc_law_any
  subst hX
  exact (pss3_cons (ps3_while hp (PW.pt (pw3_and (pt3_cmp (op_neX (un64 hr)) l_ne (pe3_ix (pv3 0) pi3) (pe3_lstD pa3_nil) (nomark _)) (pw3_and1 (pt3_cmp (op_eqX (un64 hr)) l_eq (pe3_ix (pe3_ix (pv3 0) pi3) (pe3_neg pi3)) pi3 (nomark _))))) (pss3_one (ps3_expr (pe3_bm0 PySem.F.slot_list_pop PySem.F.type_list_pop mt_pop l_pop (pe3_ix (pv3 0) pi3))))) (pss3_cons (ps3_if (pt3_cmp (op_neX (un64 hr)) l_ne (pe3_ix (pv3 0) pi3) (pe3_lstD pa3_nil) (nomark _)) (pss3_cons (ps3_set 2 sc.nd rfl (pe3_Ty call_int1 l_int rfl T.z_int (by decide +kernel) (pa3_cons (pe3_bm0 PySem.F.slot_list_pop PySem.F.type_list_pop mt_pop l_pop (pe3_ix (pv3 0) pi3)) pa3_nil))) (pss3_cons (ps3_expr (pe3_bm PySem.F.slot_list_append PySem.F.type_list_append mt_append l_append (pe3_ix (pv3 0) pi3) (pa3_cons (pe3_op op_fdivW l_div (pv3 2) (pv3 1)) pa3_nil))) (pss3_one (ps3_ret (pe3_op op_mod l_mod (pv3 2) (pv3 1)))))) pss3_nil) (pss3_cons (ps3_asg (pe3_op op_mod l_mod (pe3_Ty call_int1 l_int rfl T.z_int (by decide +kernel) (pa3_cons (pe3_op op_add l_add (pe3_op op_mul l_mul (pe3_ix (pv3 0) pi3) pi3) pi3) pa3_nil)) pi3) (pg3_sub (pv3 0) pi3)) (pss3_one (ps3_ret (pe3_op op_mod l_mod (pe3_Ty call_int1 l_int rfl T.z_int (by decide +kernel) (pa3_cons (pe3_op op_fdivW l_div (pe3_ix (pv3 0) pi3) pi3) pa3_nil)) (pv3 1)))))))
theorem ok_law_still {P : Program} {w : World} {K : PySem.W.Frag} {mg : Str → Option Value} {base : Heap} (T : Txt K mg)   : FnG P w K mg base (L2.CX P w) 1 T.f_law_still T.d_law_still P_law_still (LSp K sp_law_still) := by
  refine fn3 T.F_law_still sc_law_still rd_law_still len_law_still sem_law_still ?_
  intro X cdv A outer s H E hX gd hr tk hp
  have sc := sc_law_still
  subst hX
  exact (pss3_one (ps3_ret (pe3_Ty call_tuple_ofN l_tuple rfl T.z_tuple (by decide +kernel) (pa3_cons (pe3_lcD [("at", 1)] rfl sc.nd (pi3_range1 rfl T.z_range (pa3_cons (pv3 0) pa3_nil)) (blkOk_by (N := N_law_still) (sc := defScope s_law_still) (by decide +kernel)) lgl_name wp_name (fun _ _ _ _ _ => (pg_name (i := 1) sc.nd rfl (Or.inl rfl))) (fun _ _ _ _ _ => pts3_nil) (fun _ _ _ _ _ => (pe3_Ty call_tuple_ofN l_tuple rfl T.z_tuple (by decide +kernel) (pa3_cons (pe3_op op_cat l_catM (pe3_op op_cat l_catM (pe3_op op_rep l_repM (pe3_lstM (pa3_cons pi3 pa3_nil)) (pv3 1)) (pe3_lstM (pa3_cons pi3 pa3_nil))) (pe3_op op_rep l_repM (pe3_lstM (pa3_cons pi3 pa3_nil)) (pe3_op op_sub l_sub (pe3_op op_sub l_sub (pv3 0) pi3) (pv3 1)))) pa3_nil)))) pa3_nil))))
theorem ok_law_corner {P : Program} {w : World} {K : PySem.W.Frag} {mg : Str → Option Value} {base : Heap} (T : Txt K mg)  (G_law_still : FnG P w K mg base (L2.CX P w) 1 T.f_law_still T.d_law_still P_law_still (LSp K sp_law_still)) : FnG P w K mg base (L2.CX P w) 2 T.f_law_corner T.d_law_corner P_law_corner (LSp K sp_law_corner) := by
  refine fn3 T.F_law_corner sc_law_corner rd_law_corner len_law_corner sem_law_corner ?_
  intro X cdv A outer s H E hX gd hr tk hp
  have sc := sc_law_corner
  subst hX
  exact (pss3_cons (ps3_setLcM 4 [("row", 5)] rfl sc.nd (sw_true rfl rfl rfl (by decide +kernel)) (pi3_seq (pe3_call G_law_still gd (hr.mono (by decide)) tk rfl T.m_law_still T.F_law_still.kp (b_law_still T.F_law_still) (pa3_cons (pv3 0) pa3_nil))) (blkOk_by (N := N_law_corner) (sc := defScope s_law_corner) (by decide +kernel)) lgl_name wp_name (fun _ _ _ _ _ => (pg_name (i := 5) sc.nd rfl (Or.inl rfl))) (fun _ _ _ _ _ => pts3_nil) (fun _ _ _ _ _ => (pe3_Ty call_list_of l_listM rfl T.z_list (by decide +kernel) (pa3_cons (pv3 5) pa3_nil)))) (pss3_cons (ps3_set 5 sc.nd rfl (pe3_ix (pv3 4) (pv3 1))) (pss3_cons (ps3_asg (pv3 3) (pg3_sub (pv3 5) (pv3 2))) (pss3_one (ps3_ret (pe3_Ty call_tuple_ofN l_tuple rfl T.z_tuple (by decide +kernel) (pa3_cons (pe3_lcTD [("one", 6)] rfl sc.nd (pv3 4) (blkOk_by (N := N_law_corner) (sc := defScope s_law_corner) (by decide +kernel)) lgl_name wp_name (fun _ _ _ _ _ => (pg_name (i := 6) sc.nd rfl (Or.inl rfl))) (fun _ _ _ _ _ => pts3_nil) (fun _ _ _ _ _ => (pe3_Ty call_tuple_ofN l_tuple rfl T.z_tuple (by decide +kernel) (pa3_cons (pv3 6) pa3_nil)))) pa3_nil)))))))
theorem ok_law_of {P : Program} {w : World} {K : PySem.W.Frag} {mg : Str → Option Value} {base : Heap} (T : Txt K mg)  (G_law_any : FnG P w K mg base (L2.CX P w) 1 T.f_law_any T.d_law_any P_law_any (LSp K sp_law_any)) : FnG P w K mg base (L2.CX P w) 2 T.f_law_of T.d_law_of P_law_of (LSp K sp_law_of) := by
  refine fn3 T.F_law_of sc_law_of rd_law_of len_law_of sem_law_of ?_
  intro X cdv A outer s H E hX gd hr tk hp
  have sc := sc_law_of
  subst hX
  exact (pss3_one (ps3_ret (pe3_ix (pv3 1) (pe3_call G_law_any gd (hr.mono (by decide)) tk rfl T.m_law_any T.F_law_any.kp (b_law_any T.F_law_any) (pa3_cons (pv3 0) (pa3_cons (pe3_B call_len3 l_len rfl T.z_len (by decide +kernel) (pa3_cons (pv3 1) pa3_nil)) pa3_nil))))))
theorem ok_law_names {P : Program} {w : World} {K : PySem.W.Frag} {mg : Str → Option Value} {base : Heap} (T : Txt K mg)  (G_law_any : FnG P w K mg base (L2.CX P w) 1 T.f_law_any T.d_law_any P_law_any (LSp K sp_law_any)) (G_law_of : FnG P w K mg base (L2.CX P w) 2 T.f_law_of T.d_law_of P_law_of (LSp K sp_law_of)) : FnG P w K mg base (L2.CX P w) 3 T.f_law_names T.d_law_names P_law_names (LSp K sp_law_names) := by
  refine fn3 T.F_law_names sc_law_names rd_law_names len_law_names sem_law_names ?_
  intro X cdv A outer s H E hX gd hr tk hp
  have sc := sc_law_names
  subst hX
  exact (pss3_cons (ps3_set 2 sc.nd rfl pstr3) (pss3_cons (ps3_par 6 7 rfl sc.nd (pa3_cons (pe3_lstM pa3_nil) (pa3_cons (pe3_Ty (call_list_txt rfl) l_listTM rfl T.z_list (by decide +kernel) (pa3_cons (pv3 2) pa3_nil)) pa3_nil))) (pss3_cons (ps3_for hp rfl (pi3_range1 rfl T.z_range (pa3_cons (pv3 1) pa3_nil)) (pg3_name 3 sc.nd) (pss3_one (ps3_expr (pe3_bm PySem.F.slot_list_append PySem.F.type_list_append mt_append l_append (pv3 6) (pa3_cons (pe3_bm PySem.F.slot_list_pop PySem.F.type_list_pop mt_popAt l_popAt (pv3 7) (pa3_cons (pe3_call G_law_any gd (hr.mono (by decide)) tk rfl T.m_law_any T.F_law_any.kp (b_law_any T.F_law_any) (pa3_cons (pv3 0) (pa3_cons (pe3_B call_len3 l_len rfl T.z_len (by decide +kernel) (pa3_cons (pv3 7) pa3_nil)) pa3_nil))) pa3_nil)) pa3_nil))))) (pss3_cons (ps3_if (pt3_cmp (op_eqX (un64 hr)) l_eq (pe3_call G_law_any gd (hr.mono (by decide)) tk rfl T.m_law_any T.F_law_any.kp (b_law_any T.F_law_any) (pa3_cons (pv3 0) (pa3_cons pi3 pa3_nil))) pi3 (nomark _)) (pss3_one (ps3_ret (pe3_B (cr_sortV (un70 hr)) l_sortV rfl T.z_sorted (by decide +kernel) (pa3_cons (pv3 6) pa3_nil)))) pss3_nil) (pss3_cons (ps3_set 4 sc.nd rfl (pe3_lcD [("at", 3)] rfl sc.nd (pi3_range1 rfl T.z_range (pa3_cons (pe3_op op_add l_add pi3 (pe3_call G_law_any gd (hr.mono (by decide)) tk rfl T.m_law_any T.F_law_any.kp (b_law_any T.F_law_any) (pa3_cons (pv3 0) (pa3_cons pi3 pa3_nil)))) pa3_nil)) (blkOk_by (N := N_law_names) (sc := defScope s_law_names) (by decide +kernel)) lgl_name wp_name (fun _ _ _ _ _ => (pg_name (i := 3) sc.nd rfl (Or.inl rfl))) (fun _ _ _ _ _ => pts3_nil) (fun _ _ _ _ _ => (pe3_call G_law_of gd (hr.mono (by decide)) takes0 rfl T.m_law_of T.F_law_of.kp (b_law_of T.F_law_of) (pa3_cons (pv3 0) (pa3_cons (pv3 2) pa3_nil)))))) (pss3_cons (ps3_set 5 sc.nd rfl (pe3_call G_law_any gd (hr.mono (by decide)) tk rfl T.m_law_any T.F_law_any.kp (b_law_any T.F_law_any) (pa3_cons (pv3 0) (pa3_cons (pe3_op op_add l_add (pe3_B call_len3 l_len rfl T.z_len (by decide +kernel) (pa3_cons (pv3 4) pa3_nil)) pi3) pa3_nil)))) (pss3_one (ps3_ret (pe3_B (cr_sortV (un70 hr)) l_sortV rfl T.z_sorted (by decide +kernel) (pa3_cons (pe3_lcTD [("one", 8)] rfl sc.nd (pv3 6) (blkOk_by (N := N_law_names) (sc := defScope s_law_names) (by decide +kernel)) lgl_name wp_name (fun _ _ _ _ _ => (pg_name (i := 8) sc.nd rfl (Or.inl rfl))) (fun _ _ _ _ _ => pts3_nil) (fun _ _ _ _ _ => (pe3_op op_add_str l_addS (pe3_op op_add_str l_addS (pe3_sm1 PySem.F.slot_str_join PySem.F.type_str_join mt_join l_join pstr3 (pe3_slice sl_list l_slL (pv3 4) po3_none (po3_some (pv3 5)))) (pv3 8)) (pe3_sm1 PySem.F.slot_str_join PySem.F.type_str_join mt_join l_join pstr3 (pe3_slice sl_list l_slL (pv3 4) (po3_some (pv3 5)) po3_none))))) pa3_nil))))))))))
theorem ok_law_size_of {P : Program} {w : World} {K : PySem.W.Frag} {mg : Str → Option Value} {base : Heap} (T : Txt K mg)  (G_law_any : FnG P w K mg base (L2.CX P w) 1 T.f_law_any T.d_law_any P_law_any (LSp K sp_law_any)) (G_law_of : FnG P w K mg base (L2.CX P w) 2 T.f_law_of T.d_law_of P_law_of (LSp K sp_law_of)) : FnG P w K mg base (L2.CX P w) 3 T.f_law_size_of T.d_law_size_of P_law_size_of (LSp K sp_law_size_of) := by
  refine fn3 T.F_law_size_of sc_law_size_of rd_law_size_of len_law_size_of sem_law_size_of ?_
  intro X cdv A outer s H E hX gd hr tk hp
  have sc := sc_law_size_of
  subst hX
  exact (pss3_cons (ps3_set 1 sc.nd rfl (pe3_call G_law_of gd (hr.mono (by decide)) tk rfl T.m_law_of T.F_law_of.kp (b_law_of T.F_law_of) (pa3_cons (pv3 0) (pa3_cons (pe3_lstD (pa3_cons (pe3_op op_pow l_pow pi3 pi3) (pa3_cons (pe3_op op_pow l_pow pi3 pi3) pa3_nil))) pa3_nil)))) (pss3_cons (ps3_set 2 sc.nd rfl (pe3_call G_law_of gd (hr.mono (by decide)) tk rfl T.m_law_of T.F_law_of.kp (b_law_of T.F_law_of) (pa3_cons (pv3 0) (pa3_cons (pe3_lstD (pa3_cons pi3 (pa3_cons pi3 (pa3_cons pi3 (pa3_cons pi3 (pa3_cons pi3 (pa3_cons pi3 (pa3_cons (pe3_call G_law_any gd (hr.mono (by decide)) tk rfl T.m_law_any T.F_law_any.kp (b_law_any T.F_law_any) (pa3_cons (pv3 0) (pa3_cons pi3 pa3_nil))) (pa3_cons (pe3_call G_law_any gd (hr.mono (by decide)) tk rfl T.m_law_any T.F_law_any.kp (b_law_any T.F_law_any) (pa3_cons (pv3 0) (pa3_cons (pv3 1) pa3_nil))) pa3_nil))))))))) pa3_nil)))) (pss3_one (ps3_ret (pe3_if (pt3_cmp (op_eqX (un64 hr)) l_eq (pe3_call G_law_any gd (hr.mono (by decide)) tk rfl T.m_law_any T.F_law_any.kp (b_law_any T.F_law_any) (pa3_cons (pv3 0) (pa3_cons pi3 pa3_nil))) pi3 (nomark _)) (pe3_op op_sub l_sub pi3 (pv3 2)) (pv3 2))))))
theorem ok_law_uni {P : Program} {w : World} {K : PySem.W.Frag} {mg : Str → Option Value} {base : Heap} (T : Txt K mg)  (G_law_size_of : FnG P w K mg base (L2.CX P w) 3 T.f_law_size_of T.d_law_size_of P_law_size_of (LSp K sp_law_size_of)) : FnG P w K mg base (L2.CX P w) 4 T.f_law_uni T.d_law_uni P_law_uni (LSp K sp_law_uni) := by
  refine fn3 T.F_law_uni sc_law_uni rd_law_uni len_law_uni sem_law_uni ?_
  intro X cdv A outer s H E hX gd hr tk hp
  have sc := sc_law_uni
  subst hX
  exact (pss3_cons (ps3_set 2 sc.nd rfl (pe3_lstM pa3_nil)) (pss3_cons (ps3_for hp rfl (pi3_range1 rfl T.z_range (pa3_cons (pv3 1) pa3_nil)) (pg3_name 3 sc.nd) (pss3_cons (ps3_set 4 sc.nd rfl (pe3_op op_cat l_catM (pe3_op op_rep l_repM (pe3_lstM (pa3_cons pi3 pa3_nil)) (pv3 3)) (pe3_lstM (pa3_cons pi3 pa3_nil)))) (pss3_cons (ps3_for hp rfl (pi3_range2 rfl T.z_range (pa3_cons (pe3_op op_add l_add (pv3 3) pi3) (pa3_cons (pv3 1) pa3_nil))) (pg3_name 5 sc.nd) (pss3_one (ps3_expr (pe3_bm PySem.F.slot_list_append PySem.F.type_list_append mt_append l_append (pv3 4) (pa3_cons (pe3_call G_law_size_of gd (hr.mono (by decide)) tk rfl T.m_law_size_of T.F_law_size_of.kp (b_law_size_of T.F_law_size_of) (pa3_cons (pv3 0) pa3_nil)) pa3_nil))))) (pss3_one (ps3_expr (pe3_bm PySem.F.slot_list_append PySem.F.type_list_append mt_append l_append (pv3 2) (pa3_cons (pe3_Ty call_tuple_ofN l_tuple rfl T.z_tuple (by decide +kernel) (pa3_cons (pv3 4) pa3_nil)) pa3_nil))))))) (pss3_one (ps3_ret (pe3_Ty call_tuple_ofN l_tuple rfl T.z_tuple (by decide +kernel) (pa3_cons (pv3 2) pa3_nil))))))
theorem ok_law_counts {P : Program} {w : World} {K : PySem.W.Frag} {mg : Str → Option Value} {base : Heap} (T : Txt K mg)  (G_law_any : FnG P w K mg base (L2.CX P w) 1 T.f_law_any T.d_law_any P_law_any (LSp K sp_law_any)) (G_law_names : FnG P w K mg base (L2.CX P w) 3 T.f_law_names T.d_law_names P_law_names (LSp K sp_law_names)) (G_law_uni : FnG P w K mg base (L2.CX P w) 4 T.f_law_uni T.d_law_uni P_law_uni (LSp K sp_law_uni)) : FnG P w K mg base (L2.CX P w) 5 T.f_law_counts T.d_law_counts P_law_counts (LSp K sp_law_counts) := by
  refine fn3 T.F_law_counts sc_law_counts rd_law_counts len_law_counts sem_law_counts ?_
  intro X cdv A outer s H E hX gd hr tk hp
  have sc := sc_law_counts
  subst hX
  exact (pss3_cons (ps3_set 2 sc.nd rfl (pe3_call G_law_names gd (hr.mono (by decide)) tk rfl T.m_law_names T.F_law_names.kp (b_law_names T.F_law_names) (pa3_cons (pv3 0) (pa3_cons (pe3_op op_add l_add pi3 (pe3_call G_law_any gd (hr.mono (by decide)) tk rfl T.m_law_any T.F_law_any.kp (b_law_any T.F_law_any) (pa3_cons (pv3 0) (pa3_cons pi3 pa3_nil)))) pa3_nil)))) (pss3_one (ps3_ret (pe3_Ty call_tuple_ofN l_tuple rfl T.z_tuple (by decide +kernel) (pa3_cons (pe3_lcD [("name", 3)] rfl sc.nd (pi3_seq (pv3 2)) (blkOk_by (N := N_law_counts) (sc := defScope s_law_counts) (by decide +kernel)) lgl_name wp_name (fun _ _ _ _ _ => (pg_name (i := 3) sc.nd rfl (Or.inl rfl))) (fun _ _ _ _ _ => pts3_nil) (fun _ _ _ _ _ => (pe3_tup (pa3_cons (pv3 3) (pa3_cons (pe3_call G_law_uni gd (hr.mono (by decide)) takes0 rfl T.m_law_uni T.F_law_uni.kp (b_law_uni T.F_law_uni) (pa3_cons (pv3 0) (pa3_cons (pv3 1) pa3_nil))) pa3_nil))))) pa3_nil)))))
theorem ok_law_counts_row {P : Program} {w : World} {K : PySem.W.Frag} {mg : Str → Option Value} {base : Heap} (T : Txt K mg)  (G_law_size_of : FnG P w K mg base (L2.CX P w) 3 T.f_law_size_of T.d_law_size_of P_law_size_of (LSp K sp_law_size_of)) : FnG P w K mg base (L2.CX P w) 4 T.f_law_counts_row T.d_law_counts_row P_law_counts_row (LSp K sp_law_counts_row) := by
  refine fn3 T.F_law_counts_row sc_law_counts_row rd_law_counts_row len_law_counts_row sem_law_counts_row ?_
  intro X cdv A outer s H E hX gd hr tk hp
  have sc := sc_law_counts_row
  subst hX
  exact (pss3_one (ps3_ret (pe3_Ty call_tuple_ofN l_tuple rfl T.z_tuple (by decide +kernel) (pa3_cons (pe3_lcD [("at", 2)] rfl sc.nd (pi3_range1 rfl T.z_range (pa3_cons (pv3 1) pa3_nil)) (blkOk_by (N := N_law_counts_row) (sc := defScope s_law_counts_row) (by decide +kernel)) lgl_name wp_name (fun _ _ _ _ _ => (pg_name (i := 2) sc.nd rfl (Or.inl rfl))) (fun _ _ _ _ _ => pts3_nil) (fun _ _ _ _ _ => (pe3_call G_law_size_of gd (hr.mono (by decide)) takes0 rfl T.m_law_size_of T.F_law_size_of.kp (b_law_size_of T.F_law_size_of) (pa3_cons (pv3 0) pa3_nil)))) pa3_nil))))
theorem ok_law_deal {P : Program} {w : World} {K : PySem.W.Frag} {mg : Str → Option Value} {base : Heap} (T : Txt K mg)   : FnG P w K mg base (L2.CX P w) 1 T.f_law_deal T.d_law_deal P_law_deal (LSp K sp_law_deal) := by
  refine fn3 T.F_law_deal sc_law_deal rd_law_deal len_law_deal sem_law_deal ?_
  intro X cdv A outer s H E hX gd hr tk hp
  have sc := sc_law_deal
  subst hX
  exact (pss3_cons (ps3_setLcD 2 [("cell", 4)] rfl sc.nd (sw_true rfl rfl rfl (by decide +kernel)) (pi3_seq (pe3_slice sl_list l_slL (pv3 0) po3_none (po3_some pi3))) (blkOk_by (N := N_law_deal) (sc := defScope s_law_deal) (by decide +kernel)) lgl_name wp_name (fun _ _ _ _ _ => (pg_name (i := 4) sc.nd rfl (Or.inl rfl))) (fun _ _ _ _ _ => pts3_nil) (fun _ _ _ _ _ => (pe3_B call_abs l_abs rfl T.z_abs (by decide +kernel) (pa3_cons (pe3_Ty call_int1 l_int rfl T.z_int (by decide +kernel) (pa3_cons (pv3 4) pa3_nil)) pa3_nil)))) (pss3_cons (ps3_set 3 sc.nd rfl (pe3_op op_add l_add (pe3_op op_mul l_mul pi3 (pv3 1)) pi3)) (pss3_cons (ps3_for hp rfl (pi3_seq (pv3 2)) (pg3_name 4 sc.nd) (pss3_one (ps3_set 3 sc.nd rfl (pe3_op op_mod l_mod (pe3_Ty call_int1 l_int rfl T.z_int (by decide +kernel) (pa3_cons (pe3_op op_add l_add (pe3_op op_add l_add (pe3_op op_mul l_mul (pv3 3) pi3) (pe3_op op_mod l_mod (pv3 4) pi3)) pi3) pa3_nil)) pi3)))) (pss3_one (ps3_ret (pe3_lstM (pa3_cons (pe3_revM (pe3_lcD [("cell", 4)] rfl sc.nd (pi3_seq (pv3 2)) (blkOk_by (N := N_law_deal) (sc := defScope s_law_deal) (by decide +kernel)) lgl_name wp_name (fun _ _ _ _ _ => (pg_name (i := 4) sc.nd rfl (Or.inl rfl))) (fun _ _ _ _ _ => (pts3_one (pt3_cmp op_ge l_ge (pv3 4) (pe3_op op_pow l_pow pi3 pi3) (nomark _)))) (fun _ _ _ _ _ => (pv3 4)))) (pa3_cons (pv3 3) pa3_nil))))))))
theorem ok_law_full {P : Program} {w : World} {K : PySem.W.Frag} {mg : Str → Option Value} {base : Heap} (T : Txt K mg)  (G_law_corner : FnG P w K mg base (L2.CX P w) 2 T.f_law_corner T.d_law_corner P_law_corner (LSp K sp_law_corner)) : FnG P w K mg base (L2.CX P w) 3 T.f_law_full T.d_law_full P_law_full (LSp K sp_law_full) := by
  refine fn3 T.F_law_full sc_law_full rd_law_full len_law_full sem_law_full ?_
  intro X cdv A outer s H E hX gd hr tk hp
  have sc := sc_law_full
  subst hX
  exact (pss3_cons (ps3_set 1 sc.nd rfl (pe3_lstM pa3_nil)) (pss3_cons (ps3_for hp rfl (pi3_seq (pe3_tup (pa3_cons (pe3_tup (pa3_cons pstr3 (pa3_cons (pe3_neg pi3) pa3_nil))) (pa3_cons (pe3_tup (pa3_cons pstr3 (pa3_cons pi3 pa3_nil))) pa3_nil)))) (pg3_tup rfl (pgs3_cons (pg3_name 2 sc.nd) (pgs3_cons (pg3_name 3 sc.nd) pgs3_nil))) (pss3_one (ps3_for hp rfl (pi3_range1 rfl T.z_range (pa3_cons (pe3_op op_sub l_sub (pv3 0) pi3) pa3_nil)) (pg3_name 4 sc.nd) (pss3_one (ps3_expr (pe3_bm PySem.F.slot_list_append PySem.F.type_list_append mt_append l_append (pv3 1) (pa3_cons (pe3_tup (pa3_cons (pe3_op op_add_str l_addS (pv3 2) (pe3_ix pstr3 (pv3 4))) (pa3_cons (pe3_call G_law_corner gd (hr.mono (by decide)) tk rfl T.m_law_corner T.F_law_corner.kp (b_law_corner T.F_law_corner) (pa3_cons (pv3 0) (pa3_cons (pv3 4) (pa3_cons (pe3_op op_add l_add (pv3 4) pi3) (pa3_cons (pv3 3) pa3_nil))))) pa3_nil))) pa3_nil))))))) (pss3_one (ps3_ret (pe3_Ty call_tuple_ofN l_tuple rfl T.z_tuple (by decide +kernel) (pa3_cons (pv3 1) pa3_nil))))))
theorem ok_law_is_int {P : Program} {w : World} {K : PySem.W.Frag} {mg : Str → Option Value} {base : Heap} (T : Txt K mg)   : FnG P w K mg base (L2.CX P w) 1 T.f_law_is_int T.d_law_is_int P_law_is_int (LSp K sp_law_is_int) := by
  refine fn3 T.F_law_is_int sc_law_is_int rd_law_is_int len_law_is_int sem_law_is_int ?_
  intro X cdv A outer s H E hX gd hr tk hp
  have sc := sc_law_is_int
  subst hX
  exact (pss3_one (ps3_ret (pe3_and (pe3_B call_isi l_isi rfl T.z_isinstance (by decide +kernel) (pa3_cons (pv3 0) (pa3_cons (pty3 rfl T.z_int (by decide +kernel)) pa3_nil))) (pe3_one (pe3_not (pe3_B call_isi l_isi rfl T.z_isinstance (by decide +kernel) (pa3_cons (pv3 0) (pa3_cons (pty3 rfl T.z_bool (by decide +kernel)) pa3_nil))))))))
theorem ok_law_is_uni {P : Program} {w : World} {K : PySem.W.Frag} {mg : Str → Option Value} {base : Heap} (T : Txt K mg)  (G_law_is_int : FnG P w K mg base (L2.CX P w) 1 T.f_law_is_int T.d_law_is_int P_law_is_int (LSp K sp_law_is_int)) : FnG P w K mg base (L2.CX P w) 2 T.f_law_is_uni T.d_law_is_uni P_law_is_uni (LSp K sp_law_is_uni) := by
  refine fn3 T.F_law_is_uni sc_law_is_uni rd_law_is_uni len_law_is_uni sem_law_is_uni ?_
  intro X cdv A outer s H E hX gd hr tk hp
  have sc := sc_law_is_uni
  subst hX
  exact (pss3_cons (ps3_if (PW.pt (pw3_or (pt3_not (pt3_val (pe3_B call_isi l_isi rfl T.z_isinstance (by decide +kernel) (pa3_cons (pv3 0) (pa3_cons (pty3 rfl T.z_tuple (by decide +kernel)) pa3_nil))))) (pw3_or1 (pt3_notInRg rfl T.z_range (pe3_B call_len3 l_len rfl T.z_len (by decide +kernel) (pa3_cons (pv3 0) pa3_nil)) (pa3_cons pi3 (pa3_cons pi3 pa3_nil)))))) (pss3_one (ps3_ret pb3)) pss3_nil) (pss3_cons (ps3_for hp rfl (pi3_range1 rfl T.z_range (pa3_cons (pe3_B call_len3 l_len rfl T.z_len (by decide +kernel) (pa3_cons (pv3 0) pa3_nil)) pa3_nil)) (pg3_name 1 sc.nd) (pss3_cons (ps3_set 2 sc.nd rfl (pe3_ix (pv3 0) (pv3 1))) (pss3_cons (ps3_if (PW.pt (pw3_or (pt3_not (pt3_val (pe3_B call_isi l_isi rfl T.z_isinstance (by decide +kernel) (pa3_cons (pv3 2) (pa3_cons (pty3 rfl T.z_tuple (by decide +kernel)) pa3_nil))))) (pw3_or (pt3_cmp (op_neX (un64 hr)) l_ne (pe3_B call_len3 l_len rfl T.z_len (by decide +kernel) (pa3_cons (pv3 2) pa3_nil)) (pe3_B call_len3 l_len rfl T.z_len (by decide +kernel) (pa3_cons (pv3 0) pa3_nil)) (nomark _)) (pw3_or1 (pt3_cmp (op_neX (un64 hr)) l_ne (pe3_lcD [("one", 3)] rfl sc.nd (pi3_seq (pv3 2)) (blkOk_by (N := N_law_is_uni) (sc := defScope s_law_is_uni) (by decide +kernel)) lgl_name wp_name (fun _ _ _ _ _ => (pg_name (i := 3) sc.nd rfl (Or.inl rfl))) (fun _ _ _ _ _ => (pts3_one (pt3_not (pt3_val (pe3_call G_law_is_int gd (hr.mono (by decide)) takes0 rfl T.m_law_is_int T.F_law_is_int.kp (b_law_is_int T.F_law_is_int) (pa3_cons (pv3 3) pa3_nil)))))) (fun _ _ _ _ _ => (pv3 3))) (pe3_lstD pa3_nil) (nomark _)))))) (pss3_one (ps3_ret pb3)) pss3_nil) (pss3_one (ps3_if (pt3_cmp (op_neX (un64 hr)) l_ne (pe3_Ty call_list_of l_listD rfl T.z_list (by decide +kernel) (pa3_cons (pe3_slice sl_tupN l_slT (pv3 2) po3_none (po3_some (pe3_op op_add l_add (pv3 1) pi3))) pa3_nil)) (pe3_op op_cat l_catM (pe3_op op_rep l_repM (pe3_lstM (pa3_cons pi3 pa3_nil)) (pv3 1)) (pe3_lstM (pa3_cons pi3 pa3_nil))) (nomark _)) (pss3_one (ps3_ret pb3)) pss3_nil))))) (pss3_one (ps3_ret pb3))))
theorem ok_law_log {P : Program} {w : World} {K : PySem.W.Frag} {mg : Str → Option Value} {base : Heap} (T : Txt K mg)  (G_law_any : FnG P w K mg base (L2.CX P w) 1 T.f_law_any T.d_law_any P_law_any (LSp K sp_law_any)) (G_law_of : FnG P w K mg base (L2.CX P w) 2 T.f_law_of T.d_law_of P_law_of (LSp K sp_law_of)) : FnG P w K mg base (L2.CX P w) 3 T.f_law_log T.d_law_log P_law_log (LSp K sp_law_log) := by
  refine fn3 T.F_law_log sc_law_log rd_law_log len_law_log sem_law_log ?_
  intro X cdv A outer s H E hX gd hr tk hp
  have sc := sc_law_log
  subst hX
  exact (pss3_cons (ps3_setLcD 4 [("name", 7), ("one", 8)] rfl sc.nd (sw_true rfl rfl rfl (by decide +kernel)) (pi3_seq (pv3 1)) (blkOk_by (N := N_law_log) (sc := defScope s_law_log) (by decide +kernel)) (lgl_tup (lgls_cons (lgls_cons lgls_nil))) (wp_tup (wps_cons (wps_cons wps_nil))) (fun _ _ _ _ _ => (pg_tup rfl (pgs_cons (pg_name (i := 7) sc.nd rfl (Or.inl rfl)) (pgs_cons (pg_name (i := 8) sc.nd rfl (Or.inl rfl)) pgs_nil)))) (fun _ _ _ _ _ => pts3_nil) (fun _ _ _ _ _ => (pv3 7))) (pss3_cons (ps3_set 5 sc.nd rfl (pe3_lstM pa3_nil)) (pss3_cons (ps3_for hp rfl (pi3_range1 rfl T.z_range (pa3_cons (pe3_if (pt3_cmp (op_neX (un64 hr)) l_ne (pv3 2) (pe3_lstD pa3_nil) (nomark _)) (pe3_call G_law_any gd (hr.mono (by decide)) tk rfl T.m_law_any T.F_law_any.kp (b_law_any T.F_law_any) (pa3_cons (pv3 0) (pa3_cons (pe3_op op_add l_add (pv3 3) pi3) pa3_nil))) pi3) pa3_nil)) (pg3_name 6 sc.nd) (pss3_one (ps3_expr (pe3_bm PySem.F.slot_list_append PySem.F.type_list_append mt_append l_append (pv3 5) (pa3_cons (pe3_tup (pa3_cons (pe3_call G_law_of gd (hr.mono (by decide)) tk rfl T.m_law_of T.F_law_of.kp (b_law_of T.F_law_of) (pa3_cons (pv3 0) (pa3_cons (pv3 2) pa3_nil))) (pa3_cons (pe3_call G_law_of gd (hr.mono (by decide)) tk rfl T.m_law_of T.F_law_of.kp (b_law_of T.F_law_of) (pa3_cons (pv3 0) (pa3_cons (pv3 4) pa3_nil))) pa3_nil))) pa3_nil))))) (pss3_one (ps3_ret (pe3_Ty call_tuple_ofN l_tuple rfl T.z_tuple (by decide +kernel) (pa3_cons (pv3 5) pa3_nil)))))))
theorem ok_law_played {P : Program} {w : World} {K : PySem.W.Frag} {mg : Str → Option Value} {base : Heap} (T : Txt K mg)  (G_law_after : FnG P w K mg base (L2.CX P w) 2 T.f_law_after T.d_law_after P_law_after (LSp K sp_law_after)) (G_law_still : FnG P w K mg base (L2.CX P w) 1 T.f_law_still T.d_law_still P_law_still (LSp K sp_law_still)) : FnG P w K mg base (L2.CX P w) 3 T.f_law_played T.d_law_played P_law_played (LSp K sp_law_played) := by
  refine fn3 T.F_law_played sc_law_played rd_law_played len_law_played sem_law_played ?_
  intro X cdv A outer s H E hX gd hr tk hp
  have sc := sc_law_played
  subst hX
  exact (pss3_cons (ps3_par 4 5 rfl sc.nd (pa3_cons (pe3_Ty (call_dictT rfl) l_dictP rfl T.z_dict (by decide +kernel) (pa3_cons (pv3 0) pa3_nil)) (pa3_cons (pe3_call G_law_still gd (hr.mono (by decide)) tk rfl T.m_law_still T.F_law_still.kp (b_law_still T.F_law_still) (pa3_cons (pv3 1) pa3_nil)) pa3_nil))) (pss3_cons (ps3_for hp rfl (pi3_seq (pv3 2)) (pg3_tup rfl (pgs3_cons (pg3_name 6 sc.nd) (pgs3_cons (pg3_name 7 sc.nd) pgs3_nil))) (pss3_one (ps3_if (pt3_cmp (op_inV (un70 hr)) l_in (pv3 6) (pv3 3) (by rfl)) (pss3_one (ps3_set 5 sc.nd rfl (pe3_call G_law_after gd (hr.mono (by decide)) tk rfl T.m_law_after T.F_law_after.kp (b_law_after T.F_law_after) (pa3_cons (pv3 5) (pa3_cons (pe3_dk (un1 hr) (pv3 4) (pv3 7)) pa3_nil))))) pss3_nil))) (pss3_one (ps3_ret (pv3 5)))))
theorem ok_law_who {P : Program} {w : World} {K : PySem.W.Frag} {mg : Str → Option Value} {base : Heap} (T : Txt K mg)  (G_law_any : FnG P w K mg base (L2.CX P w) 1 T.f_law_any T.d_law_any P_law_any (LSp K sp_law_any)) : FnG P w K mg base (L2.CX P w) 2 T.f_law_who T.d_law_who P_law_who (LSp K sp_law_who) := by
  refine fn3 T.F_law_who sc_law_who rd_law_who len_law_who sem_law_who ?_
  intro X cdv A outer s H E hX gd hr tk hp
  have sc := sc_law_who
  subst hX
  exact (pss3_cons (ps3_if (pt3_cmp (op_eqX (un64 hr)) l_eq (pe3_call G_law_any gd (hr.mono (by decide)) tk rfl T.m_law_any T.F_law_any.kp (b_law_any T.F_law_any) (pa3_cons (pv3 0) (pa3_cons pi3 pa3_nil))) pi3 (nomark _)) (pss3_one (ps3_ret (pe3_lstRgD rfl rfl T.z_list (prg3_1 rfl T.z_range (pv3 1))))) pss3_nil) (pss3_cons (ps3_par 3 4 rfl sc.nd (pa3_cons (pe3_lstM pa3_nil) (pa3_cons pi3 pa3_nil))) (pss3_cons (ps3_for hp rfl (pi3_range1 rfl T.z_range (pa3_cons (pv3 1) pa3_nil)) (pg3_name 2 sc.nd) (pss3_cons (ps3_set 4 sc.nd rfl (pe3_op op_add l_add (pv3 4) (pe3_op op_mul l_mul (pe3_call G_law_any gd (hr.mono (by decide)) tk rfl T.m_law_any T.F_law_any.kp (b_law_any T.F_law_any) (pa3_cons (pv3 0) (pa3_cons pi3 pa3_nil))) (pe3_if (pt3_cmp op_gt l_gt (pe3_call G_law_any gd (hr.mono (by decide)) tk rfl T.m_law_any T.F_law_any.kp (b_law_any T.F_law_any) (pa3_cons (pv3 0) (pa3_cons pi3 pa3_nil))) pi3 (nomark _)) pi3 pi3)))) (pss3_cons (ps3_expr (pe3_bm PySem.F.slot_list_append PySem.F.type_list_append mt_append l_append (pv3 3) (pa3_cons (pv3 4) pa3_nil))) (pss3_one (ps3_set 4 sc.nd rfl (pe3_op op_add l_add (pv3 4) pi3)))))) (pss3_frz 3 (pss3_one (ps3_ret (pv3 3)))))))
theorem ok_still_uni {P : Program} {w : World} {K : PySem.W.Frag} {mg : Str → Option Value} {base : Heap} (T : Txt K mg)   : FnG P w K mg base (L2.CX P w) 1 T.f_still_uni T.d_still_uni P_still_uni (LSp K sp_still_uni) := by
  refine fn3 T.F_still_uni sc_still_uni rd_still_uni len_still_uni sem_still_uni ?_
  intro X cdv A outer s H E hX gd hr tk hp
  have sc := sc_still_uni
  subst hX
  exact (pss3_one (ps3_ret (pe3_Ty call_tuple_ofN l_tuple rfl T.z_tuple (by decide +kernel) (pa3_cons (pe3_lcD [("at", 1)] rfl sc.nd (pi3_range1 rfl T.z_range (pa3_cons (pv3 0) pa3_nil)) (blkOk_by (N := N_still_uni) (sc := defScope s_still_uni) (by decide +kernel)) lgl_name wp_name (fun _ _ _ _ _ => (pg_name (i := 1) sc.nd rfl (Or.inr rfl))) (fun _ _ _ _ _ => pts3_nil) (fun _ _ _ _ _ => (pe3_Ty call_tuple_ofN l_tuple rfl T.z_tuple (by decide +kernel) (pa3_cons (pe3_lcD [("column", 2)] rfl sc.nd (pi3_range1 rfl T.z_range (pa3_cons (pv3 0) pa3_nil)) (blkOk_by (N := N_still_uni) (by kernel_rfl)) lgl_name wp_name (fun _ _ _ _ _ => (pg_name (i := 2) sc.nd rfl (Or.inl rfl))) (fun _ _ _ _ _ => pts3_nil) (fun _ _ _ _ _ => (pe3_if (pt3_cmp (op_eqX (un64 hr)) l_eq (pv3 1) (pv3 2) (nomark _)) pi3 pi3))) pa3_nil)))) pa3_nil))))
theorem ok_corner {P : Program} {w : World} {K : PySem.W.Frag} {mg : Str → Option Value} {base : Heap} (T : Txt K mg)  (G_still_uni : FnG P w K mg base (L2.CX P w) 1 T.f_still_uni T.d_still_uni P_still_uni (LSp K sp_still_uni)) : FnG P w K mg base (L2.CX P w) 2 T.f_corner T.d_corner P_corner (LSp K sp_corner) := by
  refine fn3 T.F_corner sc_corner rd_corner len_corner sem_corner ?_
  intro X cdv A outer s H E hX gd hr tk hp
  have sc := sc_corner
  subst hX
  exact (pss3_cons (ps3_setLcM 4 [("row", 5)] rfl sc.nd (sw_true rfl rfl rfl (by decide +kernel)) (pi3_seq (pe3_call G_still_uni gd (hr.mono (by decide)) tk rfl T.m_still_uni T.F_still_uni.kp (b_still_uni T.F_still_uni) (pa3_cons (pv3 0) pa3_nil))) (blkOk_by (N := N_corner) (sc := defScope s_corner) (by decide +kernel)) lgl_name wp_name (fun _ _ _ _ _ => (pg_name (i := 5) sc.nd rfl (Or.inl rfl))) (fun _ _ _ _ _ => pts3_nil) (fun _ _ _ _ _ => (pe3_Ty call_list_of l_listM rfl T.z_list (by decide +kernel) (pa3_cons (pv3 5) pa3_nil)))) (pss3_cons (ps3_asg (pv3 3) (pg3_sub (pe3_ix (pv3 4) (pv3 1)) (pv3 2))) (pss3_one (ps3_ret (pe3_Ty call_tuple_ofN l_tuple rfl T.z_tuple (by decide +kernel) (pa3_cons (pe3_lcTD [("row", 5)] rfl sc.nd (pv3 4) (blkOk_by (N := N_corner) (sc := defScope s_corner) (by decide +kernel)) lgl_name wp_name (fun _ _ _ _ _ => (pg_name (i := 5) sc.nd rfl (Or.inl rfl))) (fun _ _ _ _ _ => pts3_nil) (fun _ _ _ _ _ => (pe3_Ty call_tuple_ofN l_tuple rfl T.z_tuple (by decide +kernel) (pa3_cons (pv3 5) pa3_nil)))) pa3_nil))))))
theorem ok_counts_behind {P : Program} {w : World} {K : PySem.W.Frag} {mg : Str → Option Value} {base : Heap} (T : Txt K mg)   : FnG P w K mg base (L2.CX P w) 1 T.f_counts_behind T.d_counts_behind P_counts_behind (LSp K sp_counts_behind) := by
  refine fn3 T.F_counts_behind sc_counts_behind rd_counts_behind len_counts_behind sem_counts_behind ?_
  intro X cdv A outer s H E hX gd hr tk hp
  have sc := sc_counts_behind
  subst hX
  exact (pss3_cons (ps3_set 2 sc.nd rfl (pe3_B call_len3 l_len rfl T.z_len (by decide +kernel) (pa3_cons (pv3 1) pa3_nil))) (pss3_one (ps3_ret (pe3_Ty call_tuple_ofN l_tuple rfl T.z_tuple (by decide +kernel) (pa3_cons (pe3_lcD [("column", 3)] rfl sc.nd (pi3_range1 rfl T.z_range (pa3_cons (pv3 2) pa3_nil)) (blkOk_by (N := N_counts_behind) (sc := defScope s_counts_behind) (by decide +kernel)) lgl_name wp_name (fun _ _ _ _ _ => (pg_name (i := 3) sc.nd rfl (Or.inr rfl))) (fun _ _ _ _ _ => pts3_nil) (fun _ _ _ _ _ => (pe3_B (cr_sum rfl) l_sum rfl T.z_sum (by decide +kernel) (pa3_cons (pe3_lcD [("at", 4)] rfl sc.nd (pi3_range1 rfl T.z_range (pa3_cons (pv3 2) pa3_nil)) (blkOk_by (N := N_counts_behind) (by kernel_rfl)) lgl_name wp_name (fun _ _ _ _ _ => (pg_name (i := 4) sc.nd rfl (Or.inl rfl))) (fun _ _ _ _ _ => pts3_nil) (fun _ _ _ _ _ => (pe3_op op_mulW l_mulW (pe3_ix (pv3 0) (pv3 4)) (pe3_ix (pe3_ix (pv3 1) (pv3 4)) (pv3 3))))) pa3_nil)))) pa3_nil)))))
theorem ok_uni_joined {P : Program} {w : World} {K : PySem.W.Frag} {mg : Str → Option Value} {base : Heap} (T : Txt K mg)  (G_counts_behind : FnG P w K mg base (L2.CX P w) 1 T.f_counts_behind T.d_counts_behind P_counts_behind (LSp K sp_counts_behind)) : FnG P w K mg base (L2.CX P w) 2 T.f_uni_joined T.d_uni_joined P_uni_joined (LSp K sp_uni_joined) := by
  refine fn3 T.F_uni_joined sc_uni_joined rd_uni_joined len_uni_joined sem_uni_joined ?_
  intro X cdv A outer s H E hX gd hr tk hp
  have sc := sc_uni_joined
  subst hX
  exact (pss3_one (ps3_ret (pe3_Ty call_tuple_ofN l_tuple rfl T.z_tuple (by decide +kernel) (pa3_cons (pe3_lcD [("row", 2)] rfl sc.nd (pi3_seq (pv3 0)) (blkOk_by (N := N_uni_joined) (sc := defScope s_uni_joined) (by decide +kernel)) lgl_name wp_name (fun _ _ _ _ _ => (pg_name (i := 2) sc.nd rfl (Or.inl rfl))) (fun _ _ _ _ _ => pts3_nil) (fun _ _ _ _ _ => (pe3_call G_counts_behind gd (hr.mono (by decide)) takes0 rfl T.m_counts_behind T.F_counts_behind.kp (b_counts_behind T.F_counts_behind) (pa3_cons (pv3 2) (pa3_cons (pv3 1) pa3_nil))))) pa3_nil))))
theorem ok_counted {P : Program} {w : World} {K : PySem.W.Frag} {mg : Str → Option Value} {base : Heap} (T : Txt K mg) (tb : Nat → Addr)  (hC_Counting : T.C_Counting = tb 0) (G_still_uni : FnG P w K mg base (L2.CX P w) 1 T.f_still_uni T.d_still_uni P_still_uni (LSp K sp_still_uni)) (G_uni_joined : FnG P w K mg base (L2.CX P w) 2 T.f_uni_joined T.d_uni_joined P_uni_joined (LSp K sp_uni_joined)) : FnG P w K mg base (L2.CX P w) 3 T.f_counted T.d_counted P_counted (LSp K (sp_counted tb)) := by
  refine fn3 T.F_counted sc_counted (rd_counted tb) (len_counted tb) (sem_counted tb) ?_
  intro X cdv A outer s H E hX gd hr tk hp
  have sc := sc_counted
  subst hX
  have cl_Counting : Cls K (tb 0) := hC_Counting ▸ T.cl_Counting
  have isf_Counting : IsF K (tb 0) := hC_Counting ▸ T.is_Counting
  have mC_Counting : mg "Counting" = some (.ref (tb 0)) := hC_Counting ▸ T.mC_Counting
  have mt_Counting_eq : Meth K (tb 0) "__eq__" T.f_Counting_eq := hC_Counting ▸ T.mt_Counting_eq
  have mk_Counting : Mk K (tb 0) T.f_Counting_init := hC_Counting ▸ T.mk_Counting
  have na_Counting_size : NoAttr K (tb 0) "size" := hC_Counting ▸ T.na_Counting_size
  have na_Counting_deeds : NoAttr K (tb 0) "deeds" := hC_Counting ▸ T.na_Counting_deeds
  exact (pss3_cons (ps3_setDc 3 [("name", 6), ("uni", 7)] rfl sc.nd (dc_swaps rfl rfl rfl (by decide +kernel)) (pi3_seq (pe3_fld cl_Counting na_Counting_deeds (pv3 0))) (blkOk_by (N := N_counted) (sc := defScope s_counted) (by decide +kernel)) (lgl_tup (lgls_cons (lgls_cons lgls_nil))) (wp_tup (wps_cons (wps_cons wps_nil))) (fun _ _ _ _ _ => (pg_tup rfl (pgs_cons (pg_name (i := 6) sc.nd rfl (Or.inl rfl)) (pgs_cons (pg_name (i := 7) sc.nd rfl (Or.inl rfl)) pgs_nil)))) (fun _ _ _ _ _ => pts3_nil) (fun _ _ _ _ _ => (pv3 6)) (fun _ _ _ _ _ => (pv3 7))) (pss3_cons (ps3_set 4 sc.nd rfl (pe3_call G_still_uni gd (hr.mono (by decide)) tk rfl T.m_still_uni T.F_still_uni.kp (b_still_uni T.F_still_uni) (pa3_cons (pe3_fld cl_Counting na_Counting_size (pv3 0)) pa3_nil))) (pss3_cons (ps3_for hp rfl (pi3_seq (pv3 1)) (pg3_tup rfl (pgs3_cons (pg3_name 5 sc.nd) (pgs3_cons (pg3_name 6 sc.nd) pgs3_nil))) (pss3_one (ps3_if (pt3_cmp (op_inV (un70 hr)) l_in (pv3 5) (pv3 2) (by rfl)) (pss3_one (ps3_set 4 sc.nd rfl (pe3_call G_uni_joined gd (hr.mono (by decide)) tk rfl T.m_uni_joined T.F_uni_joined.kp (b_uni_joined T.F_uni_joined) (pa3_cons (pv3 4) (pa3_cons (pe3_dk (un1 hr) (pv3 3) (pv3 6)) pa3_nil))))) pss3_nil))) (pss3_one (ps3_ret (pv3 4))))))
theorem ok_full_counting {P : Program} {w : World} {K : PySem.W.Frag} {mg : Str → Option Value} {base : Heap} (T : Txt K mg) (tb : Nat → Addr)  (hC_Counting : T.C_Counting = tb 0) (G_Counting_init : FnG P w K mg base (L2.CX P w) 1 T.f_Counting_init T.d_Counting_init P_Counting_init (LSp K (sp_Counting_init tb))) (G_corner : FnG P w K mg base (L2.CX P w) 2 T.f_corner T.d_corner P_corner (LSp K sp_corner)) : FnG P w K mg base (L2.CX P w) 3 T.f_full_counting T.d_full_counting P_full_counting (LSp K (sp_full_counting tb)) := by
  refine fn3 T.F_full_counting sc_full_counting (rd_full_counting tb) (len_full_counting tb) (sem_full_counting tb) ?_
  intro X cdv A outer s H E hX gd hr tk hp
  have sc := sc_full_counting
  subst hX
  have cl_Counting : Cls K (tb 0) := hC_Counting ▸ T.cl_Counting
  have isf_Counting : IsF K (tb 0) := hC_Counting ▸ T.is_Counting
  have mC_Counting : mg "Counting" = some (.ref (tb 0)) := hC_Counting ▸ T.mC_Counting
  have mt_Counting_eq : Meth K (tb 0) "__eq__" T.f_Counting_eq := hC_Counting ▸ T.mt_Counting_eq
  have mk_Counting : Mk K (tb 0) T.f_Counting_init := hC_Counting ▸ T.mk_Counting
  have na_Counting_size : NoAttr K (tb 0) "size" := hC_Counting ▸ T.na_Counting_size
  have na_Counting_deeds : NoAttr K (tb 0) "deeds" := hC_Counting ▸ T.na_Counting_deeds
  exact (pss3_cons (ps3_set 1 sc.nd rfl (pe3_slice sl_str l_slS pstr3 po3_none (po3_some (pe3_op op_sub l_sub (pv3 0) pi3)))) (pss3_cons (ps3_setLcD 2 [("at", 4), ("sign", 5)] rfl sc.nd (sw_true rfl rfl rfl (by decide +kernel)) (pi3_enumS rfl T.z_enumerate (pa3_cons (pv3 1) pa3_nil)) (blkOk_by (N := N_full_counting) (sc := defScope s_full_counting) (by decide +kernel)) (lgl_tup (lgls_cons (lgls_cons lgls_nil))) (wp_tup (wps_cons (wps_cons wps_nil))) (fun _ _ _ _ _ => (pg_tup rfl (pgs_cons (pg_name (i := 4) sc.nd rfl (Or.inl rfl)) (pgs_cons (pg_name (i := 5) sc.nd rfl (Or.inl rfl)) pgs_nil)))) (fun _ _ _ _ _ => pts3_nil) (fun _ _ _ _ _ => (pe3_tup (pa3_cons (pe3_op op_add_str l_addS pstr3 (pv3 5)) (pa3_cons (pe3_call G_corner gd (hr.mono (by decide)) takes0 rfl T.m_corner T.F_corner.kp (b_corner T.F_corner) (pa3_cons (pv3 0) (pa3_cons (pv3 4) (pa3_cons (pe3_op op_add l_add (pv3 4) pi3) (pa3_cons (pe3_neg pi3) pa3_nil))))) pa3_nil))))) (pss3_cons (ps3_setLcD 3 [("at", 4), ("sign", 5)] rfl sc.nd (sw_true rfl rfl rfl (by decide +kernel)) (pi3_enumS rfl T.z_enumerate (pa3_cons (pv3 1) pa3_nil)) (blkOk_by (N := N_full_counting) (sc := defScope s_full_counting) (by decide +kernel)) (lgl_tup (lgls_cons (lgls_cons lgls_nil))) (wp_tup (wps_cons (wps_cons wps_nil))) (fun _ _ _ _ _ => (pg_tup rfl (pgs_cons (pg_name (i := 4) sc.nd rfl (Or.inl rfl)) (pgs_cons (pg_name (i := 5) sc.nd rfl (Or.inl rfl)) pgs_nil)))) (fun _ _ _ _ _ => pts3_nil) (fun _ _ _ _ _ => (pe3_tup (pa3_cons (pe3_op op_add_str l_addS pstr3 (pv3 5)) (pa3_cons (pe3_call G_corner gd (hr.mono (by decide)) takes0 rfl T.m_corner T.F_corner.kp (b_corner T.F_corner) (pa3_cons (pv3 0) (pa3_cons (pv3 4) (pa3_cons (pe3_op op_add l_add (pv3 4) pi3) (pa3_cons pi3 pa3_nil))))) pa3_nil))))) (pss3_one (ps3_ret (pe3_make mk_Counting G_Counting_init gd (hr.mono (by decide)) tk rfl mC_Counting (b_Counting_init T.F_Counting_init) (pa3_cons (pv3 0) (pa3_cons (pe3_Ty call_tuple_ofN l_tuple rfl T.z_tuple (by decide +kernel) (pa3_cons (pe3_op op_catL l_catL (pv3 2) (pv3 3)) pa3_nil)) pa3_nil))))))))
theorem ok_is_int {P : Program} {w : World} {K : PySem.W.Frag} {mg : Str → Option Value} {base : Heap} (T : Txt K mg)   : FnG P w K mg base (L2.CX P w) 1 T.f_is_int T.d_is_int P_is_int (LSp K sp_is_int) := by
  refine fn3 T.F_is_int sc_is_int rd_is_int len_is_int sem_is_int ?_
  intro X cdv A outer s H E hX gd hr tk hp
  have sc := sc_is_int
  subst hX
  exact (pss3_one (ps3_ret (pe3_and (pe3_B call_isi l_isi rfl T.z_isinstance (by decide +kernel) (pa3_cons (pv3 0) (pa3_cons (pty3 rfl T.z_int (by decide +kernel)) pa3_nil))) (pe3_one (pe3_not (pe3_B call_isi l_isi rfl T.z_isinstance (by decide +kernel) (pa3_cons (pv3 0) (pa3_cons (pty3 rfl T.z_bool (by decide +kernel)) pa3_nil))))))))
theorem ok_is_tuple_of {P : Program} {w : World} {K : PySem.W.Frag} {mg : Str → Option Value} {base : Heap} (T : Txt K mg)   : FnG P w K mg base (L2.CX P w) 1 T.f_is_tuple_of T.d_is_tuple_of P_is_tuple_of (LSp K sp_is_tuple_of) := by
  refine fn3 T.F_is_tuple_of sc_is_tuple_of rd_is_tuple_of len_is_tuple_of sem_is_tuple_of ?_
  intro X cdv A outer s H E hX gd hr tk hp
  have sc := sc_is_tuple_of
  subst hX
  exact (pss3_one (ps3_ret (pe3_and (pe3_B call_isi l_isi rfl T.z_isinstance (by decide +kernel) (pa3_cons (pv3 0) (pa3_cons (pty3 rfl T.z_tuple (by decide +kernel)) pa3_nil))) (pe3_one (pe3_cmp (op_eqX (un64 hr)) l_eq (pe3_B call_len3 l_len rfl T.z_len (by decide +kernel) (pa3_cons (pv3 0) pa3_nil)) (pv3 1) (nomark _))))))
theorem ok_is_uni {P : Program} {w : World} {K : PySem.W.Frag} {mg : Str → Option Value} {base : Heap} (T : Txt K mg)  (G_is_int : FnG P w K mg base (L2.CX P w) 1 T.f_is_int T.d_is_int P_is_int (LSp K sp_is_int)) (G_is_tuple_of : FnG P w K mg base (L2.CX P w) 1 T.f_is_tuple_of T.d_is_tuple_of P_is_tuple_of (LSp K sp_is_tuple_of)) : FnG P w K mg base (L2.CX P w) 2 T.f_is_uni T.d_is_uni P_is_uni (LSp K sp_is_uni) := by
  refine fn3 T.F_is_uni sc_is_uni rd_is_uni len_is_uni sem_is_uni ?_
  intro X cdv A outer s H E hX gd hr tk hp
  have sc := sc_is_uni
  subst hX
  exact (pss3_cons (ps3_if (PW.pt (pw3_or (pt3_not (pt3_val (pe3_B call_isi l_isi rfl T.z_isinstance (by decide +kernel) (pa3_cons (pv3 0) (pa3_cons (pty3 rfl T.z_tuple (by decide +kernel)) pa3_nil))))) (pw3_or1 (pt3_not (pt3_chain op_le op_le l_le l_le pi3 (pe3_B call_len3 l_len rfl T.z_len (by decide +kernel) (pa3_cons (pv3 0) pa3_nil)) pi3))))) (pss3_one (ps3_ret pb3)) pss3_nil) (pss3_cons (ps3_for hp rfl (pi3_enum rfl T.z_enumerate (pa3_cons (pv3 0) pa3_nil)) (pg3_tup rfl (pgs3_cons (pg3_name 1 sc.nd) (pgs3_cons (pg3_name 2 sc.nd) pgs3_nil))) (pss3_cons (ps3_if (PW.pt (pw3_or (pt3_not (pt3_val (pe3_call G_is_tuple_of gd (hr.mono (by decide)) tk rfl T.m_is_tuple_of T.F_is_tuple_of.kp (b_is_tuple_of T.F_is_tuple_of) (pa3_cons (pv3 2) (pa3_cons (pe3_B call_len3 l_len rfl T.z_len (by decide +kernel) (pa3_cons (pv3 0) pa3_nil)) pa3_nil))))) (pw3_or1 (pt3_not (pt3_val (pe3_B (cr_all rfl) l_all rfl T.z_all (by decide +kernel) (pa3_cons (pe3_lcD [("one", 3)] rfl sc.nd (pi3_seq (pv3 2)) (blkOk_by (N := N_is_uni) (sc := defScope s_is_uni) (by decide +kernel)) lgl_name wp_name (fun _ _ _ _ _ => (pg_name (i := 3) sc.nd rfl (Or.inl rfl))) (fun _ _ _ _ _ => pts3_nil) (fun _ _ _ _ _ => (pe3_call G_is_int gd (hr.mono (by decide)) takes0 rfl T.m_is_int T.F_is_int.kp (b_is_int T.F_is_int) (pa3_cons (pv3 3) pa3_nil)))) pa3_nil))))))) (pss3_one (ps3_ret pb3)) pss3_nil) (pss3_one (ps3_if (PW.pt (pw3_or (pt3_cmp (op_neX (un64 hr)) l_ne (pe3_ix (pv3 2) (pv3 1)) pi3 (nomark _)) (pw3_or1 (pt3_val (pe3_B (cr_any rfl) l_any rfl T.z_any (by decide +kernel) (pa3_cons (pe3_lcD [("one", 3)] rfl sc.nd (pi3_seq (pe3_slice sl_tupN l_slT (pv3 2) po3_none (po3_some (pv3 1)))) (blkOk_by (N := N_is_uni) (sc := defScope s_is_uni) (by decide +kernel)) lgl_name wp_name (fun _ _ _ _ _ => (pg_name (i := 3) sc.nd rfl (Or.inl rfl))) (fun _ _ _ _ _ => pts3_nil) (fun _ _ _ _ _ => (pe3_cmp (op_neX (un64 hr)) l_ne (pv3 3) pi3 (nomark _)))) pa3_nil)))))) (pss3_one (ps3_ret pb3)) pss3_nil)))) (pss3_one (ps3_ret pb3))))
theorem ok_uni_back {P : Program} {w : World} {K : PySem.W.Frag} {mg : Str → Option Value} {base : Heap} (T : Txt K mg)  (G_still_uni : FnG P w K mg base (L2.CX P w) 1 T.f_still_uni T.d_still_uni P_still_uni (LSp K sp_still_uni)) : FnG P w K mg base (L2.CX P w) 2 T.f_uni_back T.d_uni_back P_uni_back (LSp K sp_uni_back) := by
  refine fn3 T.F_uni_back sc_uni_back rd_uni_back len_uni_back sem_uni_back ?_
  intro X cdv A outer s H E hX gd hr tk hp
  have sc := sc_uni_back
  subst hX
  exact (pss3_cons (ps3_set 1 sc.nd rfl (pe3_lstM pa3_nil)) (pss3_cons (ps3_for hp rfl (pi3_seq (pe3_call G_still_uni gd (hr.mono (by decide)) tk rfl T.m_still_uni T.F_still_uni.kp (b_still_uni T.F_still_uni) (pa3_cons (pe3_B call_len3 l_len rfl T.z_len (by decide +kernel) (pa3_cons (pv3 0) pa3_nil)) pa3_nil))) (pg3_name 2 sc.nd) (pss3_cons (ps3_set 3 sc.nd rfl (pe3_lstM pa3_nil)) (pss3_cons (ps3_for hp rfl (pi3_range1 rfl T.z_range (pa3_cons (pe3_B call_len3 l_len rfl T.z_len (by decide +kernel) (pa3_cons (pv3 0) pa3_nil)) pa3_nil)) (pg3_name 4 sc.nd) (pss3_one (ps3_expr (pe3_bm PySem.F.slot_list_append PySem.F.type_list_append mt_append l_append (pv3 3) (pa3_cons (pe3_op op_sub l_sub (pe3_ix (pv3 2) (pv3 4)) (pe3_B (cr_sum rfl) l_sum rfl T.z_sum (by decide +kernel) (pa3_cons (pe3_lcD [("at", 5)] rfl sc.nd (pi3_range1 rfl T.z_range (pa3_cons (pv3 4) pa3_nil)) (blkOk_by (N := N_uni_back) (sc := defScope s_uni_back) (by decide +kernel)) lgl_name wp_name (fun _ _ _ _ _ => (pg_name (i := 5) sc.nd rfl (Or.inl rfl))) (fun _ _ _ _ _ => pts3_nil) (fun _ _ _ _ _ => (pe3_op op_mulW l_mulW (pe3_ix (pv3 3) (pv3 5)) (pe3_ix (pe3_ix (pv3 0) (pv3 5)) (pv3 4))))) pa3_nil))) pa3_nil))))) (pss3_one (ps3_expr (pe3_bm PySem.F.slot_list_append PySem.F.type_list_append mt_append l_append (pv3 1) (pa3_cons (pe3_Ty call_tuple_ofN l_tuple rfl T.z_tuple (by decide +kernel) (pa3_cons (pv3 3) pa3_nil)) pa3_nil))))))) (pss3_one (ps3_ret (pe3_Ty call_tuple_ofN l_tuple rfl T.z_tuple (by decide +kernel) (pa3_cons (pv3 1) pa3_nil))))))
theorem ok_law {P : Program} {w : World} {K : PySem.W.Frag} {mg : Str → Option Value} {base : Heap} (T : Txt K mg) (tb : Nat → Addr)  (hC_Counting : T.C_Counting = tb 0) (G_Counting_eq : FnG P w K mg base (L2.CX P w) 1 T.f_Counting_eq T.d_Counting_eq P_Counting_eq (LSp K (sp_Counting_eq tb))) (G_Counting_init : FnG P w K mg base (L2.CX P w) 1 T.f_Counting_init T.d_Counting_init P_Counting_init (LSp K (sp_Counting_init tb))) (G_law_sum : FnG P w K mg base (L2.CX P w) 1 T.f_law_sum T.d_law_sum P_law_sum (LSp K sp_law_sum)) (G_law_after : FnG P w K mg base (L2.CX P w) 2 T.f_law_after T.d_law_after P_law_after (LSp K sp_law_after)) (G_law_any : FnG P w K mg base (L2.CX P w) 1 T.f_law_any T.d_law_any P_law_any (LSp K sp_law_any)) (G_law_still : FnG P w K mg base (L2.CX P w) 1 T.f_law_still T.d_law_still P_law_still (LSp K sp_law_still)) (G_law_corner : FnG P w K mg base (L2.CX P w) 2 T.f_law_corner T.d_law_corner P_law_corner (LSp K sp_law_corner)) (G_law_size_of : FnG P w K mg base (L2.CX P w) 3 T.f_law_size_of T.d_law_size_of P_law_size_of (LSp K sp_law_size_of)) (G_law_uni : FnG P w K mg base (L2.CX P w) 4 T.f_law_uni T.d_law_uni P_law_uni (LSp K sp_law_uni)) (G_law_counts : FnG P w K mg base (L2.CX P w) 5 T.f_law_counts T.d_law_counts P_law_counts (LSp K sp_law_counts)) (G_law_counts_row : FnG P w K mg base (L2.CX P w) 4 T.f_law_counts_row T.d_law_counts_row P_law_counts_row (LSp K sp_law_counts_row)) (G_law_deal : FnG P w K mg base (L2.CX P w) 1 T.f_law_deal T.d_law_deal P_law_deal (LSp K sp_law_deal)) (G_law_full : FnG P w K mg base (L2.CX P w) 3 T.f_law_full T.d_law_full P_law_full (LSp K sp_law_full)) (G_law_is_uni : FnG P w K mg base (L2.CX P w) 2 T.f_law_is_uni T.d_law_is_uni P_law_is_uni (LSp K sp_law_is_uni)) (G_law_log : FnG P w K mg base (L2.CX P w) 3 T.f_law_log T.d_law_log P_law_log (LSp K sp_law_log)) (G_law_played : FnG P w K mg base (L2.CX P w) 3 T.f_law_played T.d_law_played P_law_played (LSp K sp_law_played)) (G_law_who : FnG P w K mg base (L2.CX P w) 2 T.f_law_who T.d_law_who P_law_who (LSp K sp_law_who)) (G_still_uni : FnG P w K mg base (L2.CX P w) 1 T.f_still_uni T.d_still_uni P_still_uni (LSp K sp_still_uni)) (G_corner : FnG P w K mg base (L2.CX P w) 2 T.f_corner T.d_corner P_corner (LSp K sp_corner)) (G_counts_behind : FnG P w K mg base (L2.CX P w) 1 T.f_counts_behind T.d_counts_behind P_counts_behind (LSp K sp_counts_behind)) (G_uni_joined : FnG P w K mg base (L2.CX P w) 2 T.f_uni_joined T.d_uni_joined P_uni_joined (LSp K sp_uni_joined)) (G_counted : FnG P w K mg base (L2.CX P w) 3 T.f_counted T.d_counted P_counted (LSp K (sp_counted tb))) (G_full_counting : FnG P w K mg base (L2.CX P w) 3 T.f_full_counting T.d_full_counting P_full_counting (LSp K (sp_full_counting tb))) (G_is_uni : FnG P w K mg base (L2.CX P w) 2 T.f_is_uni T.d_is_uni P_is_uni (LSp K sp_is_uni)) (G_uni_back : FnG P w K mg base (L2.CX P w) 2 T.f_uni_back T.d_uni_back P_uni_back (LSp K sp_uni_back)) : FnG P w K mg base (L2.CX P w) 6 T.f_law T.d_law P_law (LSp K (sp_law tb)) := by
  refine fn3 T.F_law sc_law (rd_law tb) (len_law tb) (sem_law tb) ?_
  intro X cdv A outer s H E hX gd hr tk hp
  have sc := sc_law
  subst hX
  have cl_Counting : Cls K (tb 0) := hC_Counting ▸ T.cl_Counting
  have isf_Counting : IsF K (tb 0) := hC_Counting ▸ T.is_Counting
  have mC_Counting : mg "Counting" = some (.ref (tb 0)) := hC_Counting ▸ T.mC_Counting
  have mt_Counting_eq : Meth K (tb 0) "__eq__" T.f_Counting_eq := hC_Counting ▸ T.mt_Counting_eq
  have mk_Counting : Mk K (tb 0) T.f_Counting_init := hC_Counting ▸ T.mk_Counting
  have na_Counting_size : NoAttr K (tb 0) "size" := hC_Counting ▸ T.na_Counting_size
  have na_Counting_deeds : NoAttr K (tb 0) "deeds" := hC_Counting ▸ T.na_Counting_deeds
  exact (pss3_cons (ps3_set 1 sc.nd rfl (pe3_call G_law_deal gd (hr.mono (by decide)) tk rfl T.m_law_deal T.F_law_deal.kp (b_law_deal T.F_law_deal) (pa3_cons (pv3 0) (pa3_cons pi3 pa3_nil)))) (pss3_cons (ps3_for hp rfl (pi3_range1 rfl T.z_range (pa3_cons pi3 pa3_nil)) (pg3_name 2 sc.nd) (pss3_cons (ps3_set 3 sc.nd rfl (pe3_op op_add l_add pi3 (pe3_call G_law_any gd (hr.mono (by decide)) tk rfl T.m_law_any T.F_law_any.kp (b_law_any T.F_law_any) (pa3_cons (pv3 1) (pa3_cons pi3 pa3_nil))))) (pss3_cons (ps3_unp (n := 3) rfl (pa3_cons (pe3_call G_law_uni gd (hr.mono (by decide)) tk rfl T.m_law_uni T.F_law_uni.kp (b_law_uni T.F_law_uni) (pa3_cons (pv3 1) (pa3_cons (pv3 3) pa3_nil))) (pa3_cons (pe3_call G_law_uni gd (hr.mono (by decide)) tk rfl T.m_law_uni T.F_law_uni.kp (b_law_uni T.F_law_uni) (pa3_cons (pv3 1) (pa3_cons (pv3 3) pa3_nil))) (pa3_cons (pe3_call G_law_counts_row gd (hr.mono (by decide)) tk rfl T.m_law_counts_row T.F_law_counts_row.kp (b_law_counts_row T.F_law_counts_row) (pa3_cons (pv3 1) (pa3_cons (pv3 3) pa3_nil))) pa3_nil))) (pgs3_cons (pg3_name 5 sc.nd) (pgs3_cons (pg3_name 6 sc.nd) (pgs3_cons (pg3_name 7 sc.nd) pgs3_nil))) (fun ws τ S Q h => unp_len h)) (pss3_cons (ps3_par 8 9 rfl sc.nd (pa3_cons (pe3_call G_law_after gd (hr.mono (by decide)) tk rfl T.m_law_after T.F_law_after.kp (b_law_after T.F_law_after) (pa3_cons (pv3 5) (pa3_cons (pv3 6) pa3_nil))) (pa3_cons (pe3_callK (x := "uni_back") G_uni_back gd (hr.mono (by decide)) tk rfl T.m_uni_back T.F_uni_back.kp (kb_uni_back_0 T.F_uni_back) (kw_uni_back_0 _) (pk3_cons (pv3 5) pk3_nil)) pa3_nil))) (pss3_cons (ps3_if (PW.pt (pw3_or (pt3_cmp (op_neX (un64 hr)) l_ne (pe3_B (call_repr3 gd (un70 hr)) l_repr rfl T.z_repr (by decide +kernel) (pa3_cons (pe3_callK (x := "uni_joined") G_uni_joined gd (hr.mono (by decide)) tk rfl T.m_uni_joined T.F_uni_joined.kp (kb_uni_joined_0 T.F_uni_joined) (kw_uni_joined_0 _) (pk3_cons (pv3 5) (pk3_cons (pv3 6) pk3_nil))) pa3_nil)) (pe3_B (call_repr3 gd (un70 hr)) l_repr rfl T.z_repr (by decide +kernel) (pa3_cons (pv3 8) pa3_nil)) (nomark _)) (pw3_or1 (pt3_cmp (op_neX (un64 hr)) l_ne (pe3_B (call_repr3 gd (un70 hr)) l_repr rfl T.z_repr (by decide +kernel) (pa3_cons (pe3_callK (x := "still_uni") G_still_uni gd (hr.mono (by decide)) tk rfl T.m_still_uni T.F_still_uni.kp (kb_still_uni_0 T.F_still_uni) (kw_still_uni_0 _) (pk3_cons (pv3 3) pk3_nil)) pa3_nil)) (pe3_B (call_repr3 gd (un70 hr)) l_repr rfl T.z_repr (by decide +kernel) (pa3_cons (pe3_call G_law_still gd (hr.mono (by decide)) tk rfl T.m_law_still T.F_law_still.kp (b_law_still T.F_law_still) (pa3_cons (pv3 3) pa3_nil)) pa3_nil)) (nomark _))))) (pss3_one (ps3_ret pb3)) pss3_nil) (pss3_cons (ps3_if (pt3_cmp (op_neX (un64 hr)) l_ne (pe3_B (call_repr3 gd (un70 hr)) l_repr rfl T.z_repr (by decide +kernel) (pa3_cons (pe3_callK (x := "counts_behind") G_counts_behind gd (hr.mono (by decide)) tk rfl T.m_counts_behind T.F_counts_behind.kp (kb_counts_behind_0 T.F_counts_behind) (kw_counts_behind_0 _) (pk3_cons (pv3 7) (pk3_cons (pv3 5) pk3_nil))) pa3_nil)) (pe3_B (call_repr3 gd (un70 hr)) l_repr rfl T.z_repr (by decide +kernel) (pa3_cons (pe3_Ty call_tuple_ofN l_tuple rfl T.z_tuple (by decide +kernel) (pa3_cons (pe3_lcD [("at", 10)] rfl sc.nd (pi3_range1 rfl T.z_range (pa3_cons (pv3 3) pa3_nil)) (blkOk_by (N := N_law) (sc := defScope s_law) (by decide +kernel)) lgl_name wp_name (fun _ _ _ _ _ => (pg_name (i := 10) sc.nd rfl (Or.inl rfl))) (fun _ _ _ _ _ => pts3_nil) (fun _ _ _ _ _ => (pe3_call G_law_sum gd (hr.mono (by decide)) takes0 rfl T.m_law_sum T.F_law_sum.kp (b_law_sum T.F_law_sum) (pa3_cons (pv3 7) (pa3_cons (pv3 5) (pa3_cons (pv3 10) pa3_nil)))))) pa3_nil)) pa3_nil)) (nomark _)) (pss3_one (ps3_ret pb3)) pss3_nil) (pss3_cons (ps3_if (pt3_cmp (op_neX (un64 hr)) l_ne (pe3_B (call_repr3 gd (un70 hr)) l_repr rfl T.z_repr (by decide +kernel) (pa3_cons (pe3_call G_counts_behind gd (hr.mono (by decide)) tk rfl T.m_counts_behind T.F_counts_behind.kp (b_counts_behind T.F_counts_behind) (pa3_cons (pe3_Ty call_list_of l_listD rfl T.z_list (by decide +kernel) (pa3_cons (pv3 7) pa3_nil)) (pa3_cons (pv3 8) pa3_nil))) pa3_nil)) (pe3_B (call_repr3 gd (un70 hr)) l_repr rfl T.z_repr (by decide +kernel) (pa3_cons (pe3_call G_counts_behind gd (hr.mono (by decide)) tk rfl T.m_counts_behind T.F_counts_behind.kp (b_counts_behind T.F_counts_behind) (pa3_cons (pe3_call G_counts_behind gd (hr.mono (by decide)) tk rfl T.m_counts_behind T.F_counts_behind.kp (b_counts_behind T.F_counts_behind) (pa3_cons (pv3 7) (pa3_cons (pv3 5) pa3_nil))) (pa3_cons (pv3 6) pa3_nil))) pa3_nil)) (nomark _)) (pss3_one (ps3_ret pb3)) pss3_nil) (pss3_cons (ps3_if (PW.pt (pw3_or (pt3_not (pt3_val (pe3_call G_law_is_uni gd (hr.mono (by decide)) tk rfl T.m_law_is_uni T.F_law_is_uni.kp (b_law_is_uni T.F_law_is_uni) (pa3_cons (pv3 9) pa3_nil)))) (pw3_or (pt3_cmp (op_neX (un64 hr)) l_ne (pe3_call G_law_after gd (hr.mono (by decide)) tk rfl T.m_law_after T.F_law_after.kp (b_law_after T.F_law_after) (pa3_cons (pv3 5) (pa3_cons (pv3 9) pa3_nil))) (pe3_call G_law_still gd (hr.mono (by decide)) tk rfl T.m_law_still T.F_law_still.kp (b_law_still T.F_law_still) (pa3_cons (pv3 3) pa3_nil)) (nomark _)) (pw3_or1 (pt3_cmp (op_neX (un64 hr)) l_ne (pe3_call G_law_after gd (hr.mono (by decide)) tk rfl T.m_law_after T.F_law_after.kp (b_law_after T.F_law_after) (pa3_cons (pv3 9) (pa3_cons (pv3 5) pa3_nil))) (pe3_call G_law_still gd (hr.mono (by decide)) tk rfl T.m_law_still T.F_law_still.kp (b_law_still T.F_law_still) (pa3_cons (pv3 3) pa3_nil)) (nomark _)))))) (pss3_one (ps3_ret pb3)) pss3_nil) (pss3_cons (ps3_if (PW.pt (pw3_or (pt3_cmp (op_neX (un64 hr)) l_ne (pe3_B (call_repr3 gd (un70 hr)) l_repr rfl T.z_repr (by decide +kernel) (pa3_cons (pe3_call G_uni_joined gd (hr.mono (by decide)) tk rfl T.m_uni_joined T.F_uni_joined.kp (b_uni_joined T.F_uni_joined) (pa3_cons (pe3_call G_uni_back gd (hr.mono (by decide)) tk rfl T.m_uni_back T.F_uni_back.kp (b_uni_back T.F_uni_back) (pa3_cons (pv3 6) pa3_nil)) (pa3_cons (pv3 9) pa3_nil))) pa3_nil)) (pe3_B (call_repr3 gd (un70 hr)) l_repr rfl T.z_repr (by decide +kernel) (pa3_cons (pe3_call G_uni_back gd (hr.mono (by decide)) tk rfl T.m_uni_back T.F_uni_back.kp (b_uni_back T.F_uni_back) (pa3_cons (pv3 8) pa3_nil)) pa3_nil)) (nomark _)) (pw3_or1 (pt3_cmp op_notBl l_notB (pe3_call G_is_uni gd (hr.mono (by decide)) tk rfl T.m_is_uni T.F_is_uni.kp (b_is_uni T.F_is_uni) (pa3_cons (pv3 8) pa3_nil)) pb3 (nomark _))))) (pss3_one (ps3_ret pb3)) pss3_nil) (pss3_cons (ps3_if (pt3_cmp op_gt l_gt (pv3 3) pi3 (nomark _)) (pss3_cons (ps3_set 10 sc.nd rfl (pe3_call G_law_any gd (hr.mono (by decide)) tk rfl T.m_law_any T.F_law_any.kp (b_law_any T.F_law_any) (pa3_cons (pv3 1) (pa3_cons (pe3_op op_sub l_sub (pv3 3) pi3) pa3_nil)))) (pss3_cons (ps3_par 16 17 rfl sc.nd (pa3_cons (pe3_op op_add l_add (pe3_op op_add l_add (pv3 10) pi3) (pe3_call G_law_any gd (hr.mono (by decide)) tk rfl T.m_law_any T.F_law_any.kp (b_law_any T.F_law_any) (pa3_cons (pv3 1) (pa3_cons (pe3_op op_sub l_sub (pe3_op op_sub l_sub (pv3 3) (pv3 10)) pi3) pa3_nil)))) (pa3_cons (pe3_call G_law_size_of gd (hr.mono (by decide)) tk rfl T.m_law_size_of T.F_law_size_of.kp (b_law_size_of T.F_law_size_of) (pa3_cons (pv3 1) pa3_nil)) pa3_nil))) (pss3_cons (ps3_if (pt3_cmp (op_neX (un64 hr)) l_ne (pe3_B (call_repr3 gd (un70 hr)) l_repr rfl T.z_repr (by decide +kernel) (pa3_cons (pe3_callK (x := "corner") G_corner gd (hr.mono (by decide)) tk rfl T.m_corner T.F_corner.kp (kb_corner_0 T.F_corner) (kw_corner_0 _) (pk3_cons (pv3 3) (pk3_cons (pv3 10) (pk3_cons (pv3 16) (pk3_cons (pv3 17) pk3_nil))))) pa3_nil)) (pe3_B (call_repr3 gd (un70 hr)) l_repr rfl T.z_repr (by decide +kernel) (pa3_cons (pe3_call G_law_corner gd (hr.mono (by decide)) tk rfl T.m_law_corner T.F_law_corner.kp (b_law_corner T.F_law_corner) (pa3_cons (pv3 3) (pa3_cons (pv3 10) (pa3_cons (pv3 16) (pa3_cons (pv3 17) pa3_nil))))) pa3_nil)) (nomark _)) (pss3_one (ps3_ret pb3)) pss3_nil) (pss3_cons (ps3_set 11 sc.nd rfl (pe3_callK (x := "full_counting") G_full_counting gd (hr.mono (by decide)) tk rfl T.m_full_counting T.F_full_counting.kp (kb_full_counting_0 T.F_full_counting) (kw_full_counting_0 _) (pk3_cons (pv3 3) pk3_nil))) (pss3_one (ps3_if (PW.pt (pw3_or (pt3_not (pt3_val (pe3_B call_isi (l_isO (l := [(tb 0, true)]) ⟨isf_Counting, cat_cons (P := fun D b => Cls K D ∧ IsF K D ∧ PySem.W.kitOne K (.ref D) (.ref (tb 0)) = some b) ⟨cl_Counting, isf_Counting, kit_self⟩ cat_nil⟩) rfl T.z_isinstance (by decide +kernel) (pa3_cons (pv3 11) (pa3_cons (pref3 rfl mC_Counting) pa3_nil))))) (pw3_or (pt3_cmp (op_neX (un64 hr)) l_ne (pe3_B (call_repr3 gd (un70 hr)) l_repr rfl T.z_repr (by decide +kernel) (pa3_cons (pe3_fld cl_Counting na_Counting_size (pv3 11)) pa3_nil)) (pe3_B (call_repr3 gd (un70 hr)) l_repr rfl T.z_repr (by decide +kernel) (pa3_cons (pv3 3) pa3_nil)) (nomark _)) (pw3_or1 (pt3_cmp (op_neX (un64 hr)) l_ne (pe3_B (call_repr3 gd (un70 hr)) l_repr rfl T.z_repr (by decide +kernel) (pa3_cons (pe3_fld cl_Counting na_Counting_deeds (pv3 11)) pa3_nil)) (pe3_B (call_repr3 gd (un70 hr)) l_repr rfl T.z_repr (by decide +kernel) (pa3_cons (pe3_call G_law_full gd (hr.mono (by decide)) tk rfl T.m_law_full T.F_law_full.kp (b_law_full T.F_law_full) (pa3_cons (pv3 3) pa3_nil)) pa3_nil)) (nomark _)))))) (pss3_one (ps3_ret pb3)) pss3_nil)))))) pss3_nil) (pss3_cons (ps3_par 12 13 rfl sc.nd (pa3_cons (pe3_call G_law_counts gd (hr.mono (by decide)) tk rfl T.m_law_counts T.F_law_counts.kp (b_law_counts T.F_law_counts) (pa3_cons (pv3 1) (pa3_cons (pv3 3) pa3_nil))) (pa3_cons (pe3_call G_law_who gd (hr.mono (by decide)) tk rfl T.m_law_who T.F_law_who.kp (b_law_who T.F_law_who) (pa3_cons (pv3 1) (pa3_cons (pe3_call G_law_any gd (hr.mono (by decide)) tk rfl T.m_law_any T.F_law_any.kp (b_law_any T.F_law_any) (pa3_cons (pv3 1) (pa3_cons (pe3_if (pt3_cmp op_lt l_lt (pv3 2) pi3 (nomark _)) pi3 pi3) pa3_nil))) pa3_nil))) pa3_nil))) (pss3_cons (ps3_par 14 15 rfl sc.nd (pa3_cons (pe3_makeK (x := "Counting") mk_Counting G_Counting_init gd (hr.mono (by decide)) tk rfl mC_Counting (kb_Counting_init_0 T.F_Counting_init) (kw_Counting_init_0 _) (pk3_cons (pv3 3) (pk3_cons (pv3 12) pk3_nil))) (pa3_cons (pe3_call G_law_log gd (hr.mono (by decide)) tk rfl T.m_law_log T.F_law_log.kp (b_law_log T.F_law_log) (pa3_cons (pv3 1) (pa3_cons (pv3 12) (pa3_cons (pv3 13) (pa3_cons (pe3_if (pt3_cmp op_lt l_lt (pv3 2) pi3 (nomark _)) pi3 pi3) pa3_nil))))) pa3_nil))) (pss3_cons (ps3_set 4 sc.nd rfl (pe3_Ty call_tuple_ofN l_tuple rfl T.z_tuple (by decide +kernel) (pa3_cons (pe3_op op_cat l_catM (pe3_lcM [("hand", 18)] rfl sc.nd (pi3_seq (pv3 13)) (blkOk_by (N := N_law) (sc := defScope s_law) (by decide +kernel)) lgl_name wp_name (fun _ _ _ _ _ => (pg_name (i := 18) sc.nd rfl (Or.inl rfl))) (fun _ _ _ _ _ => (pts3_one (pt3_cmp op_gt l_gt (pe3_call G_law_any gd (hr.mono (by decide)) takes0 rfl T.m_law_any T.F_law_any.kp (b_law_any T.F_law_any) (pa3_cons (pv3 1) (pa3_cons pi3 pa3_nil))) pi3 (nomark _)))) (fun _ _ _ _ _ => (pv3 18))) (pe3_slice sl_list l_slM (pe3_lstD (pa3_cons (pe3_op op_pow l_pow pi3 pi3) pa3_nil)) po3_none (po3_some (pe3_call G_law_any gd (hr.mono (by decide)) tk rfl T.m_law_any T.F_law_any.kp (b_law_any T.F_law_any) (pa3_cons (pv3 1) (pa3_cons pi3 pa3_nil)))))) pa3_nil))) (pss3_cons (ps3_if (pt3_cmp (op_neX (un64 hr)) l_ne (pe3_B (call_repr3 gd (un70 hr)) l_repr rfl T.z_repr (by decide +kernel) (pa3_cons (pe3_callK (x := "counted") G_counted gd (hr.mono (by decide)) tk rfl T.m_counted T.F_counted.kp (kb_counted_0 T.F_counted) (kw_counted_0 _) (pk3_cons (pv3 14) (pk3_cons (pv3 15) (pk3_cons (pv3 4) pk3_nil)))) pa3_nil)) (pe3_B (call_repr3 gd (un70 hr)) l_repr rfl T.z_repr (by decide +kernel) (pa3_cons (pe3_call G_law_played gd (hr.mono (by decide)) tk rfl T.m_law_played T.F_law_played.kp (b_law_played T.F_law_played) (pa3_cons (pv3 12) (pa3_cons (pv3 3) (pa3_cons (pv3 15) (pa3_cons (pv3 4) pa3_nil))))) pa3_nil)) (nomark _)) (pss3_one (ps3_ret pb3)) pss3_nil) (pss3_cons (ps3_if (PW.pt (pw3_or (pt3_not (pt3_cmp (op_ownE G_Counting_eq gd (hr.mono (by decide)) tk mt_Counting_eq isf_Counting.nf (b_Counting_eq T.F_Counting_eq)) l_eqO (pv3 14) (pe3_make mk_Counting G_Counting_init gd (hr.mono (by decide)) tk rfl mC_Counting (b_Counting_init T.F_Counting_init) (pa3_cons (pv3 3) (pa3_cons (pv3 12) pa3_nil))) (nomark _))) (pw3_or (pt3_cmp (op_ownE G_Counting_eq gd (hr.mono (by decide)) tk mt_Counting_eq isf_Counting.nf (b_Counting_eq T.F_Counting_eq)) l_eqO (pv3 14) (pe3_make mk_Counting G_Counting_init gd (hr.mono (by decide)) tk rfl mC_Counting (b_Counting_init T.F_Counting_init) (pa3_cons (pv3 3) (pa3_cons (pe3_slice sl_tupN l_slT (pv3 12) (po3_some pi3) po3_none) pa3_nil))) (nomark _)) (pw3_or1 (pt3_cmp (op_ownE G_Counting_eq gd (hr.mono (by decide)) tk mt_Counting_eq isf_Counting.nf (b_Counting_eq T.F_Counting_eq)) l_eqO (pv3 14) (pe3_make mk_Counting G_Counting_init gd (hr.mono (by decide)) tk rfl mC_Counting (b_Counting_init T.F_Counting_init) (pa3_cons (pe3_op op_add l_add (pv3 3) pi3) (pa3_cons (pv3 12) pa3_nil))) (nomark _)))))) (pss3_one (ps3_ret pb3)) pss3_nil) (pss3_one (ps3_if (PW.pt (pw3_or (pt3_cmp (op_ownE G_Counting_eq gd (hr.mono (by decide)) tk mt_Counting_eq isf_Counting.nf (b_Counting_eq T.F_Counting_eq)) l_eqO (pv3 14) (pv3 12) (nomark _)) (pw3_or1 (pt3_cmp (op_neX (un64 hr)) l_ne (pe3_B (call_repr3 gd (un70 hr)) l_repr rfl T.z_repr (by decide +kernel) (pa3_cons (pe3_fld cl_Counting na_Counting_deeds (pv3 14)) pa3_nil)) (pe3_B (call_repr3 gd (un70 hr)) l_repr rfl T.z_repr (by decide +kernel) (pa3_cons (pv3 12) pa3_nil)) (nomark _))))) (pss3_one (ps3_ret pb3)) pss3_nil))))))))))))))))) (pss3_one (ps3_ret pb3))))
theorem facts {P : Program} {w : World} {K : PySem.W.Frag} {h : Heap} {mg : Str → Option Value} {f : Addr} {cs : List (Addr × Addr)} (X : K.In h) (G : h.Ns mainGlobals mg) (hfa : mg ("law" : Str) = some (.ref f)) (c : He.SaysD fal fnl K) (t : Tabs K h tnl cs) (r : ErrSays K erl ktl btl) (hPf : ((P.main.file : Str) == fileL) = true) (hPt : (P.main.scope.names.lookup ("super" : Str)).isSome = false) (qc : CtSays K ctl) (ic : IsSays K isl) (yc : TySays K tyl) :
    ∃ fd : FuncData, (∀ (s : Shared) (v : Value), BindsTo s fd ⟨[v], []⟩ [("script", v)]) ∧ ∀ base : Heap, K.In base → base.Ns mainGlobals mg → (∀ p ∈ cs, GxR.TabB base mg p.1 p.2) → FnG P w K mg base (L2.CX P w) 6 f fd ["script"] (LSp K (fun ws S Q E => ∀ ca : Nat → Addr, sp_law (mix 0 (tblAt cs) ca) ws S Q E)) := by
  obtain ⟨d_Counting_eq, F_Counting_eq⟩ := c.def_ 0 (d := dd_Counting_eq) rfl
  obtain ⟨d_Counting_init, F_Counting_init⟩ := c.def_ 1 (d := dd_Counting_init) rfl
  obtain ⟨d_law_sum, F_law_sum⟩ := c.def_ 2 (d := dd_law_sum) rfl
  obtain ⟨d_law_after, F_law_after⟩ := c.def_ 3 (d := dd_law_after) rfl
  obtain ⟨d_law_any, F_law_any⟩ := c.def_ 4 (d := dd_law_any) rfl
  obtain ⟨d_law_still, F_law_still⟩ := c.def_ 5 (d := dd_law_still) rfl
  obtain ⟨d_law_corner, F_law_corner⟩ := c.def_ 6 (d := dd_law_corner) rfl
  obtain ⟨d_law_of, F_law_of⟩ := c.def_ 7 (d := dd_law_of) rfl
  obtain ⟨d_law_names, F_law_names⟩ := c.def_ 8 (d := dd_law_names) rfl
  obtain ⟨d_law_size_of, F_law_size_of⟩ := c.def_ 9 (d := dd_law_size_of) rfl
  obtain ⟨d_law_uni, F_law_uni⟩ := c.def_ 10 (d := dd_law_uni) rfl
  obtain ⟨d_law_counts, F_law_counts⟩ := c.def_ 11 (d := dd_law_counts) rfl
  obtain ⟨d_law_counts_row, F_law_counts_row⟩ := c.def_ 12 (d := dd_law_counts_row) rfl
  obtain ⟨d_law_deal, F_law_deal⟩ := c.def_ 13 (d := dd_law_deal) rfl
  obtain ⟨d_law_full, F_law_full⟩ := c.def_ 14 (d := dd_law_full) rfl
  obtain ⟨d_law_is_int, F_law_is_int⟩ := c.def_ 15 (d := dd_law_is_int) rfl
  obtain ⟨d_law_is_uni, F_law_is_uni⟩ := c.def_ 16 (d := dd_law_is_uni) rfl
  obtain ⟨d_law_log, F_law_log⟩ := c.def_ 17 (d := dd_law_log) rfl
  obtain ⟨d_law_played, F_law_played⟩ := c.def_ 18 (d := dd_law_played) rfl
  obtain ⟨d_law_who, F_law_who⟩ := c.def_ 19 (d := dd_law_who) rfl
  obtain ⟨d_still_uni, F_still_uni⟩ := c.def_ 20 (d := dd_still_uni) rfl
  obtain ⟨d_corner, F_corner⟩ := c.def_ 21 (d := dd_corner) rfl
  obtain ⟨d_counts_behind, F_counts_behind⟩ := c.def_ 22 (d := dd_counts_behind) rfl
  obtain ⟨d_uni_joined, F_uni_joined⟩ := c.def_ 23 (d := dd_uni_joined) rfl
  obtain ⟨d_counted, F_counted⟩ := c.def_ 24 (d := dd_counted) rfl
  obtain ⟨d_full_counting, F_full_counting⟩ := c.def_ 25 (d := dd_full_counting) rfl
  obtain ⟨d_is_int, F_is_int⟩ := c.def_ 26 (d := dd_is_int) rfl
  obtain ⟨d_is_tuple_of, F_is_tuple_of⟩ := c.def_ 27 (d := dd_is_tuple_of) rfl
  obtain ⟨d_is_uni, F_is_uni⟩ := c.def_ 28 (d := dd_is_uni) rfl
  obtain ⟨d_uni_back, F_uni_back⟩ := c.def_ 29 (d := dd_uni_back) rfl
  obtain ⟨d_law, F_law⟩ := c.def_ 30 (d := dd_law) rfl
  let T : Txt K mg := { f_Counting_eq := _, d_Counting_eq := d_Counting_eq, F_Counting_eq := F_Counting_eq, f_Counting_init := _, d_Counting_init := d_Counting_init, F_Counting_init := F_Counting_init, f_law_sum := _, d_law_sum := d_law_sum, F_law_sum := F_law_sum, m_law_sum := He.glo_ok X G (c.fact 0 (f := .glo "_law_sum") rfl), f_law_after := _, d_law_after := d_law_after, F_law_after := F_law_after, m_law_after := He.glo_ok X G (c.fact 1 (f := .glo "_law_after") rfl), f_law_any := _, d_law_any := d_law_any, F_law_any := F_law_any, m_law_any := He.glo_ok X G (c.fact 2 (f := .glo "_law_any") rfl), f_law_still := _, d_law_still := d_law_still, F_law_still := F_law_still, m_law_still := He.glo_ok X G (c.fact 3 (f := .glo "_law_still") rfl), f_law_corner := _, d_law_corner := d_law_corner, F_law_corner := F_law_corner, m_law_corner := He.glo_ok X G (c.fact 4 (f := .glo "_law_corner") rfl), f_law_of := _, d_law_of := d_law_of, F_law_of := F_law_of, m_law_of := He.glo_ok X G (c.fact 5 (f := .glo "_law_of") rfl), f_law_names := _, d_law_names := d_law_names, F_law_names := F_law_names, m_law_names := He.glo_ok X G (c.fact 6 (f := .glo "_law_names") rfl), f_law_size_of := _, d_law_size_of := d_law_size_of, F_law_size_of := F_law_size_of, m_law_size_of := He.glo_ok X G (c.fact 7 (f := .glo "_law_size_of") rfl), f_law_uni := _, d_law_uni := d_law_uni, F_law_uni := F_law_uni, m_law_uni := He.glo_ok X G (c.fact 8 (f := .glo "_law_uni") rfl), f_law_counts := _, d_law_counts := d_law_counts, F_law_counts := F_law_counts, m_law_counts := He.glo_ok X G (c.fact 9 (f := .glo "_law_counts") rfl), f_law_counts_row := _, d_law_counts_row := d_law_counts_row, F_law_counts_row := F_law_counts_row, m_law_counts_row := He.glo_ok X G (c.fact 10 (f := .glo "_law_counts_row") rfl), f_law_deal := _, d_law_deal := d_law_deal, F_law_deal := F_law_deal, m_law_deal := He.glo_ok X G (c.fact 11 (f := .glo "_law_deal") rfl), f_law_full := _, d_law_full := d_law_full, F_law_full := F_law_full, m_law_full := He.glo_ok X G (c.fact 12 (f := .glo "_law_full") rfl), f_law_is_int := _, d_law_is_int := d_law_is_int, F_law_is_int := F_law_is_int, m_law_is_int := He.glo_ok X G (c.fact 13 (f := .glo "_law_is_int") rfl), f_law_is_uni := _, d_law_is_uni := d_law_is_uni, F_law_is_uni := F_law_is_uni, m_law_is_uni := He.glo_ok X G (c.fact 14 (f := .glo "_law_is_uni") rfl), f_law_log := _, d_law_log := d_law_log, F_law_log := F_law_log, m_law_log := He.glo_ok X G (c.fact 15 (f := .glo "_law_log") rfl), f_law_played := _, d_law_played := d_law_played, F_law_played := F_law_played, m_law_played := He.glo_ok X G (c.fact 16 (f := .glo "_law_played") rfl), f_law_who := _, d_law_who := d_law_who, F_law_who := F_law_who, m_law_who := He.glo_ok X G (c.fact 17 (f := .glo "_law_who") rfl), f_still_uni := _, d_still_uni := d_still_uni, F_still_uni := F_still_uni, m_still_uni := He.glo_ok X G (c.fact 18 (f := .glo "still_uni") rfl), f_corner := _, d_corner := d_corner, F_corner := F_corner, m_corner := He.glo_ok X G (c.fact 19 (f := .glo "corner") rfl), f_counts_behind := _, d_counts_behind := d_counts_behind, F_counts_behind := F_counts_behind, m_counts_behind := He.glo_ok X G (c.fact 20 (f := .glo "counts_behind") rfl), f_uni_joined := _, d_uni_joined := d_uni_joined, F_uni_joined := F_uni_joined, m_uni_joined := He.glo_ok X G (c.fact 21 (f := .glo "uni_joined") rfl), f_counted := _, d_counted := d_counted, F_counted := F_counted, m_counted := He.glo_ok X G (c.fact 22 (f := .glo "counted") rfl), f_full_counting := _, d_full_counting := d_full_counting, F_full_counting := F_full_counting, m_full_counting := He.glo_ok X G (c.fact 23 (f := .glo "full_counting") rfl), f_is_int := _, d_is_int := d_is_int, F_is_int := F_is_int, m_is_int := He.glo_ok X G (c.fact 24 (f := .glo "is_int") rfl), f_is_tuple_of := _, d_is_tuple_of := d_is_tuple_of, F_is_tuple_of := F_is_tuple_of, m_is_tuple_of := He.glo_ok X G (c.fact 25 (f := .glo "is_tuple_of") rfl), f_is_uni := _, d_is_uni := d_is_uni, F_is_uni := F_is_uni, m_is_uni := He.glo_ok X G (c.fact 26 (f := .glo "is_uni") rfl), f_uni_back := _, d_uni_back := d_uni_back, F_uni_back := F_uni_back, m_uni_back := He.glo_ok X G (c.fact 27 (f := .glo "uni_back") rfl), f_law := _, d_law := d_law, F_law := F_law, m_law := He.glo_ok X G (c.fact 28 (f := .glo "law") rfl), z_bool := He.free_ok X G (c.fact 29 (f := .free "bool") rfl), z_isinstance := He.free_ok X G (c.fact 30 (f := .free "isinstance") rfl), z_int := He.free_ok X G (c.fact 31 (f := .free "int") rfl), z_len := He.free_ok X G (c.fact 32 (f := .free "len") rfl), z_tuple := He.free_ok X G (c.fact 33 (f := .free "tuple") rfl), z_enumerate := He.free_ok X G (c.fact 34 (f := .free "enumerate") rfl), z_any := He.free_ok X G (c.fact 35 (f := .free "any") rfl), z_all := He.free_ok X G (c.fact 36 (f := .free "all") rfl), z_range := He.free_ok X G (c.fact 37 (f := .free "range") rfl), z_sum := He.free_ok X G (c.fact 38 (f := .free "sum") rfl), z_list := He.free_ok X G (c.fact 39 (f := .free "list") rfl), z_abs := He.free_ok X G (c.fact 40 (f := .free "abs") rfl), z_sorted := He.free_ok X G (c.fact 41 (f := .free "sorted") rfl), z_dict := He.free_ok X G (c.fact 42 (f := .free "dict") rfl), z_repr := He.free_ok X G (c.fact 43 (f := .free "repr") rfl), is_Counting := ic.at 0 (c := "Counting") rfl, C_Counting := He.ga K "Counting", mC_Counting := He.glo_ok X G (c.fact 44 (f := .glo "Counting") rfl), cl_Counting := He.cls_ok (c.fact 45 (f := .cls "Counting") rfl), mk_Counting := He.mkr_ok (c.fact 46 (f := .mkr "Counting") rfl), mt_Counting_eq := He.meth_ok (c.fact 47 (f := .meth "Counting" "__eq__") rfl), na_Counting_size := He.noat_ok (c.fact 48 (f := .noat "Counting" "size") rfl), na_Counting_deeds := He.noat_ok (c.fact 49 (f := .noat "Counting" "deeds") rfl) }
  let ca : Nat → Addr := (fun i => match i with | 0 => He.ga K "Counting" | _ => 0)
  have e := hfa.symm.trans T.m_law
  cases e
  refine ⟨d_law, fun s v => FunD.bindsA (ps := ["script"]) F_law (fun _ _ _ _ _ _ us hl => match us, hl with | [_], _ => rfl) s [v] rfl, fun base _ _ tbs => ?_⟩
  have G_Counting_eq := ok_Counting_eq (P := P) (w := w) (base := base) T (mix 0 (tblAt cs) ca) (hC_Counting := rfl) 
  have G_Counting_init := ok_Counting_init (P := P) (w := w) (base := base) T (mix 0 (tblAt cs) ca) (hC_Counting := rfl) 
  have G_law_sum := ok_law_sum (P := P) (w := w) (base := base) T 
  have G_law_after := ok_law_after (P := P) (w := w) (base := base) T G_law_sum
  have G_law_any := ok_law_any (P := P) (w := w) (base := base) T 
  have G_law_still := ok_law_still (P := P) (w := w) (base := base) T 
  have G_law_corner := ok_law_corner (P := P) (w := w) (base := base) T G_law_still
  have G_law_of := ok_law_of (P := P) (w := w) (base := base) T G_law_any
  have G_law_names := ok_law_names (P := P) (w := w) (base := base) T G_law_any G_law_of
  have G_law_size_of := ok_law_size_of (P := P) (w := w) (base := base) T G_law_any G_law_of
  have G_law_uni := ok_law_uni (P := P) (w := w) (base := base) T G_law_size_of
  have G_law_counts := ok_law_counts (P := P) (w := w) (base := base) T G_law_any G_law_names G_law_uni
  have G_law_counts_row := ok_law_counts_row (P := P) (w := w) (base := base) T G_law_size_of
  have G_law_deal := ok_law_deal (P := P) (w := w) (base := base) T 
  have G_law_full := ok_law_full (P := P) (w := w) (base := base) T G_law_corner
  have G_law_is_int := ok_law_is_int (P := P) (w := w) (base := base) T 
  have G_law_is_uni := ok_law_is_uni (P := P) (w := w) (base := base) T G_law_is_int
  have G_law_log := ok_law_log (P := P) (w := w) (base := base) T G_law_any G_law_of
  have G_law_played := ok_law_played (P := P) (w := w) (base := base) T G_law_after G_law_still
  have G_law_who := ok_law_who (P := P) (w := w) (base := base) T G_law_any
  have G_still_uni := ok_still_uni (P := P) (w := w) (base := base) T 
  have G_corner := ok_corner (P := P) (w := w) (base := base) T G_still_uni
  have G_counts_behind := ok_counts_behind (P := P) (w := w) (base := base) T 
  have G_uni_joined := ok_uni_joined (P := P) (w := w) (base := base) T G_counts_behind
  have G_counted := ok_counted (P := P) (w := w) (base := base) T (mix 0 (tblAt cs) ca) (hC_Counting := rfl) G_still_uni G_uni_joined
  have G_full_counting := ok_full_counting (P := P) (w := w) (base := base) T (mix 0 (tblAt cs) ca) (hC_Counting := rfl) G_Counting_init G_corner
  have G_is_int := ok_is_int (P := P) (w := w) (base := base) T 
  have G_is_tuple_of := ok_is_tuple_of (P := P) (w := w) (base := base) T 
  have G_is_uni := ok_is_uni (P := P) (w := w) (base := base) T G_is_int G_is_tuple_of
  have G_uni_back := ok_uni_back (P := P) (w := w) (base := base) T G_still_uni
  exact FnG.any (ok_law T (mix 0 (tblAt cs) ca) (hC_Counting := rfl) G_Counting_eq G_Counting_init G_law_sum G_law_after G_law_any G_law_still G_law_corner G_law_size_of G_law_uni G_law_counts G_law_counts_row G_law_deal G_law_full G_law_is_uni G_law_log G_law_played G_law_who G_still_uni G_corner G_counts_behind G_uni_joined G_counted G_full_counting G_is_uni G_uni_back) fun ws S Q E h => h ca
end Lk53
open PySem PySem.W PySem.Calls PyProof.Rows in
set_option maxRecDepth 90000 in
set_option maxHeartbeats 0 in
theorem PySem.Challenge.cw_handsaway_k53_whole_unis_joined_turned_b_holds : PySem.Challenge.rw_handsaway_k53_whole_unis_joined_turned_b.Holds := by
  w_on; o_law
  refine HandSHeadRun.head_any (r := OpenLaw.row PySem.Challenge.rw_handsaway_k53_whole_unis_joined_turned_b) (q := view (OpenLaw.row PySem.Challenge.rw_handsaway_k53_whole_unis_joined_turned_b).prog [32]) (H := Lk53.hk) (ob := Lk53.ob) (M := 20000) (loose := Lk53.loose) (d := HandSHeadRun.topDef (OpenLaw.row PySem.Challenge.rw_handsaway_k53_whole_unis_joined_turned_b).prog 32) (kwd := []) Lk53.seen_eq
    (by kernel_rfl) (fun s => by kernel_rfl) Lk53.run (by kernel_rfl) (by kernel_rfl) (by kernel_rfl) (by rfl) (by first | assumption | decide +kernel) (by decide +kernel) ⟨rfl, rfl, rfl, rfl, rfl, by decide +kernel⟩ ?hw ?hc
  case hw => w_witness2
  case hc =>
    refine H3.walk3T (l := PySem.Challenge.rw_handsaway_k53_whole_unis_joined_turned_b) (k := 6) (x := "script") rfl (by kernel_rfl) ⟨rfl, by decide, by decide⟩ Lk53.qsl (fun tb ws S Q E => ∀ ca : Nat → PySem.Addr, Lk53.sp_law (H3.mix 0 tb ca) ws S Q E) ?F (fun tb S ns hl ht ca => Lk53.law_start _ S ns hl fun i q h => (H3.mix_lt (List.getElem?_eq_some_iff.mp h).1).symm ▸ ht i q h)
    intro w mg fa h Y G told
    obtain ⟨K, KX, c, ⟨⟨cs, t⟩, r⟩, qc, ic, yc⟩ := Y
    have toldLaw : mg ("law" : PySem.Str) = some (.ref fa) := by
      have e : (HandSHeadRun.topDef (OpenLaw.row PySem.Challenge.rw_handsaway_k53_whole_unis_joined_turned_b).prog 32).name = ("law" : PySem.Str) := by kernel_rfl
      rw [← e]
      exact told
    obtain ⟨fd, hb, hF⟩ := Lk53.facts (P := (PySem.Challenge.rw_handsaway_k53_whole_unis_joined_turned_b).prog) (w := w) KX G toldLaw c t r (by decide +kernel) (by decide +kernel) qc ic yc
    exact ⟨K, fd, cs, KX, t.len.symm, t.apart, t.each, hb, hF⟩


